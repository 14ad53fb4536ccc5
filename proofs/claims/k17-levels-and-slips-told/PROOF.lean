import PyProof.Rows.All
import Wide.All
import OpenK.AllK
import Wide.FinOn
import HandS.ForMost
import HandS.ForExc
import HandS.IsInst
import HandS.CallSlots
import HandS.TryMany
import KE.SortData
import KE.DataCmp
import KE.SortCalls
import PyProof.ReprReads
import PyProof.Rows.StrFacts2
import HandS.TupAny
import HandS.TupMul
import HandS.Deep
import HandS.Style
import PyProof.Rows.IntBool
import PyProof.StrOps2
import HandS.Conv
import PyProof.ReprRoads
import HandS.Flt
import KE.GoesMore
import KE.GoesEnum
import HandS.Zip
import HandS.DictComp
import HandS.Flow
import HandS.Star
import PyProof.RulesMatch
import PyProof.ReprLen
import PyProof.StrLawsRepr
import PyProof.Rows.RegStrFacts
import PySem.Challenge.RW_unbooked_k17_levels_and_slips_told
set_option Elab.async false
set_option linter.all false
set_option maxRecDepth 100000
set_option maxHeartbeats 4000000
namespace Rf
open PySem PySem.Spec PyProof.Rows L2

/-! ### data -/
inductive D where
  | non | bl (b : Bool) | int (i : Int) | str (x : List Nat)
  | tup (xs : List D) | lst (xs : List D) | dct (ks : List Key) (vs : List D)
  deriving Inhabited

mutual
def Rep (H : Hp) : D → V → Prop
  | .non, v => v = .non
  | .bl b, v => v = .bl b
  | .int i, v => v = .int i
  | .str x, v => v = .str ⟨x.toArray⟩ ∧ x.length ≤ sizeLine
  | .tup ds, v => ∃ a vs, v = .ref a ∧ H a = some (.tup vs) ∧ RepL H ds vs
  | .lst ds, v => ∃ a o vs, v = .ref a ∧ H a = some (.frz o (.lst vs)) ∧ RepL H ds vs
  | .dct ks ds, v => ∃ a o kvs, v = .ref a ∧ H a = some (.frz o (.dK kvs)) ∧ kvs.map (·.1) = ks ∧ RepL H ds (kvs.map (·.2))
def RepL (H : Hp) : List D → List V → Prop
  | [], vs => vs = []
  | d :: ds, vs => ∃ v r, vs = v :: r ∧ Rep H d v ∧ RepL H ds r
end

/-- what stays for ever stays -/
structure Pers (H H' : Hp) : Prop where
  tup : ∀ a xs, H a = some (.tup xs) → H' a = some (.tup xs)
  frz : ∀ a o u, H a = some (.frz o u) → H' a = some (.frz o u)
theorem Pers.refl (H : Hp) : Pers H H := ⟨fun _ _ h => h, fun _ _ _ h => h⟩
theorem Pers.trans {H H1 H2 : Hp} (a : Pers H H1) (b : Pers H1 H2) : Pers H H2 := ⟨fun c xs h => b.tup c xs (a.tup c xs h), fun c o u h => b.frz c o u (a.frz c o u h)⟩
theorem Pers.of_same {H H' : Hp} (h : Same H H') : Pers H H' := ⟨fun a _ e => h a _ e, fun a _ _ e => h a _ e⟩

mutual
theorem Rep.pers {H H' : Hp} (p : Pers H H') : ∀ (d : D) (v : V), Rep H d v → Rep H' d v
  | .non, _, h => h
  | .bl _, _, h => h
  | .int _, _, h => h
  | .str _, _, h => h
  | .tup ds, v, h => by
    simp only [Rep] at h ⊢
    obtain ⟨a, vs, e, h1, h2⟩ := h
    exact ⟨a, vs, e, p.tup _ _ h1, RepL.pers p ds vs h2⟩
  | .lst ds, v, h => by
    simp only [Rep] at h ⊢
    obtain ⟨a, o, vs, e, h1, h2⟩ := h
    exact ⟨a, o, vs, e, p.frz _ _ _ h1, RepL.pers p ds vs h2⟩
  | .dct ks ds, v, h => by
    simp only [Rep] at h ⊢
    obtain ⟨a, o, kvs, e, h1, h2, h3⟩ := h
    exact ⟨a, o, kvs, e, p.frz _ _ _ h1, h2, RepL.pers p ds _ h3⟩
theorem RepL.pers {H H' : Hp} (p : Pers H H') : ∀ (ds : List D) (vs : List V), RepL H ds vs → RepL H' ds vs
  | [], _, h => h
  | d :: ds, vs, h => by
    simp only [RepL] at h ⊢
    obtain ⟨v, r, e, h1, h2⟩ := h
    exact ⟨v, r, e, Rep.pers p d v h1, RepL.pers p ds r h2⟩
end

/-- readable now: at rest for ever, or a list (a dict) that is still open at the top -/
def Rd (H : Hp) : D → V → Prop
  | .lst ds, v => ∃ a vs, v = .ref a ∧ L2.Rd H a (.lst vs) ∧ RepL H ds vs
  | .dct ks ds, v => ∃ a kvs, v = .ref a ∧ L2.Rd H a (.dK kvs) ∧ kvs.map (·.1) = ks ∧ RepL H ds (kvs.map (·.2))
  | d, v => Rep H d v
theorem Rd.of {H : Hp} : ∀ {d : D} {v : V}, Rep H d v → Rd H d v
  | .non, _, h => h
  | .bl _, _, h => h
  | .int _, _, h => h
  | .str _, _, h => h
  | .tup _, _, h => h
  | .lst ds, v, h => by
    simp only [Rep] at h
    obtain ⟨a, o, vs, e, h1, h2⟩ := h
    exact ⟨a, vs, e, .inr ⟨o, h1⟩, h2⟩
  | .dct ks ds, v, h => by
    simp only [Rep] at h
    obtain ⟨a, o, kvs, e, h1, h2, h3⟩ := h
    exact ⟨a, kvs, e, .inr ⟨o, h1⟩, h2, h3⟩
def RdL (H : Hp) : List D → List V → Prop
  | [], vs => vs = []
  | d :: ds, vs => ∃ v r, vs = v :: r ∧ Rd H d v ∧ RdL H ds r
theorem RepL.len {H : Hp} : ∀ {ds : List D} {vs : List V}, RepL H ds vs → ds.length = vs.length
  | [], vs, h => by simp only [RepL] at h; subst h; rfl
  | d :: ds, vs, h => by
    simp only [RepL] at h
    obtain ⟨v, r, e, h1, h2⟩ := h
    subst e
    simp [RepL.len h2]
theorem RdL.len {H : Hp} : ∀ {ds : List D} {vs : List V}, RdL H ds vs → ds.length = vs.length
  | [], vs, h => by simp only [RdL] at h; subst h; rfl
  | d :: ds, vs, h => by
    simp only [RdL] at h
    obtain ⟨v, r, e, h1, h2⟩ := h
    subst e
    simp [RdL.len h2]
theorem RdL.of {H : Hp} : ∀ {ds : List D} {vs : List V}, RepL H ds vs → RdL H ds vs
  | [], vs, h => by simp only [RepL] at h; exact h
  | d :: ds, vs, h => by
    simp only [RepL] at h
    obtain ⟨v, r, e, h1, h2⟩ := h
    exact ⟨v, r, e, Rd.of h1, RdL.of h2⟩
theorem RepL.append {H : Hp} : ∀ {ds es : List D} {vs us : List V}, RepL H ds vs → RepL H es us → RepL H (ds ++ es) (vs ++ us)
  | [], es, vs, us, h, g => by simp only [RepL] at h; subst h; exact g
  | d :: ds, es, vs, us, h, g => by
    simp only [RepL, List.cons_append] at h ⊢
    obtain ⟨v, r, e, h1, h2⟩ := h
    subst e
    exact ⟨v, r ++ us, rfl, h1, RepL.append h2 g⟩
theorem RepL.get {H : Hp} : ∀ {ds : List D} {vs : List V} {i : Nat} {d : D}, RepL H ds vs → ds[i]? = some d → ∃ v, vs[i]? = some v ∧ Rep H d v
  | [], vs, i, d, h, e => by simp at e
  | d :: ds, vs, 0, x, h, e => by
    simp only [RepL] at h
    obtain ⟨v, r, q, h1, h2⟩ := h
    subst q
    simp at e; subst e
    exact ⟨v, rfl, h1⟩
  | d :: ds, vs, i + 1, x, h, e => by
    simp only [RepL] at h
    obtain ⟨v, r, q, h1, h2⟩ := h
    subst q
    obtain ⟨u, q1, q2⟩ := RepL.get h2 (by simpa using e)
    exact ⟨u, by simpa using q1, q2⟩
theorem RepL.get' {H : Hp} : ∀ {ds : List D} {vs : List V} {i : Nat} {v : V}, RepL H ds vs → vs[i]? = some v → ∃ d, ds[i]? = some d ∧ Rep H d v := fun {ds vs i v} h e => by
  have hl := h.len
  obtain ⟨hi, _⟩ := List.getElem?_eq_some_iff.mp e
  obtain ⟨u, e2, r⟩ := h.get (List.getElem?_eq_getElem (by omega : i < ds.length))
  rw [e] at e2; cases e2
  exact ⟨_, List.getElem?_eq_getElem (by omega), r⟩
theorem RepL.reverse {H : Hp} : ∀ {ds : List D} {vs : List V}, RepL H ds vs → RepL H ds.reverse vs.reverse
  | [], vs, h => by simp only [RepL] at h; subst h; simp [RepL]
  | d :: ds, vs, h => by
    simp only [RepL] at h
    obtain ⟨v, r, e, h1, h2⟩ := h
    subst e
    simp only [List.reverse_cons]
    exact RepL.append (RepL.reverse h2) (by simp only [RepL]; exact ⟨v, [], rfl, h1, rfl⟩)
theorem RepL.take {H : Hp} : ∀ {ds : List D} {vs : List V} (n : Nat), RepL H ds vs → RepL H (ds.take n) (vs.take n)
  | [], vs, n, h => by simp only [RepL] at h; subst h; simp [RepL]
  | d :: ds, vs, 0, h => by simp [RepL]
  | d :: ds, vs, n + 1, h => by
    simp only [RepL] at h
    obtain ⟨v, r, e, h1, h2⟩ := h
    subst e
    simp only [List.take_succ_cons, RepL]
    exact ⟨v, _, rfl, h1, RepL.take n h2⟩
theorem RepL.drop {H : Hp} : ∀ {ds : List D} {vs : List V} (n : Nat), RepL H ds vs → RepL H (ds.drop n) (vs.drop n)
  | [], vs, n, h => by simp only [RepL] at h; subst h; simp [RepL]
  | d :: ds, vs, 0, h => h
  | d :: ds, vs, n + 1, h => by
    simp only [RepL] at h
    obtain ⟨v, r, e, h1, h2⟩ := h
    subst e
    simpa using RepL.drop n h2

/-! ### states of the small machine -/
inductive Slot where
  | none | val (d : D) | own (xs : List D) | glb (k : Nat)
  deriving Inhabited
abbrev Gd := List (Key × D)
structure Sx where
  r : List Slot
  g : List Gd
def Slot.isOwn : Slot → Bool
  | .own _ => true
  | _ => false

/-- a global dict at a -/
def GRep (H : Hp) (kd : Gd) (a : Addr) : Prop := ∃ kvs, H a = some (.dK kvs) ∧ kvs.map (·.1) = kd.map (·.1) ∧ RepL H (kd.map (·.2)) (kvs.map (·.2))
def SlotRep (l : List Addr) (H : Hp) : Slot → Option V → Prop
  | .none, _ => True
  | .val d, x => ∃ v, x = some v ∧ Rep H d v
  | .own ds, x => ∃ a vs, x = some (.ref a) ∧ H a = some (.lst vs) ∧ RepL H ds vs
  | .glb k, x => ∃ a, x = some (.ref a) ∧ l[k]? = some a
/-- what an evaluation stands in: the shared dicts' places, the heap at the def's entry, lists that an evaluation around is filling -/
structure Fx where
  l : List Addr
  H0 : Hp
  hid : List (Addr × List D)
/-- the small state is borne by the slots and the heap -/
structure SI (F : Fx) (σ : L2.St) (st : Sx) (H : Hp) : Prop where
  slot : ∀ (i : Nat) (x : Slot), st.r[i]? = some x → ∃ y, σ[i]? = some y ∧ SlotRep F.l H x y
  one : ∀ (i j : Nat) (x y : List D) (a : Addr), st.r[i]? = some (.own x) → st.r[j]? = some (.own y) → σ[i]? = some (some (.ref a)) → σ[j]? = some (some (.ref a)) → i = j
  fresh : ∀ (i : Nat) (x : List D) (a : Addr), st.r[i]? = some (.own x) → σ[i]? = some (some (.ref a)) → F.H0 a = Option.none ∧ a ∉ F.l ∧ ∀ p ∈ F.hid, p.1 ≠ a
  keep : ∀ a o, F.H0 a = some o → a ∉ F.l → H a = some o
  glen : st.g.length = F.l.length
  glob : ∀ (k : Nat) (kd : Gd) (a : Addr), st.g[k]? = some kd → F.l[k]? = some a → GRep H kd a
  gone : ∀ (i j : Nat) (a : Addr), F.l[i]? = some a → F.l[j]? = some a → i = j
  hid : ∀ p ∈ F.hid, ∃ vs, H p.1 = some (.lst vs) ∧ RepL H p.2 vs
  hfr : ∀ p ∈ F.hid, F.H0 p.1 = Option.none ∧ p.1 ∉ F.l
end Rf

set_option Elab.async false
set_option linter.all false
set_option maxRecDepth 100000
set_option maxHeartbeats 4000000
namespace Rf
open PySem PySem.Spec PyProof.Rows L2

/-! ### the small language -/
inductive Res (α : Type) where
  | ok (a : α) (s : Sx) | exc (c : Nat) (fs : List D) (s : Sx) | bad
def Res.bind {α β : Type} : Res α → (α → Sx → Res β) → Res β
  | .ok a s, f => f a s
  | .exc c fs s, _ => .exc c fs s
  | .bad, _ => .bad
inductive Ty where
  | int | bool | str | tuple | list | dict
  deriving DecidableEq
inductive P where
  | add | sub | mul | fdiv | mod | pow | neg
  | eq | ne | lt | le | gt | ge | isin | notin | isNone | notNone
  | ix
  | sset
  | len | isa (t : Ty) | int | str | repr | tuple | list | all | any | ord | min | max | sum | sorted | abs | dict
  | index | get | upper
  deriving DecidableEq
inductive Pat where
  | nm (i : Nat) | tp (ps : List Pat)
inductive ItK where
  | seq | str | rng | enum | zip | itms
  deriving DecidableEq
inductive MutK where
  | append | extend | pop | popLast
  deriving DecidableEq
/-- operations whose outcome is a bool -/
def P.fits : P → D → Bool
  | .get, .dct _ _ => true
  | .index, .lst _ => true
  | .upper, .str _ => true
  | _, _ => false
def P.bl : P → Bool
  | .eq | .ne | .lt | .le | .gt | .ge | .isin | .notin | .isNone | .notNone => true
  | _ => false
inductive E where
  | var (i : Nat) | own (i : Nat) | take (i : Nat) | gv (i : Nat)
  | kint (i : Int) | kstr (x : List Nat) | kbl (b : Bool) | knon
  | glo (x : Str) (d : D)
  | and (a b : E) | or (a b : E) | not (a : E) | ite (c a b : E)
  | prim (p : P) (es : List E)
  | chain (p q : P) (a b c : E)
  | cut (a : E) (lo hi : List E) | stp (a : E) (lo : List E) (k : Int)
  | tup (es : List E) | lst (es : List E) | dic (ks : List Key) (es : List E)
  | call (k : Nat) (es : List E)
  | mth (p : P) (a : E) (es : List E)
  | gget (i : Nat) (k : Key)
  | comp (elt : E) (pt : Pat) (it : ItK) (src : List E) (cs : List E) (ws : List Nat)
  | mutl (m : MutK) (i : Nat) (es : List E)
  | stuck
  | orV (a b : E)
  | star (a : E) (es : List E)
  | dcomp (k v : E) (pt : Pat) (it : ItK) (src : List E) (cs : List E) (ws : List Nat)
  | comp2 (elt : E) (p1 : Pat) (i1 : ItK) (s1 c1 : List E) (p2 : Pat) (i2 : ItK) (s2 c2 : List E) (ws ws2 : List Nat)
  | callP (k : Nat) (es : List E) (pm : List Nat)
  | gvals (i : Nat)
  | nxt (elt : E) (pt : Pat) (it : ItK) (src : List E) (cs : List E) (ws : List Nat) (dflt : E)
inductive FRes where
  | ret (d : D) (g : List Gd) | retG (kd : Gd) (g : List Gd) | exc (c : Nat) (fs : List D) (g : List Gd) | bad
abbrev Mirror := List Slot → List Gd → FRes
abbrev Tbl := Nat → Mirror

def E.isOwn : E → Option Nat
  | .own i => some i
  | _ => none
def E.isGv : E → Option Nat
  | .gv i => some i
  | _ => none

def D.isNon : D → Bool
  | .non => true
  | _ => false
def truth : D → Option Bool
  | .non => some false
  | .bl b => some b
  | .int i => some (i != 0)
  | .str x => some (!x.isEmpty)
  | .tup xs => some (!xs.isEmpty)
  | .lst xs => some (!xs.isEmpty)
  | .dct ks _ => some (!ks.isEmpty)

/-- the truth of a scalar -/
def truS : D → Option Bool
  | .non => some false
  | .bl b => some b
  | .int i => some (i != 0)
  | _ => none

mutual
def toP : D → PyData
  | .non => .none
  | .bl b => .bool b
  | .int i => .int i
  | .str x => .str ⟨x.toArray⟩
  | .tup xs => .tuple (toPL xs)
  | .lst xs => .list (toPL xs)
  | .dct _ _ => .dict []
def toPL : List D → List PyData
  | [] => []
  | x :: xs => toP x :: toPL xs
end
def isTy : Ty → D → Bool
  | .int, .int _ => true
  | .int, .bl _ => true
  | .bool, .bl _ => true
  | .str, .str _ => true
  | .tuple, .tup _ => true
  | .list, .lst _ => true
  | .dict, .dct _ _ => true
  | _, _ => false
abbrev big : Nat := 16777216
/-- == of data -/
def eqD : D → D → Option Bool
  | .int i, .int j => some (decide (i = j))
  | .bl i, .bl j => some (decide (i = j))
  | .str x, .str y => some (decide (x = y))
  | .non, .non => some true
  | .non, .int _ => some false
  | .int _, .non => some false
  | .non, .bl _ => some false
  | .bl _, .non => some false
  | .non, .str _ => some false
  | .str _, .non => some false
  | .int _, .str _ => some false
  | .str _, .int _ => some false
  | .bl _, .str _ => some false
  | .str _, .bl _ => some false
  | a, b => if SeqAt.shaped (toP a) && SeqAt.shaped (toP b) then some (PyData.eqv (toP a) (toP b)) else none
def inD : D → D → Option Bool
  | d, .str y => match d with
    | .str [c] => some (decide (c ∈ y))
    | _ => none
  | d, .lst xs => if SeqAt.shaped (toP d) && SeqAt.shaped (toP (.lst xs)) then some ((toPL xs).any fun z => PyData.eqv z (toP d)) else none
  | d, .tup xs => if SeqAt.shaped (toP d) && SeqAt.shaped (toP (.tup xs)) then some ((toPL xs).any fun z => PyData.eqv z (toP d)) else none
  | _, _ => none
def ltD (f : PyData → PyData → Bool) (a b : D) : Option Bool :=
  let x := toP a
  let y := toP b
  if PySem.W.alike x y && decide (min x.depth y.depth ≤ 64) then (match a with | .non => none | _ => some (f x y)) else none
def cutL {α : Type} (xs : List α) (lo hi : Option Int) : List α := (xs.drop (HT.sIx xs.length 0 lo)).take (HT.sIx xs.length xs.length hi - HT.sIx xs.length 0 lo)
def cutD : D → Option Int → Option Int → Option D
  | .tup xs, lo, hi => some (.tup (cutL xs lo hi))
  | .lst xs, lo, hi => some (.lst (cutL xs lo hi))
  | .str x, lo, hi => some (.str (cutL x lo hi))
  | _, _, _ => none
def stpL {α : Type} (xs : List α) (lo : Option Int) (k : Int) : List α :=
  (sliceRange (sliceBounds lo none (some k) xs.length).1 (sliceBounds lo none (some k) xs.length).2.1 (sliceBounds lo none (some k) xs.length).2.2).filterMap (xs[·]?)
def stpD : D → Option Int → Int → Option D
  | .lst xs, lo, k => if k ≠ 0 ∧ (stpL xs lo k).length ≤ big then some (.lst (stpL xs lo k)) else none
  | .tup xs, lo, k => if lo = none ∧ k = -1 then some (.tup xs.reverse) else none
  | _, _, _ => none
def ixD : D → Int → Option D
  | .tup xs, i => atI xs i
  | .lst xs, i => atI xs i
  | .str x, i => (atI x i).map fun c => .str [c]
  | _, _ => none
def boolsD : List D → Option (List Bool)
  | [] => some []
  | .bl b :: r => (boolsD r).map (b :: ·)
  | _ :: _ => none
def intsD : List D → Option (List Int)
  | [] => some []
  | .int b :: r => (intsD r).map (b :: ·)
  | _ :: _ => none

def getK (kd : Gd) (k : Key) : Option D := (kd.find? fun kv => decide (kv.1 = k)).map (·.2)
def setK (kd : Gd) (k : Key) (v : D) : Gd :=
  if (kd.any fun kv => decide (kv.1 = k)) = true then kd.map (fun kv => if kv.1 = k then (kv.1, v) else kv) else kd ++ [(k, v)]
def bI (b : Bool) : Int := if b then 1 else 0
/-- repr of data -/
def reprD (d : D) : Option (List Nat) :=
  if (toP d).canLay0 && (toP d).showable && decide ((toP d).depth ≤ 30) && decide ((toP d).shown.length ≤ big) then some (toP d).shown.cps.toList else none
def alikeL (xs : List D) : Bool := xs.all fun a => xs.all fun b => PySem.W.alike (toP a) (toP b)
def isTupC : D → Bool
  | .tup (_ :: _) => true
  | _ => false
def notTupNon : D → Bool
  | .non => false
  | .tup _ => false
  | _ => true
def sortD (xs : List D) : Option (List D) :=
  if alikeL xs && (xs.all isTupC || xs.all notTupNon) && decide (xs.length ≤ big) && xs.all (fun a => (toP a).canLay0 && decide ((toP a).depth ≤ 30)) then some (xs.mergeSort (PySem.W.dataLe false toP)) else none
def kD : Key → D
  | .inl i => .int i
  | .inr x => .str x.cps.toList
def keyFit : Key → Bool
  | .inl _ => true
  | .inr x => decide (x.cps.toList.length ≤ big)
def keyD : D → Option Key
  | .int i => some (.inl i)
  | .str x => some (.inr ⟨x.toArray⟩)
  | _ => none
def pairsD : List D → Option Gd
  | [] => some []
  | .tup [k, v] :: r => match keyD k, pairsD r with
    | some k, some g => some ((k, v) :: g)
    | _, _ => none
  | _ :: _ => none
def mergeD (kd : Gd) (more : Gd) : Gd := more.foldl (fun acc kv => setK acc kv.1 kv.2) kd
/-- the first place of an equal one -/
def indexD (d : PyData) : List PyData → Nat → Option Nat
  | [], _ => none
  | z :: r, j => if PyData.eqv z d then some j else indexD d r (j + 1)
def min2 (i j : Int) : Int := if j < i then j else i
def max2 (i j : Int) : Int := if i < j then j else i
def dMin (a b : PyData) : Nat := min a.depth b.depth
/-- what an operation gives -/
def P.ap : P → List D → Option D
  | .add, [.int i, .int j] => some (.int (i + j))
  | .add, [.bl b, .int j] => some (.int (bI b + j))
  | .add, [.int i, .bl b] => some (.int (i + bI b))
  | .add, [.str x, .str y] => if x.length + y.length ≤ big then some (.str (x ++ y)) else none
  | .add, [.tup x, .tup y] => if x.length + y.length ≤ big then some (.tup (x ++ y)) else none
  | .add, [.lst x, .lst y] => if x.length + y.length ≤ big then some (.lst (x ++ y)) else none
  | .sub, [.int i, .int j] => some (.int (i - j))
  | .sub, [.bl b, .int j] => some (.int (bI b - j))
  | .sub, [.int i, .bl b] => some (.int (i - bI b))
  | .mul, [.int i, .int j] => if i.natAbs < 2 ^ 64 ∨ j.natAbs < 2 ^ 64 then some (.int (i * j)) else none
  | .mul, [.str x, .int n] => if n.natAbs < big ∧ x.length * n.toNat ≤ big then some (.str (List.replicate n.toNat x).flatten) else none
  | .mul, [.lst x, .int n] => if n.natAbs < big ∧ x.length * n.toNat ≤ big then some (.lst (List.replicate n.toNat x).flatten) else none
  | .mul, [.tup x, .int n] => if x.length ≤ 1000 ∧ 0 ≤ n ∧ n ≤ 1000 ∧ 0 < x.length then some (.tup (List.replicate n.toNat x).flatten) else none
  | .fdiv, [.int i, .int j] => if j ≠ 0 ∧ j.natAbs < 1073741824 then some (.int (i.fdiv j)) else none
  | .mod, [.int i, .int j] => if j ≠ 0 then some (.int (i.fmod j)) else none
  | .pow, [.int i, .int j] => if 0 ≤ j ∧ j ≤ 1000000 ∧ i.natAbs < 2 ^ 64 then some (.int (i ^ j.toNat)) else none
  | .neg, [.int i] => some (.int (-i))
  | .eq, [a, b] => (eqD a b).map .bl
  | .ne, [a, b] => (eqD a b).map fun c => .bl (!c)
  | .lt, [.int i, .int j] => some (.bl (decide (i < j)))
  | .lt, [.str x, .str y] => some (.bl (decide (x < y)))
  | .lt, [.tup x, .tup y] => if (toP (.tup x)).canLay0 && (toP (.tup y)).canLay0 && PySem.W.alike (toP (.tup x)) (toP (.tup y)) && decide (dMin (toP (.tup x)) (toP (.tup y)) ≤ 64) then some (.bl (PySem.W.dataLt (toP (.tup x)) (toP (.tup y)))) else none
  | .le, [.int i, .int j] => some (.bl (decide (i ≤ j)))
  | .gt, [.int i, .int j] => some (.bl (decide (j < i)))
  | .ge, [.int i, .int j] => some (.bl (decide (j ≤ i)))
  | .isin, [a, b] => (inD a b).map .bl
  | .notin, [a, b] => (inD a b).map fun c => .bl (!c)
  | .isNone, [a] => some (.bl a.isNon)
  | .notNone, [a] => some (.bl (!a.isNon))
  | .ix, [.dct ks vs, k] => match keyD k with
    | some k => getK (ks.zip vs) k
    | none => none
  | .ix, [a, .int i] => ixD a i
  | .len, [.tup xs] => some (.int xs.length)
  | .len, [.lst xs] => some (.int xs.length)
  | .len, [.str x] => some (.int x.length)
  | .len, [.dct ks _] => some (.int ks.length)
  | .isa t, [a] => some (.bl (isTy t a))
  | .int, [.int i] => some (.int i)
  | .int, [.bl b] => some (.int (if b then 1 else 0))
  | .tuple, [.lst xs] => some (.tup xs)
  | .tuple, [.tup xs] => some (.tup xs)
  | .list, [.lst xs] => some (.lst xs)
  | .list, [.tup xs] => some (.lst xs)
  | .list, [.dct ks _] => if ks.all keyFit then some (.lst (ks.map kD)) else none
  | .sum, [.lst xs] => (intsD xs).map fun ns => .int ns.sum
  | .ord, [.str x] => match x with
    | [c] => some (.int c)
    | _ => none
  | .all, [.lst xs] => (boolsD xs).map fun bs => .bl (bs.all id)
  | .any, [.lst xs] => (boolsD xs).map fun bs => .bl (bs.any id)
  | .repr, [d] => (reprD d).map .str
  | .str, [.int i] => if i.natAbs.log2 < 1920 then some (.str (Str.ofString (toString i)).cps.toList) else none
  | .str, [.bl b] => some (.str (if b then [84, 114, 117, 101] else [70, 97, 108, 115, 101]))
  | .str, [.str x] => some (.str x)
  | .sorted, [.lst xs] => (sortD xs).map .lst
  | .min, [.int i, .int j] => some (.int (min2 i j))
  | .min, [.int i, .int j, .int k] => some (.int (min2 (min2 i j) k))
  | .max, [.int i, .int j] => some (.int (max2 i j))
  | .max, [.int i, .int j, .int k] => some (.int (max2 (max2 i j) k))
  | .abs, [.int i] => some (.int (if i < 0 then -i else i))
  | .dict, [.lst xs] => if xs.length ≤ big then (pairsD xs).map fun g => .dct ((mergeD [] g).map (·.1)) ((mergeD [] g).map (·.2)) else none
  | .get, [.dct ks vs, k, d] => (keyD k).map fun k => (getK (ks.zip vs) k).getD d
  | .get, [.dct ks vs, k] => (keyD k).map fun k => (getK (ks.zip vs) k).getD .non
  | .index, [.lst xs, d] => if SeqAt.shaped (toP (.lst xs)) && SeqAt.shaped (toP d) then (indexD (toP d) (toPL xs) 0).map fun (j : Nat) => D.int (j : Int) else none
  | .upper, [.str x] => if x.length ≤ 5592405 then some (.str (Txt.upper ⟨x.toArray⟩).cps.toList) else none
  | _, _ => none

mutual
def bindP : Pat → D → List Slot → Option (List Slot)
  | .nm i, d, r => if i < r.length then some (r.set i (.val d)) else none
  | .tp ps, .tup ds, r => bindPs ps ds r
  | .tp _, _, _ => none
def bindPs : List Pat → List D → List Slot → Option (List Slot)
  | [], [], r => some r
  | p :: ps, d :: ds, r => (bindP p d r).bind fun r1 => bindPs ps ds r1
  | _, _, _ => none
end
def wipeR (r : List Slot) : List Nat → List Slot
  | [] => r
  | v :: vs => (wipeR r vs).set v .none
/-- the names of a comprehension stand again as they stood ahead of it (where they held data) -/
def backR (r0 : List Slot) : List Nat → List Slot → List Slot
  | [], r => r
  | v :: vs, r => (backR r0 vs r).set v (match r0[v]? with | some (.val d) => .val d | some (.glb k) => .glb k | _ => .none)
def compL (b : D → List Slot → Option (List Slot)) (c : Sx → Res Bool) (e : Sx → Res D) (ws : List Nat) : List D → Sx → Res (List D)
  | [], st => .ok [] st
  | x :: xs, st => match b x (wipeR st.r ws) with
    | none => .bad
    | some r1 => (c ⟨r1, st.g⟩).bind fun t s2 => if t then (e s2).bind fun d s3 => (compL b c e ws xs s3).bind fun r s4 => .ok (d :: r) s4 else compL b c e ws xs s2
/-- a dict comprehension: the pairs so far -/
def compD (b : D → List Slot → Option (List Slot)) (c : Sx → Res Bool) (ek ev : Sx → Res D) (ws : List Nat) : List D → Gd → Sx → Res Gd
  | [], acc, st => .ok acc st
  | x :: xs, acc, st => match b x (wipeR st.r ws) with
    | none => .bad
    | some r1 => (c ⟨r1, st.g⟩).bind fun t s2 => if t then (ek s2).bind fun k s3 => (ev s3).bind fun v s4 => match keyD k with
        | some k => if acc.length < big then compD b c ek ev ws xs (setK acc k v) s4 else .bad
        | none => .bad
      else compD b c ek ev ws xs acc s2
/-- the first item that passes -/
def nextL (b : D → List Slot → Option (List Slot)) (c : Sx → Res Bool) (e : Sx → Res D) (ws : List Nat) : List D → Sx → Res (Option D)
  | [], st => .ok none st
  | x :: xs, st => match b x (wipeR st.r ws) with
    | none => .bad
    | some r1 => (c ⟨r1, st.g⟩).bind fun t s2 => if t then (e s2).bind fun d s3 => .ok (some d) s3 else nextL b c e ws xs s2
/-- the outer clause of two: the inner one's lists, one behind the other -/
def compO (b : D → List Slot → Option (List Slot)) (c : Sx → Res Bool) (f : Sx → Res (List D)) (ws : List Nat) : List D → Sx → Res (List D)
  | [], st => .ok [] st
  | x :: xs, st => match b x (wipeR st.r ws) with
    | none => .bad
    | some r1 => (c ⟨r1, st.g⟩).bind fun t s2 => if t then (f s2).bind fun ds s3 => (compO b c f ws xs s3).bind fun r s4 => .ok (ds ++ r) s4 else compO b c f ws xs s2
def rangeD (lo : Int) : Nat → List D
  | 0 => []
  | n + 1 => .int lo :: rangeD (lo + 1) n
def enumD (k : Nat) : List D → List D
  | [] => []
  | x :: xs => .tup [.int k, x] :: enumD (k + 1) xs
def zipD : List D → List D → List D
  | x :: xs, y :: ys => .tup [x, y] :: zipD xs ys
  | _, _ => []
def stepR (lo st : Int) : Nat → List D
  | 0 => []
  | n + 1 => .int lo :: stepR (lo + st) st n
def ItK.get : ItK → List D → Option (List D)
  | .enum, [.tup xs] => if xs.length ≤ big then some (enumD 0 xs) else none
  | .enum, [.lst xs] => if xs.length ≤ big then some (enumD 0 xs) else none
  | .zip, [.tup xs, .tup ys] => some (zipD xs ys)
  | .zip, [.lst xs, .lst ys] => some (zipD xs ys)
  | .rng, [.int i, .int j, .int k] => if k ≠ 0 ∧ k.natAbs < 1073741824 ∧ PySem.Builtin.Range.small i j k = true ∧ 0 ≤ PySem.Builtin.Range.rangeSize i j k then some (stepR i k (PySem.Builtin.Range.rangeSize i j k).toNat) else none
  | .seq, [.tup xs] => some xs
  | .seq, [.lst xs] => some xs
  | .str, [.str x] => some (x.map fun c => .str [c])
  | .rng, [.int j] => if -(2 ^ 62) ≤ j ∧ j < 2 ^ 62 then some (rangeD 0 j.toNat) else none
  | .rng, [.int i, .int j] => if -(2 ^ 62) ≤ i ∧ i < 2 ^ 62 ∧ -(2 ^ 62) ≤ j ∧ j < 2 ^ 62 then some (rangeD i (j - i).toNat) else none
  | _, _ => none
def MutK.ap : MutK → List D → List D → Option (D × List D)
  | .append, xs, [d] => if xs.length < big then some (.non, xs ++ [d]) else none
  | .extend, xs, [.lst ys] => if xs.length + ys.length ≤ big then some (.non, xs ++ ys) else none
  | .pop, xs, [.int i] => match ixN xs.length i with
    | some k => (xs[k]?).map fun y => (y, xs.eraseIdx k)
    | none => none
  | .popLast, xs, [] => (xs[xs.length - 1]?).map fun y => (y, xs.dropLast)
  | _, _, _ => none
def seqD : D → Option (List D)
  | .tup xs => some xs
  | .lst xs => some xs
  | _ => none
def pick (xs : List Slot) (pm : List Nat) : List Slot := pm.map fun i => xs.getD i .none
def ofOpt (o : Option D) (st : Sx) : Res D := match o with
  | some d => .ok d st
  | none => .bad

mutual
def ev (T : Tbl) : E → Sx → Res D
  | .var i, st => match st.r[i]? with
    | some (.val d) => .ok d st
    | _ => .bad
  | .own _, _ => .bad
  | .gv _, _ => .bad
  | .take i, st => match st.r[i]? with
    | some (.own xs) => .ok (.lst xs) ⟨st.r.set i .none, st.g⟩
    | _ => .bad
  | .kint i, st => .ok (.int i) st
  | .kstr x, st => .ok (.str x) st
  | .kbl b, st => .ok (.bl b) st
  | .knon, st => .ok .non st
  | .glo _ d, st => .ok d st
  | .and a b, st => (ev T a st).bind fun d s1 => match d with
    | .bl true => ev T b s1
    | .bl false => .ok (.bl false) s1
    | _ => .bad
  | .or a b, st => (ev T a st).bind fun d s1 => match d with
    | .bl true => .ok (.bl true) s1
    | .bl false => ev T b s1
    | _ => .bad
  | .not a, st => (ev T a st).bind fun d s1 => match truth d with
    | some b => .ok (.bl (!b)) s1
    | none => .bad
  | .ite c a b, st => (ev T c st).bind fun d s1 => match truth d with
    | some true => ev T a s1
    | some false => ev T b s1
    | none => .bad
  | .prim p es, st => (evs T es st).bind fun ds s1 => ofOpt (p.ap ds) s1
  | .chain p q a b c, st => (ev T a st).bind fun x s1 => (ev T b s1).bind fun y s2 => match p.ap [x, y] with
    | some (.bl true) => (ev T c s2).bind fun z s3 => ofOpt (q.ap [y, z]) s3
    | some (.bl false) => .ok (.bl false) s2
    | _ => .bad
  | .cut a lo hi, st => match a.isOwn with
    | some i => match st.r[i]? with
      | some (.own _) => (evp T lo st).bind fun l s1 => (evp T hi s1).bind fun h s2 => match s2.r[i]? with
        | some (.own xs) => ofOpt (cutD (.lst xs) l h) s2
        | _ => .bad
      | _ => .bad
    | none => (ev T a st).bind fun d s0 => (evp T lo s0).bind fun l s1 => (evp T hi s1).bind fun h s2 => ofOpt (cutD d l h) s2
  | .stp a lo k, st => match a.isOwn with
    | some i => match st.r[i]? with
      | some (.own _) => (evp T lo st).bind fun l s1 => match s1.r[i]? with
        | some (.own xs) => ofOpt (stpD (.lst xs) l k) s1
        | _ => .bad
      | _ => .bad
    | none => (ev T a st).bind fun d s0 => (evp T lo s0).bind fun l s1 => ofOpt (stpD d l k) s1
  | .tup es, st => (evs T es st).bind fun ds s1 => if ds.length ≤ big then .ok (.tup ds) s1 else .bad
  | .lst es, st => (evs T es st).bind fun ds s1 => if ds.length ≤ big then .ok (.lst ds) s1 else .bad
  | .dic ks es, st => (evs T es st).bind fun ds s1 => if ks.length = ds.length ∧ ks.length ≤ 15 ∧ ks.Nodup then .ok (.dct ks ds) s1 else .bad
  | .call k es, st => (evc T es st).bind fun xs s1 => match T k xs s1.g with
    | .ret d g => .ok d ⟨s1.r, g⟩
    | .exc c fs g => .exc c fs ⟨s1.r, g⟩
    | _ => .bad
  | .mth p a es, st => (ev T a st).bind fun d s0 => if p.fits d then (evs T es s0).bind fun ds s1 => ofOpt (p.ap (d :: ds)) s1 else .bad
  | .gget i k, st => match st.r[i]? with
    | some (.glb j) => match st.g[j]? with
      | some kd => ofOpt (getK kd k) st
      | none => .bad
    | _ => .bad
  | .comp elt pt it src cs ws, st => (evs T src st).bind fun ds s1 => match it.get ds with
    | some xs => match compL (bindP pt) (evt T cs) (ev T elt) ws xs s1 with
      | .ok rs s2 => if rs.length ≤ big then .ok (.lst rs) ⟨backR s1.r ws s2.r, s2.g⟩ else .bad
      | _ => .bad
    | none => .bad
  | .mutl m i es, st => match st.r[i]? with
    | some (.own _) => (evs T es st).bind fun ds s1 => match s1.r[i]? with
      | some (.own xs) => match m.ap xs ds with
        | some (d, ys) => .ok d ⟨s1.r.set i (.own ys), s1.g⟩
        | none => .bad
      | _ => .bad
    | _ => .bad
  | .stuck, _ => .bad
  | .orV a b, st => (ev T a st).bind fun d s1 => match truS d with
    | some true => .ok d s1
    | some false => ev T b s1
    | none => .bad
  | .star a es, st => match a.isOwn with
    | some i => match st.r[i]? with
      | some (.own xs) => (evs T es st).bind fun ds s1 => if xs.length + ds.length ≤ big then .ok (.tup (xs ++ ds)) s1 else .bad
      | _ => .bad
    | none => (ev T a st).bind fun d s0 => match seqD d with
      | some xs => (evs T es s0).bind fun ds s1 => if xs.length + ds.length ≤ big then .ok (.tup (xs ++ ds)) s1 else .bad
      | none => .bad
  | .dcomp k v pt it src cs ws, st => (evs T src st).bind fun ds s1 => match it.get ds with
    | some xs => match compD (bindP pt) (evt T cs) (ev T k) (ev T v) ws xs [] s1 with
      | .ok kd s2 => .ok (.dct (kd.map (·.1)) (kd.map (·.2))) ⟨backR s1.r ws s2.r, s2.g⟩
      | _ => .bad
    | none => .bad
  | .comp2 elt p1 i1 src1 c1 p2 i2 src2 c2 ws ws2, st => (evs T src1 st).bind fun ds s1 => match i1.get ds with
    | some xs => match compO (bindP p1) (evt T c1) (fun s => (evs T src2 s).bind fun es s2 => match i2.get es with
        | some ys => compL (bindP p2) (evt T c2) (ev T elt) ws2 ys s2
        | none => .bad) ws xs s1 with
      | .ok rs s2 => if rs.length ≤ big then .ok (.lst rs) ⟨backR s1.r ws s2.r, s2.g⟩ else .bad
      | _ => .bad
    | none => .bad
  | .callP k es pm, st => (evc T es st).bind fun xs s1 => match T k (pick xs pm) s1.g with
    | .ret d g => .ok d ⟨s1.r, g⟩
    | .exc c fs g => .exc c fs ⟨s1.r, g⟩
    | _ => .bad
  | .gvals i, st => match st.r[i]? with
    | some (.glb j) => match st.g[j]? with
      | some kd => if kd.length ≤ big then .ok (.tup (kd.map (·.2))) st else .bad
      | none => .bad
    | _ => .bad
  | .nxt _ _ _ _ _ _ _, _ => .bad
def evs (T : Tbl) : List E → Sx → Res (List D)
  | [], st => .ok [] st
  | a :: as, st => match a.isOwn with
    | some i => match st.r[i]? with
      | some (.own _) => (evs T as st).bind fun ds s1 => match s1.r[i]? with
        | some (.own xs) => .ok (.lst xs :: ds) s1
        | _ => .bad
      | some (.glb j) => (evs T as st).bind fun ds s1 => match s1.r[i]? with
        | some (.glb k) => match s1.g[k]? with
          | some kd => if j = k then .ok (.dct (kd.map (·.1)) (kd.map (·.2)) :: ds) s1 else .bad
          | none => .bad
        | _ => .bad
      | _ => .bad
    | none => (ev T a st).bind fun d s1 => (evs T as s1).bind fun ds s2 => .ok (d :: ds) s2
def evp (T : Tbl) : List E → Sx → Res (Option Int)
  | [], st => .ok none st
  | a :: _, st => (ev T a st).bind fun d s1 => match d with
    | .int i => .ok (some i) s1
    | _ => .bad
def evt (T : Tbl) : List E → Sx → Res Bool
  | [], st => .ok true st
  | c :: cs, st => (ev T c st).bind fun d s1 => match truth d with
    | some true => evt T cs s1
    | some false => .ok false s1
    | none => .bad
def evc (T : Tbl) : List E → Sx → Res (List Slot)
  | [], st => .ok [] st
  | a :: as, st => match a.isGv with
    | some i => match st.r[i]? with
      | some (.glb k) => (evc T as st).bind fun ds s1 => .ok (.glb k :: ds) s1
      | _ => .bad
    | none => (ev T a st).bind fun d s1 => (evc T as s1).bind fun ds s2 => .ok (.val d :: ds) s2
end
example : ev (fun _ _ _ => .bad) (.prim .add [.kint 3, .kint 4]) ⟨[], []⟩ = .ok (.int 7) ⟨[], []⟩ := by rfl
end Rf

set_option Elab.async false
set_option linter.all false
set_option maxRecDepth 100000
set_option maxHeartbeats 4000000
namespace Rf
open PySem PySem.Spec PyProof.Rows L2

/-! ### a def's promise, where nothing is being shown (no repr runs) -/
structure FnG (Pg : Program) (w : World) (K : PySem.W.Frag) (mg : Str → Option Value) (base : Heap) (k : Nat) (f : Addr) (fd : FuncData) (ps : List Str) (sp : Sp) : Prop where
  len : ∀ vs H Q E, sp vs H Q E → vs.length = ps.length
  run : ∀ (A : Around) (outer : List Env) (s : Shared) (H : Hp) (args : Args) (us : List Value) (vs : List V) (Q : VK) (E : XK), Room k A → A.guards = some [] → Env0 Pg w K mg base A outer s H →
    BindsTo s fd args (ps.zip us) → Vals vs us → sp vs H Q E → codeAny (model Pg w) A (.call (.ref f) args) (CR (L2.CX Pg w) outer Pg w H s Q E) s

theorem Fun.okG {Pg : Program} {w : World} {K : PySem.W.Frag} {mg : Str → Option Value} {base : Heap} {x qual : Str} {st : Stmt} {f : Addr} {fd : FuncData} {N ps : List Str} {k : Nat} {sp : Sp}
    (F : Fun K x qual st f fd) (S : FnScope N ps (defScope st)) (len : ∀ vs H Q E, sp vs H Q E → vs.length = ps.length)
    (body : ∀ (cdv : Value) (A : Around) (outer : List Env) (s : Shared) (H : Hp) (vs : List V) (Q : VK) (E : XK), Room k (A.deeper (envOfC qual (defScope st) s.heap.objs.size f cdv)) → A.guards = some [] → sp vs H Q E →
      ∃ t, PSs (cxOf (L2.CX Pg w) Pg w K mg base N qual (defScope st) f cdv A outer s H E) (defBody st) t ∧ t { nx := fun _ H' => Q .non H', rt := Q } (start N vs) H) :
    FnG Pg w K mg base (k + 1) f fd ps sp := by
  obtain ⟨oc, od, kV, doc, pm, an, cdv, ct, osl, rfl, lk, code⟩ := F.ex
  refine ⟨len, ?_⟩
  intro A outer s H args us vs Q E room gd e0 bnd rv want
  have kin := e0.mod.kin.keeps (fun b o e => (e0.bs b o e).1)
  have free := e0.mod.nolimit.keeps (fun b o e => (e0.bs b o e).1)
  have kinds : ∀ y ∈ ps.zip us, (defScope st).names.lookup y.1 = some .local ∨ ((defScope st).names.lookup y.1 = some .cell ∧ ((cellsFrom (s.heap.objs.size + 1) (defScope st).names []).lookup y.1).isSome = true) := by
    rintro ⟨n, v⟩ hy
    have hn := S.par n (List.of_mem_zip hy).1
    cases hn with
    | inl q => exact Or.inl q
    | inr q => exact Or.inr ⟨q, PySem.W.cellsFrom_some _ _ _ (Or.inl q)⟩
  refine codeAny_call_function room.depth (kin _ _ lk) rfl S.co S.gen rfl (PySem.W.codeRec_of kin code) (bnd _ _ _ _ ?_)
  apply wpAny_newFunctionEnv_cells S.kind kinds
  intro fn hfn s1 x
  subst hfn
  refine ⟨free.keeps x.toInCall.keep, ?_⟩
  apply codeAny_func
  have ⟨t, ht, hq⟩ := body cdv A outer s H vs Q E (room.deeper _) gd want
  have I := inv_start (CX := L2.CX Pg w) (N := N) (E := E) S room.hd e0 (len _ _ _ _ want) rv x
  have done : ∀ {σ' : L2.St} {H' : Hp} {s' : Shared} {v : V} {u : Value}, Inv (cxOf (L2.CX Pg w) Pg w K mg base N qual (defScope st) f cdv A outer s H E) [] σ' H' s' → RelV v u → Q v H' → CE outer Pg w H s Q u s' := by
    intro σ' H' s' v u J rv q
    exact ⟨v, H', J.os, J.bare, J.base, J.hok, rv, q⟩
  apply wpAny_mono (ht.run [] s1 (start N vs) H _ I hq)
  · intro fl s' hs
    cases fl
    case ret u =>
      have ⟨v, σ', H', J, rv, q⟩ := hs
      exact done J rv q
    case next =>
      have ⟨σ', H', J, q⟩ := hs
      exact done (v := V.non) (u := Value.none) J rfl q
    case brk =>
      have ⟨_, _, _, q⟩ := hs
      exact q.elim
    case cont =>
      have ⟨_, _, _, q⟩ := hs
      exact q.elim
  · exact fun e s' hs => hs

theorem runG {X : Cx} {W : WX} {k : Nat} {f : Addr} {fd : FuncData} {ps : List Str} {sp : Sp} {pins : List (Addr × Obj)} {σ : L2.St} {H : Hp} {s : Shared} {Q : VK} {us : List Value} {vs : List V} {args : Args}
    (F : FnG X.prog X.w X.K X.mg X.base k f fd ps sp) (hr : Room k X.A) (hg : X.A.guards = some []) (tk : Takes X W) (hb : BindsTo s fd args (ps.zip us)) (I : Inv X pins σ H s) (r : Vals vs us)
    (h : sp vs H Q fun cls d H' => W cls d σ H') : wpAny (model X.prog X.w) X.A (call (.ref f) args.pos args.kw) (EP X pins σ Q) X.xe s := by
  apply wpAny_call
  apply codeAny_mono (F.run X.A X.stack s H args us vs Q _ hr hg I.env0 hb r h)
  intro res s' hq
  cases res
  case error e => exact tk e s' (XE.of_call I (fun _ _ _ z => z) hq)
  case ok fl =>
    cases fl
    case ret u => exact I.after hq
    all_goals exact False.elim hq

/-! ### what is wanted behind an evaluation -/
section
variable {T : Tbl} {XR : Hp → Nat → List D → Value → Option Addr → Prop} {W : WX} {F : Fx} {σ : L2.St}

def Post (XR : Hp → Nat → List D → Value → Option Addr → Prop) (W : WX) (F : Fx) (σ : L2.St) {α : Type} (H : Hp) (r : Res α) (R : α → Hp → Prop) : Prop :=
  match r with
  | .ok a st => ∀ H', Pers H H' → SI F σ st H' → R a H'
  | .exc c fs st => ∀ cls dd H', Pers H H' → SI F σ st H' → XR H' c fs cls dd → W cls dd σ H'
  | .bad => False
theorem Post.weak {α : Type} {H H1 : Hp} {r : Res α} {R : α → Hp → Prop} (p : Pers H H1) (h : Post XR W F σ H r R) : Post XR W F σ H1 r R := by
  cases r with
  | ok a st => exact fun H' q I => h H' (p.trans q) I
  | exc c fs st => exact fun cls dd H' q I x => h cls dd H' (p.trans q) I x
  | bad => exact h
theorem Post.mono {α : Type} {H : Hp} {r : Res α} {R R' : α → Hp → Prop} (h : Post XR W F σ H r R) (hR : ∀ a st H', r = .ok a st → Pers H H' → SI F σ st H' → R a H' → R' a H') : Post XR W F σ H r R' := by
  cases r with
  | ok a st => exact fun H' q I => hR a st H' rfl q I (h H' q I)
  | exc c fs st => exact h
  | bad => exact h
/-- one after the other: behind the first, the rest from its end -/
theorem Post.bind {α β : Type} {H : Hp} {r : Res α} {f : α → Sx → Res β} {R : β → Hp → Prop} (h : Post XR W F σ H (r.bind f) R) {R' : α → Hp → Prop}
    (k : ∀ a st H', r = .ok a st → Pers H H' → SI F σ st H' → Post XR W F σ H' (f a st) R → R' a H') : Post XR W F σ H r R' := by
  cases r with
  | ok a st => exact fun H' q I => k a st H' rfl q I (Post.weak q h)
  | exc c fs st => exact h
  | bad => exact h

/-- the reading of an expression: what ev says -/
def den (T : Tbl) (XR : Hp → Nat → List D → Value → Option Addr → Prop) (W : WX) (m : E) : TE := fun σ H Q => ∃ F st, SI F σ st H ∧ Post XR W F σ H (ev T m st) fun d H' => ∀ v, Rep H' d v → Q v H'
/-- the same as a test -/
def denT (T : Tbl) (XR : Hp → Nat → List D → Value → Option Addr → Prop) (W : WX) (m : E) : TT := fun σ H Q => ∃ F st, SI F σ st H ∧ Post XR W F σ H (ev T m st) fun d H' => ∃ b, truth d = some b ∧ Q b H'
/-- of an argument: an open list is handed on as it is -/
def tE (T : Tbl) (XR : Hp → Nat → List D → Value → Option Addr → Prop) (W : WX) (a : E) : TE := match a.isOwn with
  | some i => tVar i
  | none => den T XR W a
def tL (T : Tbl) (XR : Hp → Nat → List D → Value → Option Addr → Prop) (W : WX) : List E → TA
  | [] => fun _ H Q => Q [] H
  | a :: as => fun σ H Q => tE T XR W a σ H fun x H1 => tL T XR W as σ H1 fun xs H2 => Q (x :: xs) H2
/-- what argument values stand for -/
def RX (H : Hp) : List E → List D → List V → Prop
  | [], ds, vs => ds = [] ∧ vs = []
  | a :: as, ds, vs => ∃ d dr v vr, ds = d :: dr ∧ vs = v :: vr ∧ (match a.isOwn with | some _ => Rd H d v | none => Rep H d v) ∧ RX H as dr vr
theorem RX.rd {H : Hp} : ∀ {as : List E} {ds : List D} {vs : List V}, RX H as ds vs → RdL H ds vs
  | [], ds, vs, h => by obtain ⟨rfl, rfl⟩ := h; rfl
  | a :: as, ds, vs, h => by
    obtain ⟨d, dr, v, vr, rfl, rfl, h1, h2⟩ := h
    refine ⟨v, vr, rfl, ?_, RX.rd h2⟩
    cases e : a.isOwn with
    | none => rw [e] at h1; exact Rd.of h1
    | some i => rw [e] at h1; exact h1
theorem RX.rep {H : Hp} : ∀ {as : List E} {ds : List D} {vs : List V}, (as.all fun a => a.isOwn.isNone) = true → RX H as ds vs → RepL H ds vs
  | [], ds, vs, _, h => by obtain ⟨rfl, rfl⟩ := h; simp [RepL]
  | a :: as, ds, vs, k, h => by
    obtain ⟨d, dr, v, vr, rfl, rfl, h1, h2⟩ := h
    rw [List.all_cons, Bool.and_eq_true] at k
    simp only [RepL]
    refine ⟨v, vr, rfl, ?_, RX.rep k.2 h2⟩
    cases e : a.isOwn with
    | none => rw [e] at h1; exact h1
    | some i => rw [e] at k; simp at k
theorem SI.var {st : Sx} {H : Hp} {i : Nat} {d : D} (I : SI F σ st H) (e : st.r[i]? = some (.val d)) : ∃ v, σ[i]? = some (some v) ∧ Rep H d v := by
  obtain ⟨y, h1, h2⟩ := I.slot i _ e
  obtain ⟨v, rfl, h3⟩ := h2
  exact ⟨v, h1, h3⟩
theorem SI.own {st : Sx} {H : Hp} {i : Nat} {ds : List D} (I : SI F σ st H) (e : st.r[i]? = some (.own ds)) : ∃ a vs, σ[i]? = some (some (.ref a)) ∧ H a = some (.lst vs) ∧ RepL H ds vs := by
  obtain ⟨y, h1, h2⟩ := I.slot i _ e
  obtain ⟨a, vs, rfl, h3, h4⟩ := h2
  exact ⟨a, vs, h1, h3, h4⟩
theorem args {T : Tbl} : ∀ (as : List E) (st : Sx) (H : Hp) (Q : List V → Hp → Prop), SI F σ st H → Post XR W F σ H (evs T as st) (fun ds H' => ∀ vs, RX H' as ds vs → Q vs H') → tL T XR W as σ H Q
  | [], st, H, Q, I, h => by
    simp only [evs] at h
    exact h H (Pers.refl H) I [] ⟨rfl, rfl⟩
  | a :: as, st, H, Q, I, h => by
    show tE T XR W a σ H _
    rw [evs] at h
    unfold tE
    cases e : a.isOwn with
    | none =>
      rw [e] at h
      simp only at h ⊢
      refine ⟨F, st, I, h.bind fun d s1 H1 _ p I1 q v rv => args as s1 H1 _ I1 (q.bind fun ds s2 H2 _ p2 I2 q2 vs rvs => ?_)⟩
      refine q2 H2 (Pers.refl _) I2 (v :: vs) ⟨d, ds, v, vs, rfl, rfl, ?_, rvs⟩
      rw [e]
      exact Rep.pers p2 d v rv
    | some i =>
      rw [e] at h
      simp only at h ⊢
      split at h
      · rename_i xs ex
        obtain ⟨b, us, q1, q2, q3⟩ := I.own ex
        refine ⟨.ref b, q1, args as st H _ I (h.bind fun ds s1 H1 _ p I1 q vs rvs => ?_)⟩
        split at q
        · rename_i ys ey
          obtain ⟨b', us', g1, g2, g3⟩ := I1.own ey
          rw [q1] at g1
          cases g1
          refine q H1 (Pers.refl _) I1 (.ref b :: vs) ⟨.lst ys, ds, .ref b, vs, rfl, rfl, ?_, rvs⟩
          rw [e]
          exact ⟨b, us', rfl, .inl g2, g3⟩
        · exact False.elim q
      · rename_i j ej
        obtain ⟨y, q1, q2⟩ := I.slot i _ ej
        obtain ⟨b, rfl, q3⟩ := q2
        refine ⟨.ref b, q1, args as st H _ I (h.bind fun ds s1 H1 _ p I1 q vs rvs => ?_)⟩
        split at q
        · rename_i k ek
          split at q
          · rename_i kd ekd
            split at q
            · rename_i hjk
              subst hjk
              obtain ⟨kvs, g1, g2, g3⟩ := I1.glob j kd b ekd q3
              refine q H1 (Pers.refl _) I1 (.ref b :: vs) ⟨.dct (kd.map (·.1)) (kd.map (·.2)), ds, .ref b, vs, rfl, rfl, ?_, rvs⟩
              rw [e]
              exact ⟨b, kvs, rfl, .inl g1, g2, g3⟩
            · exact False.elim q
          · exact False.elim q
        · exact False.elim q
      · exact False.elim h
end
end Rf

set_option Elab.async false
set_option linter.all false
set_option maxRecDepth 100000
set_option maxHeartbeats 4000000
namespace Rf
open PySem PySem.Spec PyProof.Rows L2

/-! ### at rest -/
/-- a result: a list (a dict) just made, open still; else at rest -/
def New (H H' : Hp) : D → V → Prop
  | .lst ds, v => ∃ a vs, v = .ref a ∧ H a = none ∧ H' a = some (.lst vs) ∧ RepL H' ds vs
  | .dct ks ds, v => ∃ a kvs, v = .ref a ∧ H a = none ∧ H' a = some (.dK kvs) ∧ kvs.map (·.1) = ks ∧ RepL H' ds (kvs.map (·.2))
  | d, v => Rep H' d v
theorem frozen {X : Cx} {pins : List (Addr × Obj)} {σ : L2.St} {H H' : Hp} {s : Shared} {d : D} {v : V} (I : Inv X pins σ H' s) (n : New H H' d v) (e : Same H H') : ∃ H2, Inv X pins σ H2 s ∧ Rep H2 d v ∧ Same H H2 := by
  have go : ∀ {a : Addr} {u : HO}, H a = none → H' a = some u → Mut (some u) → ∃ od, Inv X pins σ (upd H' a (.frz od u)) s ∧ Same H (upd H' a (.frz od u)) ∧ Pers H' (upd H' a (.frz od u)) := by
    intro a u n0 h mu
    obtain ⟨od, I2⟩ := I.lock h mu
    refine ⟨od, I2, fun b o q => ?_, fun b xs q => ?_, fun b o w q => ?_⟩
    · rw [upd_ne (ne_of_none q n0)]; exact e b o q
    · rw [upd_ne (fun z => by rw [z, h] at q; cases q; exact mu)]; exact q
    · rw [upd_ne (fun z => by rw [z, h] at q; cases q; exact mu)]; exact q
  cases d with
  | lst ds =>
    obtain ⟨a, vs, rfl, n0, h, r⟩ := n
    obtain ⟨od, I2, s2, p2⟩ := go n0 h trivial
    exact ⟨_, I2, by simp only [Rep]; exact ⟨a, od, vs, rfl, upd_same, r.pers p2⟩, s2⟩
  | dct ks ds =>
    obtain ⟨a, kvs, rfl, n0, h, k, r⟩ := n
    obtain ⟨od, I2, s2, p2⟩ := go n0 h trivial
    exact ⟨_, I2, by simp only [Rep]; exact ⟨a, od, kvs, rfl, upd_same, k, r.pers p2⟩, s2⟩
  | non => exact ⟨H', I, n, e⟩
  | bl b => exact ⟨H', I, n, e⟩
  | int b => exact ⟨H', I, n, e⟩
  | str b => exact ⟨H', I, n, e⟩
  | tup b => exact ⟨H', I, n, e⟩
/-- what a step hands on: r at the value, all that stood stands -/
def Got (N : Hp → Hp → D → V → Prop) (H : Hp) (o : Option D) (Q : VK) : Prop := ∃ r, o = some r ∧ ∀ v H', Same H H' → N H H' r v → Q v H'
abbrev Old (_ : Hp) (H' : Hp) (d : D) (v : V) : Prop := Rep H' d v
theorem EP.froze {X : Cx} {pins : List (Addr × Obj)} {σ : L2.St} {H : Hp} {s : Shared} {o : Option D} {Q : VK} {u : Value} {M : Model} {A : Around} {t : Sem Value} {E : Value → Shared → Prop}
    (g : Got Old H o Q) (run : ∀ Q', Got New H o Q' → wpAny M A t (EP X pins σ Q') E s) : wpAny M A t (EP X pins σ Q) E s := by
  obtain ⟨r, rfl, k⟩ := g
  refine wpAny_mono (run (fun v H' => Same H H' ∧ New H H' r v) ⟨r, rfl, fun v H' e n => ⟨e, n⟩⟩) ?_ fun _ _ z => z
  rintro u s' ⟨v, H', I, rv, e, n⟩
  obtain ⟨H2, I2, r2, e2⟩ := frozen I n e
  exact ⟨v, H2, I2, rv, k v H2 e2 r2⟩
theorem New.rd {H H' : Hp} : ∀ {d : D} {v : V}, New H H' d v → Rd H' d v
  | .non, _, h => h
  | .bl _, _, h => h
  | .int _, _, h => h
  | .str _, _, h => h
  | .tup _, _, h => h
  | .lst ds, v, h => by obtain ⟨a, vs, e, _, h1, h2⟩ := h; exact ⟨a, vs, e, .inl h1, h2⟩
  | .dct ks ds, v, h => by obtain ⟨a, kvs, e, _, h1, h2, h3⟩ := h; exact ⟨a, kvs, e, .inl h1, h2, h3⟩
/-- data as the library reads it -/
theorem rd_dp {K : PySem.W.Frag} {H : Hp} : ∀ {d : D} {v : V}, Rd H d v → (toP d).canLay0 = true → Dp K H v (toP d) := by
  have core : ∀ n : Nat, (∀ (d : D) (v : V), sizeOf d ≤ n → Rep H d v → (toP d).canLay0 = true → Dp K H v (toP d)) ∧ ∀ (ds : List D) (vs : List V), sizeOf ds ≤ n → RepL H ds vs → PyData.canLayAll0 (toPL ds) = true → DpAll K H vs (toPL ds) := by
    intro n
    induction n with
    | zero =>
      refine ⟨fun d v h => ?_, fun ds v h => ?_⟩
      · cases d <;> simp at h
      · cases ds <;> simp at h
    | succ n ih =>
      refine ⟨fun d v hs h c => ?_, fun ds vs hs h c => ?_⟩
      · cases d with
        | non => simp only [Rep] at h; subst h; simp only [toP]; exact .non
        | bl b => simp only [Rep] at h; subst h; simp only [toP]; exact .bl b
        | int b => simp only [Rep] at h; subst h; simp only [toP]; exact .int b
        | str b => simp only [Rep] at h; obtain ⟨rfl, _⟩ := h; simp only [toP]; exact .str _
        | tup xs =>
          simp only [Rep] at h
          obtain ⟨a, vs, rfl, h1, h2⟩ := h
          simp only [toP, PyData.canLay0] at c ⊢
          exact .tup (SqT.of h1) (ih.2 xs vs (by simp at hs; omega) h2 c)
        | lst xs =>
          simp only [Rep] at h
          obtain ⟨a, o, vs, rfl, h1, h2⟩ := h
          simp only [toP, PyData.canLay0] at c ⊢
          exact .lst (.inl (.inr ⟨o, h1⟩)) (ih.2 xs vs (by simp at hs; omega) h2 c)
        | dct ks xs => simp [toP, PyData.canLay0] at c
      · cases ds with
        | nil => simp only [RepL] at h; subst h; simp only [toPL]; exact .nil
        | cons d ds =>
          simp only [RepL] at h
          obtain ⟨v, r, rfl, h1, h2⟩ := h
          simp only [toPL, PyData.canLayAll0, Bool.and_eq_true] at c ⊢
          exact .cons (ih.1 d v (by simp at hs; omega) h1 c.1) (ih.2 ds r (by simp at hs; omega) h2 c.2)
  intro d v h c
  cases d with
  | lst xs =>
    obtain ⟨a, vs, rfl, h1, h2⟩ := h
    simp only [toP, PyData.canLay0] at c ⊢
    exact .lst (.inl h1) ((core _).2 xs vs (Nat.le_refl _) h2 c)
  | dct ks xs => simp [toP, PyData.canLay0] at c
  | non => exact (core _).1 _ v (Nat.le_refl _) h c
  | bl b => exact (core _).1 _ v (Nat.le_refl _) h c
  | int b => exact (core _).1 _ v (Nat.le_refl _) h c
  | str b => exact (core _).1 _ v (Nat.le_refl _) h c
  | tup b => exact (core _).1 _ v (Nat.le_refl _) h c

/-! ### two places -/
def r2 (N : Hp → Hp → D → V → Prop) (p : P) : R2 := fun x y H Q => ∃ d e, Rd H d x ∧ Rd H e y ∧ Got N H (p.ap [d, e]) Q
theorem OpR.froze {X : Cx} {f : Value → Value → Sem Value} {p : P} (h : OpR X f (r2 New p)) : OpR X f (r2 Old p) := by
  intro pins s σ H x y v u Q I rx ry ⟨d, e, h1, h2, g⟩
  exact EP.froze (u := v) g fun Q' g' => h pins s σ H x y v u Q' I rx ry ⟨d, e, h1, h2, g'⟩
theorem sz_big : sizeLine = big := sizeLine_eq
theorem str_app (x y : List Nat) : (⟨x.toArray⟩ : Str) ++ (⟨y.toArray⟩ : Str) = ⟨(x ++ y).toArray⟩ := by
  show (⟨x.toArray ++ y.toArray⟩ : Str) = _
  simp
theorem str_len (x : List Nat) : (⟨x.toArray⟩ : Str).length = x.length := by
  show x.toArray.size = _
  simp
section
variable {X : Cx}
theorem RepL.rep {H : Hp} {ds : List D} {vs : List V} (r : RepL H ds vs) : ∀ n : Nat, RepL H (List.replicate n ds).flatten (List.replicate n vs).flatten
  | 0 => by simp [RepL]
  | n + 1 => by
    rw [List.replicate_succ, List.replicate_succ, List.flatten_cons, List.flatten_cons]
    exact r.append (RepL.rep r n)
theorem o_add : OpR X (binaryOp .Add) (r2 New .add) := by
  intro pins s σ H x y v u Q I rx ry ⟨d, e, h1, h2, r, hr, k⟩
  cases d <;> cases e <;> simp only [P.ap] at hr <;> try (cases hr; done)
  · cases hr
    cases h1; cases h2
    cases rx
    obtain ⟨t, rfl⟩ := ry
    exact PySem.IntBool.add_bool_int ⟨.int _, H, I.tok _, ⟨_, rfl⟩, k _ H (Same.refl H) rfl⟩
  · cases hr
    cases h1; cases h2
    obtain ⟨t, rfl⟩ := rx
    cases ry
    exact PySem.add_int_bool ⟨.int _, H, I.tok _, ⟨_, rfl⟩, k _ H (Same.refl H) rfl⟩
  · cases hr
    cases h1; cases h2
    exact op_add pins s σ H _ _ v u Q I rx ry ⟨_, _, rfl, rfl, k _ H (Same.refl H) rfl⟩
  · rename_i a b
    obtain ⟨rfl, z1⟩ := h1
    obtain ⟨rfl, z2⟩ := h2
    split at hr
    · cases hr
      refine op_add_str pins s σ H _ _ v u Q I rx ry ⟨_, _, rfl, rfl, ?_, ?_⟩
      · rw [str_len, str_len, sz_big]; assumption
      · rw [str_app]
        refine k _ H (Same.refl H) ⟨rfl, ?_⟩
        rw [List.length_append, sz_big]; assumption
    · cases hr
  · rename_i a b
    simp only [Rd, Rep] at h1 h2
    obtain ⟨pa, va, rfl, g1, q1⟩ := h1
    obtain ⟨pb, vb, rfl, g2, q2⟩ := h2
    split at hr
    · rename_i hz
      cases hr
      have l1 := q1.len
      have l2 := q2.len
      refine op_catA pins s σ H _ _ v u Q I rx ry ⟨pa, pb, va, vb, rfl, rfl, SqT.of g1, SqT.of g2, by rw [sz_big]; omega, fun z => ?_, fun _ z => ?_, fun _ _ p hp => ?_⟩
      · subst z
        have : a = [] := by simpa using l1
        subst this
        exact k _ H (Same.refl H) (by simp only [New, Rep, List.nil_append]; exact ⟨pb, vb, rfl, g2, q2⟩)
      · subst z
        have : b = [] := by simpa using l2
        subst this
        exact k _ H (Same.refl H) (by simp only [New, Rep, List.append_nil]; exact ⟨pa, va, rfl, g1, q1⟩)
      · have e : Same H (upd H p (.tup (va ++ vb))) := fun c o q => by rw [upd_ne (ne_of_none q hp)]; exact q
        exact k _ _ e (by simp only [New, Rep]; exact ⟨p, _, rfl, upd_same, (q1.append q2).pers (Pers.of_same e)⟩)
    · cases hr
  · rename_i a b
    obtain ⟨pa, va, rfl, g1, q1⟩ := h1
    obtain ⟨pb, vb, rfl, g2, q2⟩ := h2
    split at hr
    · rename_i hz
      cases hr
      have l1 := q1.len
      have l2 := q2.len
      cases rx
      cases ry
      obtain ⟨z, its, n, ra, e⟩ := g1.ok I.hok
      obtain ⟨z2, its2, n2, rb, e2⟩ := g2.ok I.hok
      have k1 := ra.length
      have k2 := rb.length
      have zb := sz_big
      refine PySem.P.add_list e e2 ?_ (by rw [List.size_toArray, List.size_toArray]; omega)
      rw [show its.toArray ++ its2.toArray = (its ++ its2).toArray by simp]
      have hp := I.fresh
      have es : Same H (upd H s.heap.objs.size (.lst (va ++ vb))) := fun c o q => by rw [upd_ne (ne_of_none q hp)]; exact q
      exact ⟨.ref _, _, I.lnew (t' := s.toks) (ra.append rb) (by rw [List.length_append]; omega), rfl, k _ _ es ⟨_, _, rfl, hp, upd_same, (q1.append q2).pers (Pers.of_same es)⟩⟩
    · cases hr
theorem o_sub : OpR X (binaryOp .Sub) (r2 New .sub) := by
  intro pins s σ H x y v u Q I rx ry ⟨d, e, h1, h2, r, hr, k⟩
  cases d <;> cases e <;> simp only [P.ap] at hr <;> try (cases hr; done)
  · cases hr
    cases h1; cases h2
    cases rx
    obtain ⟨t, rfl⟩ := ry
    exact PySem.IntBool.sub_bool_int ⟨.int _, H, I.tok _, ⟨_, rfl⟩, k _ H (Same.refl H) rfl⟩
  · cases hr
    cases h1; cases h2
    obtain ⟨t, rfl⟩ := rx
    cases ry
    exact PySem.IntBool.sub_int_bool ⟨.int _, H, I.tok _, ⟨_, rfl⟩, k _ H (Same.refl H) rfl⟩
  · cases hr
    cases h1; cases h2
    exact op_sub pins s σ H _ _ v u Q I rx ry ⟨_, _, rfl, rfl, k _ H (Same.refl H) rfl⟩
theorem fold_app (x : List Nat) : ∀ (n : Nat) (acc : Array Nat), (List.replicate n x.toArray).foldl (· ++ ·) acc = acc ++ (List.replicate n x).flatten.toArray
  | 0, acc => by simp
  | n + 1, acc => by
    rw [List.replicate_succ, List.foldl_cons, fold_app x n, List.replicate_succ, List.flatten_cons]
    simp
theorem mul_str_go {pins : List (Addr × Obj)} {s : Shared} {σ : L2.St} {H : Hp} {v u : Value} {Q : VK} {x : List Nat} {n : Int} {a b : V} (I : Inv X pins σ H s) (rx : RelV a v) (ry : RelV b u) (h1 : Rd H (.str x) a) (h2 : Rd H (.int n) b) (hn : n.natAbs < big) (hz : x.length * n.toNat ≤ big)
    (k : ∀ v H', Same H H' → New H H' (.str (List.replicate n.toNat x).flatten) v → Q v H') : wpAny (model X.prog X.w) X.A (binaryOp .Mult v u) (EP X pins σ Q) X.xe s := by
  obtain ⟨rfl, hx⟩ := h1
  obtain rfl : b = .int n := h2
  obtain ⟨t, rfl⟩ := rx
  obtain ⟨t2, rfl⟩ := ry
  have hb : (big : Nat) = 16777216 := rfl
  have fin : Q (.str ⟨(List.replicate n.toNat x).flatten.toArray⟩) H := k _ H (Same.refl H) ⟨rfl, by
    rw [sz_big, List.length_flatten, List.map_replicate, List.sum_replicate_nat, Nat.mul_comm]; exact hz⟩
  have hl : (⟨x.toArray⟩ : Str).length = x.length := str_len x
  have zb := sz_big
  rw [sz_big] at hx
  refine PySem.P.mul_str (by simp; omega) (fun h0 h3 => ?_) (fun h0 h3 => ?_) ?_
  · rw [hl]
    intro hc
    have h1 : 1 ≤ n := by omega
    have : n * ((2 ^ 63 - 1 : Int) / n) ≤ 2 ^ 63 - 1 := Int.mul_ediv_self_le (by omega)
    have h2 : (2 ^ 63 - 1 : Int) < n * ((2 ^ 63 - 1 : Int) / n) + n := Int.lt_mul_ediv_self_add (by omega)
    have h4 : n * ((2 ^ 63 - 1 : Int) / n + 1) ≤ n * x.length := Int.mul_le_mul_of_nonneg_left (by omega) (by omega)
    have h5 : n * x.length ≤ 16777216 * 16777216 := by
      refine Int.mul_le_mul (by omega) (by omega) (by omega) (by omega)
    rw [Int.mul_add, Int.mul_one] at h4
    omega
  · rw [hl]
    unfold Builtin.Str.tooLong
    exact decide_eq_false (by omega)
  · by_cases c1 : n < 1
    · rw [if_pos c1]
      have : n.toNat = 0 := by omega
      rw [this] at fin
      exact ⟨by show 0 ≤ sizeLine; omega, ⟨.str Str.empty, H, I.tok _, ⟨_, rfl⟩, fin⟩⟩
    · rw [if_neg c1]
      by_cases c2 : (n == 1 || (⟨x.toArray⟩ : Str).length == 0) = true
      · rw [if_pos c2]
        have e : (List.replicate n.toNat x).flatten = x := by
          rw [Bool.or_eq_true] at c2
          rcases c2 with c2 | c2
          · have : n = 1 := by simpa using c2
            subst this
            simp
          · have : x = [] := by
              have : x.length = 0 := by rw [hl] at c2; simpa using c2
              exact List.length_eq_zero_iff.mp this
            subst this
            simp
        rw [e] at fin
        exact ⟨.str ⟨x.toArray⟩, H, I, ⟨t, rfl⟩, fin⟩
      · rw [if_neg c2]
        have e : (List.replicate n.toNat (⟨x.toArray⟩ : Str).cps).foldl (· ++ ·) #[] = (List.replicate n.toNat x).flatten.toArray := by
          rw [show (⟨x.toArray⟩ : Str).cps = x.toArray from rfl, fold_app x n.toNat #[]]
          simp
        refine ⟨?_, ⟨.str ⟨(List.replicate n.toNat x).flatten.toArray⟩, H, I.tok _, ⟨_, by rw [e]⟩, fin⟩⟩
        rw [e, str_len, List.length_flatten, List.map_replicate, List.sum_replicate_nat, Nat.mul_comm]
        omega
theorem mul_lst_go {pins : List (Addr × Obj)} {s : Shared} {σ : L2.St} {H : Hp} {v u : Value} {Q : VK} {x : List D} {n : Int} {a b : V} (I : Inv X pins σ H s) (rx : RelV a v) (ry : RelV b u) (h1 : Rd H (.lst x) a) (h2 : Rd H (.int n) b) (hn : n.natAbs < big) (hz : x.length * n.toNat ≤ big)
    (k : ∀ v H', Same H H' → New H H' (.lst (List.replicate n.toNat x).flatten) v → Q v H') : wpAny (model X.prog X.w) X.A (binaryOp .Mult v u) (EP X pins σ Q) X.xe s := by
  obtain ⟨pa, va, rfl, g1, q1⟩ := h1
  obtain rfl : b = .int n := h2
  cases rx
  obtain ⟨t, rfl⟩ := ry
  obtain ⟨z, its, m, ra, e⟩ := g1.ok I.hok
  have zb := sz_big
  have hb : (big : Nat) = 16777216 := rfl
  have l1 := q1.len
  have l2 := ra.length
  have sz : its.toArray.size = x.length := by rw [List.size_toArray]; omega
  have bigs : (16777216 : Nat) ≤ (2 ^ 63 - 1) / 8 := by decide
  have fit : ¬ (!Builtin.List.listFitsIndex n) = true := by
    rw [fitsIndex_both (by omega) (by omega)]
    decide
  have short : ¬ Builtin.List.listTooLong (its.toArray.size * n.toNat) = true := by
    rw [notLongL (by rw [sz]; omega)]
    decide
  have room : ¬ its.toArray.size * n.toNat > (2 ^ 63 - 1) / 8 := by rw [sz]; omega
  have new : (List.replicate (if its.toArray.isEmpty = true then 0 else n.toNat) its.toArray).foldl (fun a b => a ++ b) #[] = (List.replicate n.toNat its).flatten.toArray := by
    have gen := fun j : Nat => foldl_rep its j []
    simp only [List.nil_append] at gen
    cases its with
    | nil => simp
    | cons y r => exact gen n.toNat
  have rr := q1.rep n.toNat
  have hp := I.fresh
  have es : Same H (upd H s.heap.objs.size (.lst (List.replicate n.toNat va).flatten)) := fun c o q => by rw [upd_ne (ne_of_none q hp)]; exact q
  have res : Q (.ref s.heap.objs.size) (upd H s.heap.objs.size (.lst (List.replicate n.toNat va).flatten)) := k _ _ es ⟨_, _, rfl, hp, upd_same, rr.pers (Pers.of_same es)⟩
  have lz : (List.replicate n.toNat va).flatten.length ≤ sizeLine := by rw [List.length_flatten, List.map_replicate, List.sum_replicate_nat, Nat.mul_comm, ← l1]; omega
  have tl : s.TypeIs (.ref pa) "list" := ⟨_, e, rfl⟩
  have inner := AutoListH.list___mul___list_int_3 pa its.toArray m n t fit room short
  refine wpAny_binaryOp_repeat_ref (T := "list") (U := "int") (by decide) tl (fun s' => typeIs_int s' n t) noFill_list_mul F.fills_int_mul F.slot_int_rmul repeat_list F.slot_int_index.lookup ?_
  refine call_meets F.slot_int_rmul (typeIs_int s n t) F.entry_int_rmul (F.args_int_rmul_2 _ _) (int___rmul___int_list n t pa its.toArray m) ⟨e, rfl, tl, ?_⟩
  refine call_meets F.slot_list_mul tl F.entry_list_mul (F.args_list_mul_2 _ _) inner ⟨e, ?_⟩
  rw [new]
  exact ⟨.ref _, _, I.lnew (t' := s.toks) (ra.rep n.toNat) lz, rfl, res⟩
theorem tup_mul_one (l : Addr) (items : Array Value) (n : Nat) (dd : Option Addr) (sl : Array (Option Value)) (u : Tok) :
    Meets (Builtin.«tuple.__mul__» ⟨[.ref l, .int 1 u], []⟩) (fun _ R s => s.heap.get? l = some { cls := .type "tuple", dict := dd, data := .seq items n, slots := sl } ∧ R (.ok (.ret (Value.ref l))) s) :=
  .of_wp fun prog w A R s h => by
    obtain ⟨hp, g, d, tk, os⟩ := s
    obtain ⟨hl, h⟩ := h
    have f1 := AutoSeq1.idx_int
    have c0 : (decide ((1 : Int) < -(2 ^ 63)) || decide ((1 : Int) ≥ 2 ^ 63)) = false := by decide
    have c1 : (items.isEmpty || (1 : Int) == 1) = true := by rw [Bool.or_eq_true]; exact .inr rfl
    wp_walk using wpAny_loadPart' hl
    repeat (first
      | (refine wpAny_ite_false (decide_eq_false (by rw [c0]; exact Bool.false_ne_true)) ?_; wp_walk using wpAny_loadPart' hl)
      | (refine wpAny_ite_true (decide_eq_true c1) ?_; wp_walk using wpAny_loadPart' hl))
    exact ⟨_, rfl, h⟩
theorem tup_mul_zero (l : Addr) (items : Array Value) (n : Nat) (dd : Option Addr) (sl : Array (Option Value)) (u : Tok) (hi : items.isEmpty = false) :
    Meets (Builtin.«tuple.__mul__» ⟨[.ref l, .int 0 u], []⟩) (fun _ R s => s.heap.get? l = some { cls := .type "tuple", dict := dd, data := .seq items n, slots := sl } ∧
      R (.ok (.ret (Value.ref s.heap.objs.size))) { s with heap := s.heap.push { cls := Value.type "tuple", data := Data.seq #[] }, toks := s.toks }) :=
  .of_wp fun prog w A R s h => by
    obtain ⟨hp, g, d, tk, os⟩ := s
    obtain ⟨hl, h⟩ := h
    have f1 := AutoSeq1.idx_int
    have c0 : (decide ((0 : Int) < -(2 ^ 63)) || decide ((0 : Int) ≥ 2 ^ 63)) = false := by decide
    have c1 : (items.isEmpty || (0 : Int) == 1) = false := by rw [hi]; rfl
    have c2 : (decide ((0 : Int) ≤ 0) || items.isEmpty) = true := rfl
    wp_walk using wpAny_loadPart' hl
    repeat (first
      | (refine wpAny_ite_false (decide_eq_false (by rw [c0]; exact Bool.false_ne_true)) ?_; wp_walk using wpAny_loadPart' hl)
      | (refine wpAny_ite_false (decide_eq_false (by rw [c1]; exact Bool.false_ne_true)) ?_; wp_walk using wpAny_loadPart' hl)
      | (refine wpAny_ite_true (decide_eq_true c2) ?_; wp_walk using wpAny_loadPart' hl))
    exact ⟨_, rfl, h⟩
theorem mul_tup_go {pins : List (Addr × Obj)} {s : Shared} {σ : L2.St} {H : Hp} {v u : Value} {Q : VK} {x : List D} {n : Int} {a b : V} (I : Inv X pins σ H s) (rx : RelV a v) (ry : RelV b u) (h1 : Rd H (.tup x) a) (h2 : Rd H (.int n) b) (hz : x.length ≤ 1000 ∧ 0 ≤ n ∧ n ≤ 1000 ∧ 0 < x.length)
    (k : ∀ v H', Same H H' → New H H' (.tup (List.replicate n.toNat x).flatten) v → Q v H') : wpAny (model X.prog X.w) X.A (binaryOp .Mult v u) (EP X pins σ Q) X.xe s := by
  obtain ⟨pa, va, rfl, g1, q1⟩ := h1
  obtain rfl : b = .int n := h2
  have l1 := q1.len
  have sm : ∀ {p : Addr} {o : HO}, H p = none → Same H (upd H p o) := fun {p o} hp c w q => by rw [upd_ne (ne_of_none q hp)]; exact q
  by_cases hn2 : 2 ≤ n
  · refine op_repT pins s σ H _ _ v u Q I rx ry ⟨pa, n, va, rfl, rfl, SqT.of g1, (fun z => by rw [z] at l1; have w : x.length = 0 := l1; omega), hn2, hz.2.2.1, by omega, fun p hp => ?_⟩
    refine k _ _ (sm hp) ?_
    show Rep _ _ _
    simp only [Rep]
    exact ⟨p, _, rfl, upd_same, (q1.rep n.toNat).pers (Pers.of_same (sm hp))⟩
  cases rx
  obtain ⟨t, rfl⟩ := ry
  obtain ⟨its, r, ⟨⟨cls, dd, data, sl⟩, ho, hc, m, hd⟩, hs⟩ := I.tuple (SqT.of g1)
  simp only at hc hd
  subst hc hd
  have hl := r.length
  have hi : its.toArray.isEmpty = false := by
    cases its with
    | nil => have w : va.length = 0 := hl; omega
    | cons a b => rfl
  by_cases hn1 : n = 1
  · subst hn1
    refine wpAny_binaryOp_repeat_ref (T := "tuple") (U := "int") (by decide) ⟨_, ho, rfl⟩ (fun s' => typeIs_int s' 1 t) noFill_tuple_mul F.fills_int_mul F.slot_int_rmul repeat_tuple F.slot_int_index.lookup
      (call_meets F.slot_int_rmul (typeIs_int s 1 t) F.entry_int_rmul (F.args_int_rmul_2 _ _) (int_rmul_tuple 1 t pa its.toArray m dd sl)
        ⟨ho, rfl, ⟨_, ho, rfl⟩, call_meets F.slot_tuple_mul ⟨_, ho, rfl⟩ F.entry_tuple_mul (F.args_tuple_mul_2 _ _) (tup_mul_one pa its.toArray m dd sl t) ⟨ho, ?_⟩⟩)
    refine ⟨.ref pa, H, I, rfl, k _ _ (Same.refl H) ?_⟩
    show Rep _ _ _
    simp only [Rep]
    exact ⟨pa, va, rfl, g1, by simpa using q1⟩
  · obtain rfl : n = 0 := by omega
    refine wpAny_binaryOp_repeat_ref (T := "tuple") (U := "int") (by decide) ⟨_, ho, rfl⟩ (fun s' => typeIs_int s' 0 t) noFill_tuple_mul F.fills_int_mul F.slot_int_rmul repeat_tuple F.slot_int_index.lookup
      (call_meets F.slot_int_rmul (typeIs_int s 0 t) F.entry_int_rmul (F.args_int_rmul_2 _ _) (int_rmul_tuple 0 t pa its.toArray m dd sl)
        ⟨ho, rfl, ⟨_, ho, rfl⟩, call_meets F.slot_tuple_mul ⟨_, ho, rfl⟩ F.entry_tuple_mul (F.args_tuple_mul_2 _ _) (tup_mul_zero pa its.toArray m dd sl t hi) ⟨ho, ?_⟩⟩)
    refine ⟨.ref s.heap.objs.size, _, I.laid (t' := s.toks) (o := .tup []) (fun b ob q => Heap.get?_push_of_some _ q) (Nat.le_refl _) ?_, rfl, k _ _ (sm (I.hok.fresh (Nat.le_refl _))) ?_⟩
    · exact ⟨Nat.zero_le _, _, .nil, IsTup.new _ _⟩
    · show Rep _ _ _
      simp only [Rep]
      exact ⟨_, [], rfl, upd_same, by simp [RepL]⟩
theorem o_mul : OpR X (binaryOp .Mult) (r2 New .mul) := by
  intro pins s σ H x y v u Q I rx ry ⟨d, e, h1, h2, r, hr, k⟩
  cases d <;> cases e <;> simp only [P.ap] at hr <;> try (cases hr; done)
  · split at hr
    · rename_i i j hz
      cases hr
      cases h1; cases h2
      refine op_mul pins s σ H _ _ v u Q I rx ry ⟨_, _, rfl, rfl, ?_, k _ H (Same.refl H) rfl⟩
      rcases hz with hz | hz
      · exact .inl ⟨by omega, by omega⟩
      · exact .inr ⟨by omega, by omega⟩
    · cases hr
  · split at hr
    · rename_i x n hz
      cases hr
      exact mul_str_go I rx ry h1 h2 hz.1 hz.2 k
    · cases hr
  · split at hr
    · rename_i x n hz
      cases hr
      exact mul_tup_go I rx ry h1 h2 hz k
    · cases hr
  · split at hr
    · rename_i x n hz
      cases hr
      exact mul_lst_go I rx ry h1 h2 hz.1 hz.2 k
    · cases hr
theorem o_fdiv : OpR X (binaryOp .FloorDiv) (r2 New .fdiv) := by
  intro pins s σ H x y v u Q I rx ry ⟨d, e, h1, h2, r, hr, k⟩
  cases d <;> cases e <;> simp only [P.ap] at hr <;> try (cases hr; done)
  split at hr
  · rename_i i j hz
    cases hr
    cases h1; cases h2
    exact op_fdivN pins s σ H _ _ v u Q I rx ry ⟨_, _, rfl, rfl, hz, k _ H (Same.refl H) rfl⟩
  · cases hr
theorem o_mod : OpR X (binaryOp .Mod) (r2 New .mod) := by
  intro pins s σ H x y v u Q I rx ry ⟨d, e, h1, h2, r, hr, k⟩
  cases d <;> cases e <;> simp only [P.ap] at hr <;> try (cases hr; done)
  split at hr
  · rename_i i j hz
    cases hr
    cases h1; cases h2
    exact op_modN pins s σ H _ _ v u Q I rx ry ⟨_, _, rfl, rfl, hz, k _ H (Same.refl H) rfl⟩
  · cases hr
theorem o_pow : OpR X (binaryOp .Pow) (r2 New .pow) := by
  intro pins s σ H x y v u Q I rx ry ⟨d, e, h1, h2, r, hr, k⟩
  cases d <;> cases e <;> simp only [P.ap] at hr <;> try (cases hr; done)
  split at hr
  · rename_i i j hz
    cases hr
    cases h1; cases h2
    exact op_pow pins s σ H _ _ v u Q I rx ry ⟨_, _, rfl, rfl, hz, k _ H (Same.refl H) rfl⟩
  · cases hr

/-! ### one place -/
def r1 (N : Hp → Hp → D → V → Prop) (p : P) : V → Hp → VK → Prop := fun x H Q => ∃ d, Rd H d x ∧ Got N H (p.ap [d]) Q
theorem o_neg : UnR X (unaryOp .USub) (r1 New .neg) := by
  intro pins s σ H x v Q I rx ⟨d, h1, r, hr, k⟩
  cases d <;> simp only [P.ap] at hr <;> try (cases hr; done)
  cases hr
  cases h1
  exact un_neg pins s σ H _ v Q I rx ⟨_, rfl, k _ H (Same.refl H) rfl⟩

/-! ### comparisons -/
theorem shaped_lay {d : PyData} (h : SeqAt.shaped d = true) : d.canLay0 = true := by
  unfold SeqAt.shaped at h
  rw [Bool.and_eq_true] at h
  exact h.1
theorem str_eq (x y : List Nat) : decide (V.str ⟨x.toArray⟩ = V.str ⟨y.toArray⟩) = decide (x = y) := by
  by_cases h : x = y
  · subst h; simp
  · rw [decide_eq_false h]
    refine decide_eq_false fun z => h ?_
    injection z with z
    injection z with z
    exact by simpa using congrArg Array.toList z
theorem eqD_run {d e : D} {c : Bool} (h : eqD d e = some c) {H : Hp} {x y : V} (h1 : Rd H d x) (h2 : Rd H e y) :
    (scal x y = true ∧ decide (x = y) = c) ∨ (SeqAt.shaped (toP d) = true ∧ SeqAt.shaped (toP e) = true ∧ PyData.eqv (toP d) (toP e) = c) := by
  have gen : (if SeqAt.shaped (toP d) && SeqAt.shaped (toP e) then some (PyData.eqv (toP d) (toP e)) else none) = some c → (SeqAt.shaped (toP d) = true ∧ SeqAt.shaped (toP e) = true ∧ PyData.eqv (toP d) (toP e) = c) := by
    intro q
    split at q
    · rename_i z
      rw [Bool.and_eq_true] at z
      cases q
      exact ⟨z.1, z.2, rfl⟩
    · cases q
  cases d <;> cases e <;> first
    | exact .inr (gen h)
    | (left
       simp only [eqD, Option.some.injEq] at h
       simp only [Rd, Rep] at h1 h2
       first
         | (subst h1; subst h2; subst h; exact ⟨rfl, by simp⟩)
         | (subst h1; subst h; obtain ⟨rfl, _⟩ := h2; exact ⟨rfl, by simp⟩)
         | (subst h2; subst h; obtain ⟨rfl, _⟩ := h1; exact ⟨rfl, by simp⟩)
         | (subst h; obtain ⟨rfl, _⟩ := h1; obtain ⟨rfl, _⟩ := h2; exact ⟨rfl, str_eq _ _⟩))
theorem o_eq (hu : X.A.units + 64 < cLine) : OpR X (compareOp .Eq) (r2 New .eq) := by
  intro pins s σ H x y v u Q I rx ry ⟨d, e, h1, h2, r, hr, k⟩
  simp only [P.ap] at hr
  cases q : eqD d e with
  | none => rw [q] at hr; cases hr
  | some c =>
    rw [q] at hr
    cases hr
    rcases eqD_run q h1 h2 with ⟨z1, z2⟩ | ⟨z1, z2, z3⟩
    · exact op_eq pins s σ H x y v u Q I rx ry ⟨z1, by rw [z2]; exact k _ H (Same.refl H) rfl⟩
    · exact op_eqD hu pins s σ H x y v u Q I rx ry ⟨_, _, rd_dp h1 (shaped_lay z1), rd_dp h2 (shaped_lay z2), z1, z2, by rw [z3]; exact k _ H (Same.refl H) rfl⟩
theorem o_ne (hu : X.A.units + 64 < cLine) : OpR X (compareOp .NotEq) (r2 New .ne) := by
  intro pins s σ H x y v u Q I rx ry ⟨d, e, h1, h2, r, hr, k⟩
  simp only [P.ap] at hr
  cases q : eqD d e with
  | none => rw [q] at hr; cases hr
  | some c =>
    rw [q] at hr
    cases hr
    rcases eqD_run q h1 h2 with ⟨z1, z2⟩ | ⟨z1, z2, z3⟩
    · exact op_ne pins s σ H x y v u Q I rx ry ⟨z1, by rw [z2]; exact k _ H (Same.refl H) rfl⟩
    · exact op_neD hu pins s σ H x y v u Q I rx ry ⟨_, _, rd_dp h1 (shaped_lay z1), rd_dp h2 (shaped_lay z2), z1, z2, by rw [z3]; exact k _ H (Same.refl H) rfl⟩
theorem o_lt (hu : X.A.units + 64 < cLine) : OpR X (compareOp .Lt) (r2 New .lt) := by
  intro pins s σ H x y v u Q I rx ry ⟨d, e, h1, h2, r, hr, k⟩
  cases d <;> cases e <;> simp only [P.ap] at hr <;> try (cases hr; done)
  · cases hr; cases h1; cases h2
    exact op_lt pins s σ H _ _ v u Q I rx ry ⟨_, _, rfl, rfl, k _ H (Same.refl H) rfl⟩
  · cases hr
    obtain ⟨rfl, _⟩ := h1
    obtain ⟨rfl, _⟩ := h2
    exact op_lt_str pins s σ H _ _ v u Q I rx ry ⟨_, _, rfl, rfl, k _ H (Same.refl H) rfl⟩
  · rename_i xs ys
    split at hr
    · rename_i hz
      simp only [Bool.and_eq_true, decide_eq_true_eq] at hz
      obtain ⟨⟨⟨z1, z2⟩, z3⟩, z4⟩ := hz
      cases hr
      obtain ⟨as, q1⟩ := Dp.reads I _ x v (rd_dp h1 z1) rx
      obtain ⟨bs, q2⟩ := Dp.reads I _ y u (rd_dp h2 z2) ry
      exact PySem.W.lt_data q1 q2 z3 (by simp [toP]) (by unfold dMin at z4; omega) ⟨.bl _, H, I, rfl, k _ H (Same.refl H) rfl⟩
    · cases hr
theorem o_le : OpR X (compareOp .LtE) (r2 New .le) := by
  intro pins s σ H x y v u Q I rx ry ⟨d, e, h1, h2, r, hr, k⟩
  cases d <;> cases e <;> simp only [P.ap] at hr <;> try (cases hr; done)
  cases hr; cases h1; cases h2
  exact op_le pins s σ H _ _ v u Q I rx ry ⟨_, _, rfl, rfl, k _ H (Same.refl H) rfl⟩
theorem o_gt : OpR X (compareOp .Gt) (r2 New .gt) := by
  intro pins s σ H x y v u Q I rx ry ⟨d, e, h1, h2, r, hr, k⟩
  cases d <;> cases e <;> simp only [P.ap] at hr <;> try (cases hr; done)
  cases hr; cases h1; cases h2
  exact op_gt pins s σ H _ _ v u Q I rx ry ⟨_, _, rfl, rfl, k _ H (Same.refl H) rfl⟩
theorem o_ge : OpR X (compareOp .GtE) (r2 New .ge) := by
  intro pins s σ H x y v u Q I rx ry ⟨d, e, h1, h2, r, hr, k⟩
  cases d <;> cases e <;> simp only [P.ap] at hr <;> try (cases hr; done)
  cases hr; cases h1; cases h2
  exact op_ge pins s σ H _ _ v u Q I rx ry ⟨_, _, rfl, rfl, k _ H (Same.refl H) rfl⟩
theorem room_in {A : Around} {xs : List PyData} {d : PyData} (hd : SeqAt.shaped d = true) (hu : A.units + 65 < cLine) : A.units + 1 + min (PyData.depthAll xs) d.depth < cLine :=
  PyProof.Rows.room_in_shaped hd hu
theorem inD_run (hu : X.A.units + 65 < cLine) {d e : D} {c : Bool} (h : inD d e = some c) {pins : List (Addr × Obj)} {s : Shared} {σ : L2.St} {H : Hp} {x y : V} {v u : Value} (I : Inv X pins σ H s) (rx : RelV x v) (ry : RelV y u) (h1 : Rd H d x) (h2 : Rd H e y) :
    (∀ {Q : Value → Shared → Prop} {E : Value → Shared → Prop}, Q (.bool c) s → wpAny (model X.prog X.w) X.A (compareOp .In v u) Q E s) ∧
    (∀ {Q : Value → Shared → Prop} {E : Value → Shared → Prop}, Q (.bool (!c)) s → wpAny (model X.prog X.w) X.A (compareOp .NotIn v u) Q E s) := by
  cases e <;> simp only [inD] at h <;> try (cases h; done)
  · rename_i z
    split at h
    · rename_i a
      cases h
      simp only [Rd, Rep] at h1 h2
      obtain ⟨rfl, _⟩ := h1
      obtain ⟨rfl, _⟩ := h2
      obtain ⟨t, rfl⟩ := rx
      obtain ⟨t', rfl⟩ := ry
      have fo := PySem.StrLaws.found_one ⟨z.toArray⟩ a
      simp only [List.toList_toArray] at fo
      rw [show (⟨[a].toArray⟩ : Str) = ⟨#[a]⟩ from rfl]
      refine ⟨fun q => PyProof.Rows.in_str ?_, fun q => PyProof.Rows.notIn_str ?_⟩
      · rw [fo]; exact q
      · rw [fo]; exact q
    · cases h
  · rename_i z
    split at h
    · rename_i hz
      rw [Bool.and_eq_true] at hz
      cases h
      obtain ⟨as, q1⟩ := Dp.reads I _ x v (rd_dp h1 (shaped_lay hz.1)) rx
      obtain ⟨bs, q2⟩ := Dp.reads I _ y u (rd_dp h2 (shaped_lay hz.2)) ry
      simp only [toP] at q2 hz
      exact ⟨fun q => SeqAt.in_tuple_reads q2 q1 (SeqAt.canLay_of_shaped hz.2) (SeqAt.canLay_of_shaped hz.1) (room_in hz.1 hu) q, fun q => SeqAt.notIn_tuple_reads q2 q1 (SeqAt.canLay_of_shaped hz.2) (SeqAt.canLay_of_shaped hz.1) (room_in hz.1 hu) q⟩
    · cases h
  · rename_i z
    split at h
    · rename_i hz
      rw [Bool.and_eq_true] at hz
      cases h
      obtain ⟨as, q1⟩ := Dp.reads I _ x v (rd_dp h1 (shaped_lay hz.1)) rx
      obtain ⟨bs, q2⟩ := Dp.reads I _ y u (rd_dp h2 (shaped_lay hz.2)) ry
      simp only [toP] at q2 hz
      exact ⟨fun q => SeqAt.in_list_reads q2 q1 (SeqAt.canLay_of_shaped hz.2) (SeqAt.canLay_of_shaped hz.1) (room_in hz.1 hu) q, fun q => SeqAt.notIn_list_reads q2 q1 (SeqAt.canLay_of_shaped hz.2) (SeqAt.canLay_of_shaped hz.1) (room_in hz.1 hu) q⟩
    · cases h
theorem o_in (hu : X.A.units + 65 < cLine) : OpR X (compareOp .In) (r2 New .isin) := by
  intro pins s σ H x y v u Q I rx ry ⟨d, e, h1, h2, r, hr, k⟩
  simp only [P.ap] at hr
  cases q : inD d e with
  | none => rw [q] at hr; cases hr
  | some c =>
    rw [q] at hr
    cases hr
    exact (inD_run hu q I rx ry h1 h2).1 ⟨.bl _, H, I, rfl, k _ H (Same.refl H) rfl⟩
theorem o_notin (hu : X.A.units + 65 < cLine) : OpR X (compareOp .NotIn) (r2 New .notin) := by
  intro pins s σ H x y v u Q I rx ry ⟨d, e, h1, h2, r, hr, k⟩
  simp only [P.ap] at hr
  cases q : inD d e with
  | none => rw [q] at hr; cases hr
  | some c =>
    rw [q] at hr
    cases hr
    exact (inD_run hu q I rx ry h1 h2).2 ⟨.bl _, H, I, rfl, k _ H (Same.refl H) rfl⟩
/-- is None: the right one is the written None -/
theorem o_isN : OpR X (compareOp .Is) (fun x y H Q => y = .non ∧ ∃ d, Rd H d x ∧ Got New H (P.isNone.ap [d]) Q) := by
  intro pins s σ H x y v u Q I rx ry ⟨e, d, h1, r, hr, k⟩
  simp only [P.ap] at hr
  refine op_isN pins s σ H x y v u Q I rx ry ⟨e, ?_⟩
  cases hr
  have : decide (x = .non) = d.isNon := by
    cases d <;> simp only [Rd, Rep] at h1
    · subst h1; rfl
    · subst h1; rfl
    · subst h1; rfl
    · obtain ⟨rfl, _⟩ := h1; rfl
    · obtain ⟨_, _, rfl, _⟩ := h1; rfl
    · obtain ⟨_, _, rfl, _⟩ := h1; rfl
    · obtain ⟨_, _, rfl, _⟩ := h1; rfl
  rw [this]
  exact k _ H (Same.refl H) rfl
theorem o_notN : OpR X (compareOp .IsNot) (fun x y H Q => y = .non ∧ ∃ d, Rd H d x ∧ Got New H (P.notNone.ap [d]) Q) := by
  intro pins s σ H x y v u Q I rx ry ⟨e, d, h1, r, hr, k⟩
  simp only [P.ap] at hr
  refine op_notN pins s σ H x y v u Q I rx ry ⟨e, ?_⟩
  cases hr
  have : (!decide (x = .non)) = !d.isNon := by
    cases d <;> simp only [Rd, Rep] at h1
    · subst h1; rfl
    · subst h1; rfl
    · subst h1; rfl
    · obtain ⟨rfl, _⟩ := h1; rfl
    · obtain ⟨_, _, rfl, _⟩ := h1; rfl
    · obtain ⟨_, _, rfl, _⟩ := h1; rfl
    · obtain ⟨_, _, rfl, _⟩ := h1; rfl
  rw [this]
  exact k _ H (Same.refl H) rfl
end
end Rf

set_option Elab.async false
set_option linter.all false
set_option maxRecDepth 100000
set_option maxHeartbeats 4000000
namespace Rf
open PySem PySem.Spec PyProof.Rows L2

/-! ### calls of built-ins with one value -/
def rc (N : Hp → Hp → D → V → Prop) (p : P) : List V → Hp → VK → Prop := fun xs H Q => ∃ ds, RdL H ds xs ∧ Got N H (p.ap ds) Q
theorem RdL.one {H : Hp} {d : D} {xs : List V} (h : RdL H [d] xs) : ∃ x, xs = [x] ∧ Rd H d x := by
  obtain ⟨v, r, rfl, h1, h2⟩ := h
  obtain rfl : r = [] := h2
  exact ⟨v, rfl, h1⟩
theorem RdL.two {H : Hp} {d e : D} {xs : List V} (h : RdL H [d, e] xs) : ∃ x y, xs = [x, y] ∧ Rd H d x ∧ Rd H e y := by
  obtain ⟨v, r, rfl, h1, h2⟩ := h
  obtain ⟨y, rfl, h3⟩ := RdL.one h2
  exact ⟨v, y, rfl, h1, h3⟩
theorem CallR.froze {X : Cx} {f : Value} {p : P} (h : CallR X f (rc New p)) : CallR X f (rc Old p) := by
  intro pins s σ H xs us Q I r ⟨ds, h1, g⟩
  exact EP.froze (u := f) g fun Q' g' => h pins s σ H xs us Q' I r ⟨ds, h1, g'⟩
theorem same_upd {H : Hp} {p : Addr} {o : HO} (hp : H p = none) : Same H (upd H p o) := fun c u q => by rw [upd_ne (ne_of_none q hp)]; exact q
section
variable {X : Cx}
theorem c_len : CallR X (.builtin "len") (rc New .len) := by
  intro pins s σ H xs us Q I r ⟨ds, h1, d, hr, k⟩
  cases ds with
  | nil => simp only [P.ap] at hr; cases hr
  | cons a as =>
    cases as with
    | cons b bs => cases a <;> simp only [P.ap] at hr <;> cases hr
    | nil =>
      obtain ⟨x, rfl, h⟩ := h1.one
      cases a <;> simp only [P.ap] at hr <;> try (cases hr; done)
      · rename_i z
        cases hr
        obtain ⟨rfl, hz⟩ := h
        refine call_len pins s σ H _ us Q I r ⟨_, z.length, rfl, ⟨by rw [str_len]; exact hz, by rw [str_len]⟩, k _ H (Same.refl H) rfl⟩
      · rename_i z
        cases hr
        obtain ⟨b, vs, rfl, g1, g2⟩ := h
        rw [g2.len] at k
        exact call_len pins s σ H _ us Q I r ⟨_, vs.length, rfl, .inr ⟨vs, SqT.of g1, rfl⟩, k _ H (Same.refl H) rfl⟩
      · rename_i z
        cases hr
        obtain ⟨b, vs, rfl, g1, g2⟩ := h
        rw [g2.len] at k
        exact call_len pins s σ H _ us Q I r ⟨_, vs.length, rfl, .inl ⟨vs, .inl g1, rfl⟩, k _ H (Same.refl H) rfl⟩
      · rename_i ks z
        cases hr
        obtain ⟨b, kvs, rfl, g1, g2, g3⟩ := h
        subst g2
        rw [List.length_map] at k
        obtain ⟨u, rfl, ru⟩ := vals1 r
        cases ru
        exact d_len I g1 fun t s' I' => ⟨.int kvs.length, H, I', ⟨t, rfl⟩, k _ H (Same.refl H) rfl⟩
def Ty.name : Ty → String
  | .int => "int"
  | .bool => "bool"
  | .str => "str"
  | .tuple => "tuple"
  | .list => "list"
  | .dict => "dict"
def D.ty : D → String
  | .non => "NoneType"
  | .bl _ => "bool"
  | .int _ => "int"
  | .str _ => "str"
  | .tup _ => "tuple"
  | .lst _ => "list"
  | .dct _ _ => "dict"
theorem rd_ty {K : PySem.W.Frag} {H : Hp} : ∀ {d : D} {v : V}, Rd H d v → TyX K H v (.type d.ty)
  | .non, _, h => by cases h; exact .base .non
  | .bl b, _, h => by cases h; exact .base (.bl b)
  | .int i, _, h => by cases h; exact .base (.int i)
  | .str x, _, h => by obtain ⟨rfl, _⟩ := h; exact .base (.str _)
  | .tup xs, _, h => by obtain ⟨a, vs, rfl, g, _⟩ := h; exact .base (.tup g)
  | .lst xs, _, h => by
    obtain ⟨a, vs, rfl, g, _⟩ := h
    rcases g with g | ⟨o, g⟩
    · exact .base (.lst g)
    · exact .base (.frz g)
  | .dct ks xs, _, h => by
    obtain ⟨a, kvs, rfl, g, _⟩ := h
    rcases g with g | ⟨o, g⟩
    · exact .base (.dK g)
    · exact .fDict g
theorem kit_is (t : Ty) (d : D) : L2.kitB d.ty t.name = some (isTy t d) := by
  cases t <;> cases d <;> first | (show L2.kitB _ _ = _; simp only [D.ty, Ty.name, isTy]; decide +kernel)
theorem c_isa (t : Ty) : CallR X (.builtin "isinstance") (fun xs H Q => ∃ x d, xs = [x, .ty t.name] ∧ Rd H d x ∧ Got New H ((P.isa t).ap [d]) Q) := by
  intro pins s σ H xs us Q I r ⟨x, d, e, h, r2, hr, k⟩
  simp only [P.ap] at hr
  cases hr
  exact call_isi pins s σ H xs us Q I r ⟨x, .ty t.name, .type d.ty, .type t.name, isTy t d, e, .ty _, rd_ty h, kit_ty (kit_is t d), k _ H (Same.refl H) rfl⟩
theorem c_int : CallR X (.type "int") (rc New .int) := by
  intro pins s σ H xs us Q I r ⟨ds, h1, d, hr, k⟩
  cases ds with
  | nil => simp only [P.ap] at hr; cases hr
  | cons a as =>
    cases as with
    | cons b bs => cases a <;> simp only [P.ap] at hr <;> cases hr
    | nil =>
      obtain ⟨x, rfl, h⟩ := h1.one
      cases a <;> simp only [P.ap] at hr <;> try (cases hr; done)
      · cases hr; cases h
        exact call_int1 pins s σ H _ us Q I r (.inr ⟨_, rfl, k _ H (Same.refl H) rfl⟩)
      · cases hr; cases h
        exact call_int1 pins s σ H _ us Q I r (.inl ⟨_, rfl, k _ H (Same.refl H) rfl⟩)
theorem c_ord : CallR X (.builtin "ord") (rc New .ord) := by
  intro pins s σ H xs us Q I r ⟨ds, h1, d, hr, k⟩
  cases ds with
  | nil => simp only [P.ap] at hr; cases hr
  | cons a as =>
    cases as with
    | cons b bs => cases a <;> simp only [P.ap] at hr <;> cases hr
    | nil =>
      obtain ⟨x, rfl, h⟩ := h1.one
      cases a <;> simp only [P.ap] at hr <;> try (cases hr; done)
      split at hr
      · rename_i c
        cases hr
        obtain ⟨rfl, _⟩ := h
        exact call_ord pins s σ H _ us Q I r ⟨_, rfl, rfl, k _ H (Same.refl H) rfl⟩
      · cases hr
theorem keys_rep {H : Hp} : ∀ {ks : List Key}, ks.all keyFit = true → RepL H (ks.map kD) (ks.map kV)
  | [], _ => by simp [RepL]
  | k :: ks, h => by
    rw [List.all_cons, Bool.and_eq_true] at h
    simp only [List.map_cons, RepL]
    refine ⟨_, _, rfl, ?_, keys_rep h.2⟩
    cases k with
    | inl i => rfl
    | inr x => exact ⟨rfl, by rw [sz_big]; simpa [keyFit] using h.1⟩
theorem dct_obj {pins : List (Addr × Obj)} {σ : L2.St} {H : Hp} {s : Shared} {b : Addr} {kvs : List (Key × V)} (I : Inv X pins σ H s) (g : L2.Rd H b (.dK kvs)) : ObjOk X.prog X.w H s.heap b (.dK kvs) := by
  rcases g with g | ⟨o, g⟩
  · exact I.hok b _ g
  · exact (I.hok b _ g).2
theorem list_dct {pins : List (Addr × Obj)} {σ : L2.St} {H : Hp} {s : Shared} {p : Addr} {kvs : List (Key × V)} {Q : VK} (hc : X.calm = true) (I : Inv X pins σ H s) (hk : ObjOk X.prog X.w H s.heap p (.dK kvs)) (q : ∀ q, H q = none → Q (.ref q) (upd H q (.lst (kvs.map fun kv => kV kv.1)))) :
    wpAny (model X.prog X.w) X.A (call (.type "list") [.ref p]) (EP X pins σ Q) X.xe s := by
  obtain ⟨z, lo, vs, rk, hd⟩ := hk
  obtain ⟨ep, hat⟩ := hd.dictAt
  have hl : kvs.length = vs.length := Paired.length rk
  refine PySem.W.kdl_call (PySem.W.kdl_dict (knd := mixKind X.prog X.w) (kvs := vs) (ep := ep) lo) (I.ok.hd hc) hat (by rw [← hl]; exact z) fun h' tk acc' c' hkeep hS hacc => ?_
  refine ⟨.ref s.heap.objs.size, upd H s.heap.objs.size (.lst (kvs.map fun kv => kV kv.1)), I.laid hkeep (Nat.le_refl _) (show ObjOk X.prog X.w _ _ _ (.lst (kvs.map fun kv => kV kv.1)) from ⟨?_, acc'.toList, c', ?_, ?_⟩), rfl, q _ (I.hok.fresh (Nat.le_refl _))⟩
  · rw [List.length_map]; exact z
  · have el : acc'.toList.length = acc'.size := by simp
    refine vals_of_at (by rw [List.length_map, el, hacc.1, hl]) fun j x w h1 h2 => ?_
    obtain ⟨k, y, hky, hi⟩ := hacc.2 j w (by rw [← Array.getElem?_toList]; exact h2)
    have e1 : (kvs.map (·.1))[j]? = some k := by
      rw [KV.keys rk, List.getElem?_map, hky] <;> rfl
    have e2 : (kvs.map fun kv => kV kv.1)[j]? = some (kV k) := by
      have e3 : (kvs.map fun kv => kV kv.1) = (kvs.map (·.1)).map kV := by rw [List.map_map] <;> rfl
      rw [e3, List.getElem?_map, e1] <;> rfl
    rw [e2] at h1
    cases h1
    exact keyIs_rel hi
  · rw [Array.toArray_toList]; exact hS
theorem c_list (hc : X.calm = true) : CallR X (.type "list") (rc New .list) := by
  intro pins s σ H xs us Q I r ⟨ds, h1, d, hr, k⟩
  cases ds with
  | nil => simp only [P.ap] at hr; cases hr
  | cons a as =>
    cases as with
    | cons b bs => cases a <;> simp only [P.ap] at hr <;> cases hr
    | nil =>
      obtain ⟨x, rfl, h⟩ := h1.one
      cases a <;> simp only [P.ap] at hr <;> try (cases hr; done)
      · cases hr
        obtain ⟨b, vs, rfl, g1, g2⟩ := h
        exact call_list_of pins s σ H _ us Q I r ⟨b, vs, rfl, .inr (SqT.of g1), fun l hl => k _ _ (same_upd hl) ⟨l, vs, rfl, hl, upd_same, RepL.pers (Pers.of_same (same_upd hl)) _ _ g2⟩⟩
      · cases hr
        obtain ⟨b, vs, rfl, g1, g2⟩ := h
        exact call_list_of pins s σ H _ us Q I r ⟨b, vs, rfl, .inl (.inl g1), fun l hl => k _ _ (same_upd hl) ⟨l, vs, rfl, hl, upd_same, RepL.pers (Pers.of_same (same_upd hl)) _ _ g2⟩⟩
      · split at hr
        · rename_i hz
          cases hr
          obtain ⟨b, kvs, rfl, g1, g2, g3⟩ := h
          obtain ⟨u, rfl, rx⟩ := vals1 r
          obtain rfl : u = Value.ref b := rx
          refine list_dct hc I (dct_obj I g1) fun q hq => k _ _ (same_upd hq) ⟨q, _, rfl, hq, upd_same, ?_⟩
          have e3 : (kvs.map fun kv => kV kv.1) = (kvs.map (·.1)).map kV := by rw [List.map_map] <;> rfl
          rw [e3, g2]
          exact keys_rep hz
        · cases hr
theorem intsD_run {H : Hp} : ∀ {ds : List D} {vs : List V} {ns : List Int}, RepL H ds vs → intsD ds = some ns → vs = ns.map V.int
  | [], vs, ns, h, e => by
    simp only [RepL] at h
    simp only [intsD] at e
    cases e; subst h; rfl
  | d :: ds, vs, ns, h, e => by
    simp only [RepL] at h
    obtain ⟨v, r, rfl, h1, h2⟩ := h
    cases d <;> simp only [intsD] at e <;> try (cases e; done)
    cases q : intsD ds with
    | none => rw [q] at e; cases e
    | some cs =>
      rw [q] at e
      cases e
      cases h1
      rw [intsD_run h2 q]
      rfl
theorem c_sum (hc : X.calm = true) : CallR X (.builtin "sum") (rc New .sum) := by
  intro pins s σ H xs us Q I r ⟨ds, h1, d, hr, k⟩
  cases ds with
  | nil => simp only [P.ap] at hr; cases hr
  | cons a as =>
    cases as with
    | cons b bs => cases a <;> simp only [P.ap] at hr <;> cases hr
    | nil =>
      obtain ⟨x, rfl, h⟩ := h1.one
      cases a <;> simp only [P.ap] at hr <;> try (cases hr; done)
      rename_i z
      cases q : intsD z with
      | none => rw [q] at hr; cases hr
      | some ns =>
        rw [q] at hr
        cases hr
        obtain ⟨b, vs, rfl, g1, g2⟩ := h
        rw [intsD_run g2 q] at g1
        exact cr_sum hc pins s σ H _ us Q I r ⟨b, ns, rfl, .inl g1, k _ H (Same.refl H) rfl⟩
theorem c_tuple : CallR X (.type "tuple") (rc New .tuple) := by
  intro pins s σ H xs us Q I r ⟨ds, h1, d, hr, k⟩
  cases ds with
  | nil => simp only [P.ap] at hr; cases hr
  | cons a as =>
    cases as with
    | cons b bs => cases a <;> simp only [P.ap] at hr <;> cases hr
    | nil =>
      obtain ⟨x, rfl, h⟩ := h1.one
      cases a <;> simp only [P.ap] at hr <;> try (cases hr; done)
      · cases hr
        obtain ⟨b, vs, rfl, g1, g2⟩ := h
        exact call_tuple_of pins s σ H _ us Q I r ⟨b, vs, rfl, .inr ⟨SqT.of g1, k _ H (Same.refl H) ⟨b, vs, rfl, g1, g2⟩⟩⟩
      · cases hr
        obtain ⟨b, vs, rfl, g1, g2⟩ := h
        exact call_tuple_of pins s σ H _ us Q I r ⟨b, vs, rfl, .inl ⟨.inl g1, fun l hl => k _ _ (same_upd hl) ⟨l, vs, rfl, upd_same, RepL.pers (Pers.of_same (same_upd hl)) _ _ g2⟩⟩⟩
theorem boolsD_run {H : Hp} : ∀ {ds : List D} {vs : List V} {bs : List Bool}, RepL H ds vs → boolsD ds = some bs → vs = bs.map V.bl
  | [], vs, bs, h, e => by
    simp only [RepL] at h
    simp only [boolsD] at e
    cases e; subst h; rfl
  | d :: ds, vs, bs, h, e => by
    simp only [RepL] at h
    obtain ⟨v, r, rfl, h1, h2⟩ := h
    cases d <;> simp only [boolsD] at e <;> try (cases e; done)
    cases q : boolsD ds with
    | none => rw [q] at e; cases e
    | some cs =>
      rw [q] at e
      cases e
      cases h1
      rw [boolsD_run h2 q]
      rfl
theorem c_all (hc : X.calm = true) : CallR X (.builtin "all") (rc New .all) := by
  intro pins s σ H xs us Q I r ⟨ds, h1, d, hr, k⟩
  cases ds with
  | nil => simp only [P.ap] at hr; cases hr
  | cons a as =>
    cases as with
    | cons b bs => cases a <;> simp only [P.ap] at hr <;> cases hr
    | nil =>
      obtain ⟨x, rfl, h⟩ := h1.one
      cases a <;> simp only [P.ap] at hr <;> try (cases hr; done)
      rename_i z
      cases q : boolsD z with
      | none => rw [q] at hr; cases hr
      | some cs =>
        rw [q] at hr
        cases hr
        obtain ⟨b, vs, rfl, g1, g2⟩ := h
        rw [boolsD_run g2 q] at g1
        exact cr_all hc pins s σ H _ us Q I r ⟨b, cs, rfl, .inl g1, k _ H (Same.refl H) rfl⟩
theorem c_any (hc : X.calm = true) : CallR X (.builtin "any") (rc New .any) := by
  intro pins s σ H xs us Q I r ⟨ds, h1, d, hr, k⟩
  cases ds with
  | nil => simp only [P.ap] at hr; cases hr
  | cons a as =>
    cases as with
    | cons b bs => cases a <;> simp only [P.ap] at hr <;> cases hr
    | nil =>
      obtain ⟨x, rfl, h⟩ := h1.one
      cases a <;> simp only [P.ap] at hr <;> try (cases hr; done)
      rename_i z
      cases q : boolsD z with
      | none => rw [q] at hr; cases hr
      | some cs =>
        rw [q] at hr
        cases hr
        obtain ⟨b, vs, rfl, g1, g2⟩ := h
        rw [boolsD_run g2 q] at g1
        exact cr_any hc pins s σ H _ us Q I r ⟨b, cs, rfl, .inl g1, k _ H (Same.refl H) rfl⟩

/-! ### items, slices -/
theorem atI_repL {H : Hp} {ds : List D} {vs : List V} {i : Int} {d : D} (h : RepL H ds vs) (e : atI ds i = some d) : ∃ v, atI vs i = some v ∧ Rep H d v := by
  unfold atI at e ⊢
  rw [← h.len]
  cases q : ixN ds.length i with
  | none => rw [q] at e; cases e
  | some j =>
    rw [q] at e
    obtain ⟨v, h1, h2⟩ := h.get (i := j) e
    exact ⟨v, h1, h2⟩
theorem key_rd {H : Hp} {e : D} {k : Key} {y : V} (h : keyD e = some k) (r : Rd H e y) : y = kV k := by
  cases e <;> simp only [keyD] at h <;> try (cases h; done)
  · cases h; exact r
  · cases h; exact r.1
theorem getK_zip {H : Hp} {k : Key} {ks : List Key} {ds : List D} {kvs : List (Key × V)} (h1 : kvs.map (·.1) = ks) (h2 : RepL H ds (kvs.map (·.2))) : (∀ d, getK (ks.zip ds) k = some d → ∃ v, valV kvs k = some v ∧ Rep H d v) ∧ (getK (ks.zip ds) k = none → valV kvs k = none) := by
  subst h1
  induction kvs generalizing ds with
  | nil => exact ⟨fun d h => by simp [getK] at h, fun _ => rfl⟩
  | cons q r ih =>
    cases ds with
    | nil => simp [RepL] at h2
    | cons d ds =>
      simp only [List.map_cons, RepL] at h2
      obtain ⟨v, r', e, g1, g2⟩ := h2
      obtain ⟨e1, e2⟩ := List.cons.inj e
      subst e2
      obtain ⟨i1, i2⟩ := ih g2
      unfold getK valV at i1 i2 ⊢
      simp only [List.map_cons, List.zip_cons_cons, List.find?_cons]
      by_cases z : q.1 = k
      · simp only [z, decide_true]
        exact ⟨fun d' h => by cases h; exact ⟨_, rfl, by show Rep H d q.2; rw [e1]; exact g1⟩, fun h => by cases h⟩
      · simp only [z, decide_false]
        exact ⟨i1, i2⟩
theorem ix_str_go {value slice : Expr} {pins : List (Addr × Obj)} {s : Shared} {σ : L2.St} {H : Hp} {x : V} {v u : Value} {Q : VK} {r : D} {z : List Nat} {i : Int} (I : Inv X pins σ H s) (rx : RelV x v) (ry : RelV (.int i) u) (h1 : Rd H (.str z) x) (hr : ixD (.str z) i = some r)
    (k : ∀ v H', Same H H' → Old H H' r v → Q v H') (hs : subscripted slice false v u = operate [v, u] (getItem v u)) : wpAny (model X.prog X.w) X.A (subscriptTail value slice v u) (EP X pins σ Q) X.xe s := by
  simp only [ixD] at hr
  obtain ⟨rfl, hz⟩ := h1
  cases q : atI z i with
  | none => rw [q] at hr; cases hr
  | some c =>
    rw [q] at hr
    cases hr
    exact ix_str value slice pins s σ H _ _ v u Q I rx ry ⟨_, _, c, rfl, rfl, by rw [str_len]; exact hz, by simpa using q, k _ H (Same.refl H) ⟨rfl, by rw [sz_big]; show 1 ≤ big; decide⟩⟩ hs
theorem ix_tup_go {value slice : Expr} {pins : List (Addr × Obj)} {s : Shared} {σ : L2.St} {H : Hp} {x : V} {v u : Value} {Q : VK} {r : D} {z : List D} {i : Int} (I : Inv X pins σ H s) (rx : RelV x v) (ry : RelV (.int i) u) (h1 : Rd H (.tup z) x) (hr : ixD (.tup z) i = some r)
    (k : ∀ v H', Same H H' → Old H H' r v → Q v H') (hs : subscripted slice false v u = operate [v, u] (getItem v u)) : wpAny (model X.prog X.w) X.A (subscriptTail value slice v u) (EP X pins σ Q) X.xe s := by
  simp only [ixD] at hr
  obtain ⟨b, vs, rfl, g1, g2⟩ := h1
  obtain ⟨w', q1, q2⟩ := atI_repL g2 hr
  exact ix_tup value slice pins s σ H _ _ v u Q I rx ry ⟨b, vs, i, w', rfl, rfl, SqT.of g1, q1, k _ H (Same.refl H) q2⟩ hs
theorem ix_lst_go {value slice : Expr} {pins : List (Addr × Obj)} {s : Shared} {σ : L2.St} {H : Hp} {x : V} {v u : Value} {Q : VK} {r : D} {z : List D} {i : Int} (I : Inv X pins σ H s) (rx : RelV x v) (ry : RelV (.int i) u) (h1 : Rd H (.lst z) x) (hr : ixD (.lst z) i = some r)
    (k : ∀ v H', Same H H' → Old H H' r v → Q v H') (hs : subscripted slice false v u = operate [v, u] (getItem v u)) : wpAny (model X.prog X.w) X.A (subscriptTail value slice v u) (EP X pins σ Q) X.xe s := by
  simp only [ixD] at hr
  obtain ⟨b, vs, rfl, g1, g2⟩ := h1
  obtain ⟨w', q1, q2⟩ := atI_repL g2 hr
  exact ix_list value slice pins s σ H _ _ v u Q I rx ry ⟨b, vs, i, w', rfl, rfl, .inl g1, q1, k _ H (Same.refl H) q2⟩ hs
theorem i_ix (hu : X.A.units + 1 < cLine) : IxR X (r2 Old .ix) := by
  intro value slice pins s σ H x y v u Q I rx ry ⟨d, e, h1, h2, r, hr, k⟩ hs
  by_cases dd : ∃ ks vs, d = .dct ks vs
  · obtain ⟨ks, vs, rfl⟩ := dd
    have hr : (match keyD e with | some k => getK (ks.zip vs) k | none => none) = some r := by
      cases e <;> exact hr
    split at hr
    · rename_i kk ek
      obtain ⟨b, kvs, rfl, g1, g2, g3⟩ := h1
      obtain ⟨w', q1, q2⟩ := (getK_zip (k := kk) g2 g3).1 r hr
      obtain rfl := key_rd ek h2
      cases rx
      obtain ⟨z, hd, ws, rel, dd⟩ := dk_rd I.hok g1
      refine tail_any dd.typeIs PySem.F.slot_dict_getitem.lookup (d_getItem hu I (.inl ⟨kvs, kk, g1, rfl, q1.symm⟩) ry fun u' s' I' r' => ⟨w', H, I', r', k _ H (Same.refl H) q2⟩) hs
    · cases hr
  have nd : ∀ ks vs, d ≠ .dct ks vs := fun ks vs z => dd ⟨ks, vs, z⟩
  cases d with
  | dct ks vs => exact absurd rfl (nd ks vs)
  | non => cases e <;> simp only [P.ap, ixD] at hr <;> cases hr
  | bl b => cases e <;> simp only [P.ap, ixD] at hr <;> cases hr
  | int b => cases e <;> simp only [P.ap, ixD] at hr <;> cases hr
  | str z => cases e <;> simp only [P.ap] at hr <;> try (cases hr; done)
             rename_i i
             cases h2
             exact ix_str_go I rx ry h1 hr k hs
  | tup z => cases e <;> simp only [P.ap] at hr <;> try (cases hr; done)
             rename_i i
             cases h2
             exact ix_tup_go I rx ry h1 hr k hs
  | lst z => cases e <;> simp only [P.ap] at hr <;> try (cases hr; done)
             rename_i i
             cases h2
             exact ix_lst_go I rx ry h1 hr k hs
/-- e[lo:hi] -/
theorem sl_cut : SlR X (fun x lo hi H Q => ∃ d, Rd H d x ∧ Got New H (cutD d lo hi) Q) := by
  intro pins s σ H x v vl vu lo hi sl Q I rx hs pl pu ⟨d, h, r, hr, k⟩
  cases d <;> simp only [cutD] at hr <;> try (cases hr; done)
  · rename_i z
    cases hr
    obtain ⟨rfl, hz⟩ := h
    have e : cutS (⟨z.toArray⟩ : Str) lo hi = ⟨(cutL z lo hi).toArray⟩ := by
      unfold cutS cutL
      rw [str_len]
    refine sl_str pins s σ H _ v vl vu lo hi sl Q I rx hs pl pu ⟨_, rfl, by rw [str_len]; exact hz, ?_⟩
    rw [e]
    refine k _ H (Same.refl H) ⟨rfl, ?_⟩
    unfold cutL
    rw [List.length_take, List.length_drop]
    have := hz
    omega
  · rename_i z
    cases hr
    obtain ⟨b, vs, rfl, g1, g2⟩ := h
    have l1 := g2.len
    have rr : ∀ H', Same H H' → RepL H' (cutL z lo hi) (cutV vs lo hi) := fun H' e => by
      unfold cutL cutV
      rw [l1]
      exact ((g2.drop _).take _).pers (Pers.of_same e)
    refine sl_tupA pins s σ H _ v vl vu lo hi sl Q I rx hs pl pu ⟨b, vs, rfl, SqT.of g1, fun w => ?_, fun _ p hp => ?_⟩
    · refine k _ H (Same.refl H) ⟨b, vs, rfl, g1, ?_⟩
      have q := rr H (Same.refl H)
      have e : cutV vs lo hi = vs := by
        unfold cutV
        rw [w.1, w.2]
        simp
      rw [e] at q
      exact q
    · exact k _ _ (same_upd hp) ⟨p, _, rfl, upd_same, rr _ (same_upd hp)⟩
  · rename_i z
    cases hr
    obtain ⟨b, vs, rfl, g1, g2⟩ := h
    have l1 := g2.len
    refine sl_list pins s σ H _ v vl vu lo hi sl Q I rx hs pl pu ⟨b, vs, rfl, .inl g1, fun p hp => ?_⟩
    refine k _ _ (same_upd hp) ⟨p, _, rfl, hp, upd_same, ?_⟩
    unfold cutL cutV
    rw [l1]
    exact ((g2.drop _).take _).pers (Pers.of_same (same_upd hp))
end
end Rf

set_option Elab.async false
set_option linter.all false
set_option maxRecDepth 100000
set_option maxHeartbeats 4000000
namespace Rf
open PySem PySem.Spec PyProof.Rows L2

theorem peOf {X : Cx} {e : Expr} {t t' : TE} (h : PE X e t) (i : ∀ σ H Q, t' σ H Q → t σ H Q) : PE X e t' := ⟨fun pins s σ H Q I w => h.run pins s σ H Q I (i σ H Q w)⟩
theorem ptOf {X : Cx} {e : Expr} {t t' : TT} (h : PT X e t) (i : ∀ σ H Q, t' σ H Q → t σ H Q) : PT X e t' := ⟨fun pins s σ H Q I w => h.run pins s σ H Q I (i σ H Q w)⟩
theorem paOf {X : Cx} {e : List Expr} {t t' : TA} (h : PA X e t) (i : ∀ σ H Q, t' σ H Q → t σ H Q) : PA X e t' := ⟨fun pos pins s σ H Q I w => h.run pos pins s σ H Q I (i σ H Q w)⟩

/-- a datum's truth -/
theorem truD {X : Cx} {pins : List (Addr × Obj)} {σ : L2.St} {H : Hp} {s : Shared} {d : D} {x : V} {v : Value} {b : Bool} {Q : Bool → Shared → Prop} (I : Inv X pins σ H s) (rx : RelV x v) (h : Rd H d x) (e : truth d = some b)
    (q : ∀ s', Inv X pins σ H s' → Q b s') : wpAny (model X.prog X.w) X.A (truthy v) Q X.xe s := by
  have go : TruV X.K x H b → wpAny (model X.prog X.w) X.A (truthy v) Q X.xe s := fun t => by
    refine wpAny_mono (tru_ok pins s σ H x v (fun k H' => k = b ∧ H' = H) I rx ⟨b, t, rfl, rfl⟩) ?_ fun _ _ z => z
    rintro k s' ⟨H', I', rfl, rfl⟩
    exact q s' I'
  cases d <;> simp only [truth, Option.some.injEq] at e <;> subst e
  · cases h; exact go rfl
  · cases h; exact go rfl
  · cases h; exact go rfl
  · rename_i z
    obtain ⟨rfl, hz⟩ := h
    refine go ⟨by rw [str_len]; exact hz, ?_⟩
    rw [str_len]
    cases z <;> simp
    omega
  · obtain ⟨a, vs, rfl, g, r⟩ := h
    refine go (.inr (.inl ⟨vs, SqT.of g, ?_⟩))
    have := r.len
    rename_i z
    cases z <;> cases vs <;> simp_all
  · obtain ⟨a, vs, rfl, g, r⟩ := h
    refine go (.inl ⟨vs, .inl g, ?_⟩)
    have := r.len
    rename_i z
    cases z <;> cases vs <;> simp_all
  · obtain ⟨a, kvs, rfl, g, k, r⟩ := h
    cases rx
    refine d_truth I g fun s' I' => ?_
    have := q s' I'
    rw [← k] at this
    cases kvs <;> simpa using this

section
variable {X : Cx} {T : Tbl} {XR : Hp → Nat → List D → Value → Option Addr → Prop} {W : WX}

theorem s_var {i : Nat} {x : Str} {pos : Pos} (hN : X.N[i]? = some x) (hv : Vis X.env.scope x) (hd : (x == ("__debug__" : Str)) = false) (hcd : (x == ("__classdict__" : Str)) = false) : PE X (.Name x pos) (den T XR W (.var i)) :=
  peOf (pe_var hN hv hd hcd) fun σ H Q ⟨F, st, I, h⟩ => by
    simp only [ev] at h
    split at h
    · rename_i d e
      obtain ⟨v, q1, q2⟩ := I.var e
      exact ⟨v, q1, h H (Pers.refl H) I v q2⟩
    · exact h.elim
theorem s_int {i : Int} {j : Nat} {pos : Pos} : PE X (.Constant (.int i) j pos) (den T XR W (.kint i)) := peOf pe_int fun σ H Q ⟨F, st, I, h⟩ => h H (Pers.refl H) I _ rfl
theorem s_bl {b : Bool} {j : Nat} {pos : Pos} : PE X (.Constant (.bool b) j pos) (den T XR W (.kbl b)) := peOf pe_bl fun σ H Q ⟨F, st, I, h⟩ => h H (Pers.refl H) I _ rfl
theorem s_non {j : Nat} {pos : Pos} : PE X (.Constant .none j pos) (den T XR W .knon) := peOf pe_non fun σ H Q ⟨F, st, I, h⟩ => h H (Pers.refl H) I _ rfl
theorem s_str {x : List Nat} {y : Str} {j : Nat} {pos : Pos} (e : y.cps.toList = x) (hz : x.length ≤ big) : PE X (.Constant (.str y) j pos) (den T XR W (.kstr x)) := by
  have ey : y = ⟨x.toArray⟩ := by rw [← e]
  subst ey
  exact peOf pe_str fun σ H Q ⟨F, st, I, h⟩ => h H (Pers.refl H) I _ ⟨rfl, by rw [sz_big]; exact hz⟩
/-- a module's constant -/
def scalV : D → Option V
  | .non => some .non
  | .bl b => some (.bl b)
  | .int i => some (.int i)
  | .str x => if x.length ≤ big then some (.str ⟨x.toArray⟩) else none
  | _ => none
theorem scalV_rep {H : Hp} {d : D} {v : V} (h : scalV d = some v) : Rep H d v := by
  cases d <;> simp only [scalV] at h <;> try (cases h; done)
  · cases h; rfl
  · cases h; rfl
  · cases h; rfl
  · split at h
    · rename_i hz
      cases h
      exact ⟨rfl, by rw [sz_big]; exact hz⟩
    · cases h
theorem s_glo {x : Str} {d : D} {v : V} {u : Value} {pos : Pos} (hg : Gl X x) (hm : X.mg x = some u) (hv : scalV d = some v) (r : RelV v u) (hd : (x == ("__debug__" : Str)) = false) : PE X (.Name x pos) (den T XR W (.glo x d)) :=
  peOf (pe_glob hg hm r hd) fun σ H Q ⟨F, st, I, h⟩ => h H (Pers.refl H) I _ (scalV_rep hv)

/-! ### and, or, not, a if c else b -/
variable {a b c : E} {ea eb ec : Expr} {rest : List Expr} {pos : Pos}
theorem s_and1 {op : BoolOp} (h : PE X eb (den T XR W b)) : PE X (.BoolOp op [eb] pos) (den T XR W b) := pe_one h
theorem s_and (ha : PE X ea (den T XR W a)) (hb : PE X (.BoolOp .And (eb :: rest) pos) (den T XR W b)) : PE X (.BoolOp .And (ea :: eb :: rest) pos) (den T XR W (.and a b)) :=
  peOf (pe_and ha hb) fun σ H Q ⟨F, st, I, h⟩ => by
    simp only [ev] at h
    refine ⟨F, st, I, h.bind fun d s1 H1 _ p I1 q v rv => ?_⟩
    cases d <;> try (exact q.elim)
    rename_i k _
    refine ⟨k, rv, ?_⟩
    cases k with
    | true => rw [if_pos rfl]; exact ⟨F, s1, I1, q⟩
    | false => rw [if_neg (by decide)]; exact q H1 (Pers.refl _) I1 _ rfl
theorem s_or (ha : PE X ea (den T XR W a)) (hb : PE X (.BoolOp .Or (eb :: rest) pos) (den T XR W b)) : PE X (.BoolOp .Or (ea :: eb :: rest) pos) (den T XR W (.or a b)) :=
  peOf (pe_or ha hb) fun σ H Q ⟨F, st, I, h⟩ => by
    simp only [ev] at h
    refine ⟨F, st, I, h.bind fun d s1 H1 _ p I1 q v rv => ?_⟩
    cases d <;> try (exact q.elim)
    rename_i k _
    refine ⟨k, rv, ?_⟩
    cases k with
    | true => rw [if_pos rfl]; exact q H1 (Pers.refl _) I1 _ rfl
    | false => rw [if_neg (by decide)]; exact ⟨F, s1, I1, q⟩
theorem s_not (ha : PE X ea (den T XR W a)) : PE X (.UnaryOp .Not ea pos) (den T XR W (.not a)) := by
  refine ⟨fun pins s σ H Q I0 ⟨F, st, I, h⟩ => ?_⟩
  simp only [ev] at h
  refine UnaryOp_ (thn (ha.run pins s σ H (fun x H1 => ∃ d k, Rd H1 d x ∧ truth d = some k ∧ Q (.bl (!k)) H1) I0 ⟨F, st, I, h.bind fun d s1 H1 _ p I1 q v rv => ?_⟩) fun v s1 ⟨x, H1, I1, r1, d, k, h1, h2, q1⟩ => ?_)
  · split at q
    · rename_i k e
      exact ⟨d, k, Rd.of rv, e, q H1 (Pers.refl _) I1 _ rfl⟩
    · exact q.elim
  · exact not_of (truD I1 r1 h1 h2 fun s' I' => ⟨.bl (!k), H1, I', rfl, q1⟩)
theorem s_ite (hc : PT X ec (denT T XR W c)) (ha : PE X ea (den T XR W a)) (hb : PE X eb (den T XR W b)) : PE X (.IfExp ec ea eb pos) (den T XR W (.ite c a b)) :=
  peOf (pe_ifExp hc ha hb) fun σ H Q ⟨F, st, I, h⟩ => by
    simp only [ev] at h
    refine ⟨F, st, I, h.bind fun d s1 H1 _ p I1 q => ?_⟩
    split at q
    · rename_i e; exact ⟨true, e, by dsimp only; rw [if_pos rfl]; exact ⟨F, s1, I1, q⟩⟩
    · rename_i e; exact ⟨false, e, by dsimp only; rw [if_neg (by decide)]; exact ⟨F, s1, I1, q⟩⟩
    · exact q.elim
/-! as tests -/
theorem t_and1 {op : BoolOp} (h : PT X eb (denT T XR W b)) : PW X (.BoolOp op [eb] pos) (denT T XR W b) := by
  cases op
  · exact pw_and1 h
  · exact pw_or1 h
theorem t_and (ha : PT X ea (denT T XR W a)) (hb : PW X (.BoolOp .And (eb :: rest) pos) (denT T XR W b)) : PW X (.BoolOp .And (ea :: eb :: rest) pos) (denT T XR W (.and a b)) := by
  refine ⟨fun wh pins s σ H Q I0 ⟨F, st, I, h⟩ => (pw_and ha hb).run wh pins s σ H Q I0 ?_⟩
  simp only [ev] at h
  refine ⟨F, st, I, h.bind fun d s1 H1 _ p I1 q => ?_⟩
  cases d <;> try (exact q.elim)
  rename_i k _
  refine ⟨k, rfl, ?_⟩
  cases k with
  | true => rw [if_pos rfl]; exact ⟨F, s1, I1, q⟩
  | false =>
    rw [if_neg (by decide)]
    obtain ⟨b', e, q'⟩ := q H1 (Pers.refl _) I1
    cases e
    exact q'
theorem t_or (ha : PT X ea (denT T XR W a)) (hb : PW X (.BoolOp .Or (eb :: rest) pos) (denT T XR W b)) : PW X (.BoolOp .Or (ea :: eb :: rest) pos) (denT T XR W (.or a b)) := by
  refine ⟨fun wh pins s σ H Q I0 ⟨F, st, I, h⟩ => (pw_or ha hb).run wh pins s σ H Q I0 ?_⟩
  simp only [ev] at h
  refine ⟨F, st, I, h.bind fun d s1 H1 _ p I1 q => ?_⟩
  cases d <;> try (exact q.elim)
  rename_i k _
  refine ⟨k, rfl, ?_⟩
  cases k with
  | true =>
    rw [if_pos rfl]
    obtain ⟨b', e, q'⟩ := q H1 (Pers.refl _) I1
    cases e
    exact q'
  | false => rw [if_neg (by decide)]; exact ⟨F, s1, I1, q⟩
theorem t_not (ha : PT X ea (denT T XR W a)) : PT X (.UnaryOp .Not ea pos) (denT T XR W (.not a)) :=
  ptOf (pt_not ha) fun σ H Q ⟨F, st, I, h⟩ => by
    simp only [ev] at h
    refine ⟨F, st, I, h.bind fun d s1 H1 _ p I1 q => ?_⟩
    split at q
    · rename_i k e
      obtain ⟨b', e', q'⟩ := q H1 (Pers.refl _) I1
      cases e'
      exact ⟨k, e, q'⟩
    · exact q.elim
theorem t_ite (hc : PT X ec (denT T XR W c)) (ha : PT X ea (denT T XR W a)) (hb : PT X eb (denT T XR W b)) : PT X (.IfExp ec ea eb pos) (denT T XR W (.ite c a b)) := by
  refine ⟨fun pins s σ H Q I0 ⟨F, st, I, h⟩ => ?_⟩
  simp only [ev] at h
  refine isTrue_IfExp (thn (hc.run pins s σ H (fun k H1 => if k = true then denT T XR W a σ H1 Q else denT T XR W b σ H1 Q) I0 ⟨F, st, I, h.bind fun d s1 H1 _ p I1 q => ?_⟩) fun k s1 ⟨H1, I1, q1⟩ => ?_)
  · split at q
    · rename_i e; exact ⟨true, e, by dsimp only; rw [if_pos rfl]; exact ⟨F, s1, I1, q⟩⟩
    · rename_i e; exact ⟨false, e, by dsimp only; rw [if_neg (by decide)]; exact ⟨F, s1, I1, q⟩⟩
    · exact q.elim
  · cases k with
    | true => exact ha.run pins s1 σ H1 Q I1 q1
    | false => exact hb.run pins s1 σ H1 Q I1 q1
/-- any expression whose test is its value's truth -/
theorem t_plain (ha : PE X ea (den T XR W a)) (he : ∀ whole, isTrue ea X.env whole = (do let v ← whole; standAt ea.pos; holding [v] (truthy v))) : PT X ea (denT T XR W a) := by
  refine ⟨fun pins s σ H Q I0 ⟨F, st, I, h⟩ => ?_⟩
  refine isTrue_plain (thn (ha.run pins s σ H (fun x H1 => ∃ d k, Rd H1 d x ∧ truth d = some k ∧ Q k H1) I0 ⟨F, st, I, h.mono fun d s1 H1 _ p I1 q v rv => ?_⟩) fun v s1 ⟨x, H1, I1, r1, d, k, h1, h2, q1⟩ => ?_) (he _)
  · obtain ⟨k, e, q⟩ := q
    exact ⟨d, k, Rd.of rv, e, q⟩
  · exact truD I1 r1 h1 h2 fun s' I' => ⟨H1, I', q1⟩

/-! ### operations -/
theorem SI.same {F : Fx} {σ : L2.St} {st : Sx} {H H' : Hp} (I : SI F σ st H) (e : Same H H') : SI F σ st H' := by
  have p := Pers.of_same e
  refine ⟨fun i x h => ?_, I.one, I.fresh, fun a o h n => e _ _ (I.keep a o h n), I.glen, fun k kd a h1 h2 => ?_, I.gone, fun q hq => ?_, I.hfr⟩
  · obtain ⟨y, h1, h2⟩ := I.slot i x h
    refine ⟨y, h1, ?_⟩
    cases x with
    | none => trivial
    | val d => obtain ⟨v, e1, e2⟩ := h2; exact ⟨v, e1, Rep.pers p _ _ e2⟩
    | own ds => obtain ⟨a, vs, e1, e2, e3⟩ := h2; exact ⟨a, vs, e1, e _ _ e2, RepL.pers p _ _ e3⟩
    | glb k => exact h2
  · obtain ⟨kvs, q1, q2, q3⟩ := I.glob k kd a h1 h2
    exact ⟨kvs, e _ _ q1, q2, RepL.pers p _ _ q3⟩
  · obtain ⟨vs, q1, q2⟩ := I.hid q hq
    exact ⟨vs, e _ _ q1, RepL.pers p _ _ q2⟩
/-- behind the arguments: the operation -/
theorem opDone {p : P} {es : List E} {σ : L2.St} {H : Hp} {Q : VK} (h : den T XR W (.prim p es) σ H Q) : tL T XR W es σ H fun vs H1 => ∃ ds, RdL H1 ds vs ∧ Got Old H1 (p.ap ds) Q := by
  obtain ⟨F, st, I, h⟩ := h
  simp only [ev] at h
  refine args es st H _ I (h.bind fun ds s1 H1 _ pp I1 q vs rv => ⟨ds, rv.rd, ?_⟩)
  unfold ofOpt at q
  split at q
  · rename_i d e
    exact ⟨d, e, fun v H' sm r => q H' (Pers.of_same sm) (I1.same sm) v r⟩
  · exact q.elim
theorem den_mono {σ : L2.St} {H : Hp} {Q Q' : VK} (h : den T XR W a σ H Q) (k : ∀ v H', Q v H' → Q' v H') : den T XR W a σ H Q' := by
  obtain ⟨F, st, I, h⟩ := h
  exact ⟨F, st, I, h.mono fun d s1 H1 _ p I1 q v rv => k v H1 (q v rv)⟩
theorem tE_mono {σ : L2.St} {H : Hp} {Q Q' : VK} (h : tE T XR W a σ H Q) (k : ∀ v H', Q v H' → Q' v H') : tE T XR W a σ H Q' := by
  unfold tE at h ⊢
  cases e : a.isOwn with
  | none => rw [e] at h; exact den_mono h k
  | some i =>
    rw [e] at h
    obtain ⟨v, q1, q2⟩ := h
    exact ⟨v, q1, k v H q2⟩
theorem tL_mono {σ : L2.St} : ∀ {es : List E} {H : Hp} {Q Q' : List V → Hp → Prop}, tL T XR W es σ H Q → (∀ v H', Q v H' → Q' v H') → tL T XR W es σ H Q'
  | [], H, Q, Q', h, k => k _ _ h
  | a :: as, H, Q, Q', h, k => tE_mono (h : tE T XR W a σ H _) fun v H' q => tL_mono q fun vs H2 q2 => k _ _ q2
theorem RdL.is1 {H : Hp} {ds : List D} {x : V} (h : RdL H ds [x]) : ∃ d, ds = [d] ∧ Rd H d x := by
  cases ds with
  | nil => simp only [RdL] at h; cases h
  | cons d ds =>
    obtain ⟨v, r, e, h1, h2⟩ := h
    cases e
    cases ds with
    | nil => exact ⟨d, rfl, h1⟩
    | cons e es => obtain ⟨_, _, e, _⟩ := h2; cases e
theorem RdL.is2 {H : Hp} {ds : List D} {x y : V} (h : RdL H ds [x, y]) : ∃ d e, ds = [d, e] ∧ Rd H d x ∧ Rd H e y := by
  cases ds with
  | nil => simp only [RdL] at h; cases h
  | cons d ds =>
    obtain ⟨v, r, e, h1, h2⟩ := h
    cases e
    obtain ⟨e, rfl, h3⟩ := RdL.is1 h2
    exact ⟨d, e, rfl, h1, h3⟩
theorem op2 {p : P} {σ : L2.St} {H : Hp} {Q : VK} (h : den T XR W (.prim p [a, b]) σ H Q) : tE T XR W a σ H fun x H1 => tE T XR W b σ H1 fun y H2 => r2 Old p x y H2 Q := by
  have g := opDone h
  exact tE_mono (g : tE T XR W a σ H _) fun x H1 g1 => tE_mono (g1 : tE T XR W b σ H1 _) fun y H2 g2 => by
    obtain ⟨ds, r, g⟩ : ∃ ds, RdL H2 ds [x, y] ∧ Got Old H2 (p.ap ds) Q := g2
    obtain ⟨d, e, rfl, h1, h2⟩ := r.is2
    exact ⟨d, e, h1, h2, g⟩
theorem op1 {p : P} {σ : L2.St} {H : Hp} {Q : VK} (h : den T XR W (.prim p [a]) σ H Q) : tE T XR W a σ H fun x H1 => ∃ d, Rd H1 d x ∧ Got Old H1 (p.ap [d]) Q := by
  have g := opDone h
  exact tE_mono (g : tE T XR W a σ H _) fun x H1 g1 => by
    obtain ⟨ds, r, g⟩ : ∃ ds, RdL H1 ds [x] ∧ Got Old H1 (p.ap ds) Q := g1
    obtain ⟨d, rfl, h1⟩ := r.is1
    exact ⟨d, h1, g⟩
theorem s_bin {p : P} {op : Operator} (ho : OpR X (binaryOp op) (r2 New p)) (ha : PE X ea (tE T XR W a)) (hb : PE X eb (tE T XR W b)) : PE X (.BinOp ea op eb pos) (den T XR W (.prim p [a, b])) :=
  peOf (pe_op (OpR.froze ho) ha hb) fun σ H Q h => op2 h
theorem s_cmp {p : P} {op : CmpOp} (ho : OpR X (compareOp op) (r2 New p)) (ha : PE X ea (tE T XR W a)) (hb : PE X eb (tE T XR W b)) (hm : behindInMarks op eb = false) : PE X (.Compare ea [op] [eb] pos) (den T XR W (.prim p [a, b])) :=
  peOf (pe_cmpR (OpR.froze ho) ha hb hm) fun σ H Q h => op2 h
theorem den_T {m : E} {σ : L2.St} {H : Hp} {Q : Bool → Hp → Prop} (h : denT T XR W m σ H Q) : den T XR W m σ H fun v H' => ∃ d k, Rep H' d v ∧ truth d = some k ∧ Q k H' := by
  obtain ⟨F, st, I, h⟩ := h
  refine ⟨F, st, I, h.mono fun d s1 H1 _ p I1 q v rv => ?_⟩
  obtain ⟨k, e, q⟩ := q
  exact ⟨d, k, rv, e, q⟩
/-- the outcome of a comparison is a bool -/
theorem t_cmp {p : P} {op : CmpOp} (hp : ∀ ds r, p.ap ds = some r → ∃ k, r = .bl k) (ho : OpR X (compareOp op) (r2 New p)) (ha : PE X ea (tE T XR W a)) (hb : PE X eb (tE T XR W b)) (hm : behindInMarks op eb = false) : PT X (.Compare ea [op] [eb] pos) (denT T XR W (.prim p [a, b])) :=
  ptOf (pt_cmpR (OpR.froze ho) ha hb hm) fun σ H Q h => by
    have g := op2 (den_T h)
    refine tE_mono g fun x H1 g1 => tE_mono g1 fun y H2 ⟨d, e, h1, h2, r, hr, k⟩ => ⟨d, e, h1, h2, r, hr, fun v H' sm rv => ?_⟩
    obtain ⟨k', rfl⟩ := hp _ _ hr
    obtain ⟨d', k2, q1, q2, q3⟩ := k v H' sm rv
    cases rv
    cases d' <;> simp only [Rep] at q1 <;> try (cases q1; done)
    · cases q1; cases q2; exact ⟨_, rfl, q3⟩
    · exact absurd q1.1 (by intro z; cases z)
    · obtain ⟨_, _, z, _⟩ := q1; cases z
    · obtain ⟨_, _, _, z, _⟩ := q1; cases z
    · obtain ⟨_, _, _, z, _⟩ := q1; cases z
theorem s_neg (ha : PE X ea (tE T XR W a)) : PE X (.UnaryOp .USub ea pos) (den T XR W (.prim .neg [a])) := by
  refine ⟨fun pins s σ H Q I h => ?_⟩
  refine UnaryOp_ (thn (ha.run pins s σ H _ I (op1 h)) fun v s1 ⟨x, H1, I1, r1, d, h1, g⟩ => ?_)
  exact EP.froze (u := v) g fun Q' g' => o_neg pins s1 σ H1 x v Q' I1 r1 ⟨d, h1, g'⟩
end
end Rf

set_option Elab.async false
set_option linter.all false
set_option maxRecDepth 100000
set_option maxHeartbeats 4000000
namespace Rf
open PySem PySem.Spec PyProof.Rows L2

theorem Post.keep {XR : Hp → Nat → List D → Value → Option Addr → Prop} {W : WX} {F : Fx} {σ : L2.St} {α : Type} {H : Hp} {r : Res α} {R R' : α → Hp → Prop} (h : Post XR W F σ H r R)
    (k : ∀ a st H', r = .ok a st → Pers H H' → SI F σ st H' → (∀ H2, Pers H' H2 → SI F σ st H2 → R a H2) → R' a H') : Post XR W F σ H r R' := by
  cases r with
  | ok a st => exact fun H' p I => k a st H' rfl p I fun H2 p2 I2 => h H2 (p.trans p2) I2
  | exc c fs st => exact h
  | bad => exact h
/-- the reading of an expression that makes what it hands back: a list that it made is open still -/
def denN (T : Tbl) (XR : Hp → Nat → List D → Value → Option Addr → Prop) (W : WX) (m : E) : TE := fun σ H Q => ∃ F st, SI F σ st H ∧ Post XR W F σ H (ev T m st) fun d H1 => ∀ v H', Same H1 H' → New H1 H' d v → Q v H'
section
variable {X : Cx} {T : Tbl} {XR : Hp → Nat → List D → Value → Option Addr → Prop} {W : WX} {a b c m : E} {ea eb ec e : Expr} {pos : Pos}
theorem n_froze (h : PE X e (denN T XR W m)) : PE X e (den T XR W m) := by
  refine ⟨fun pins s σ H Q I0 ⟨F, st, I, g⟩ => ?_⟩
  refine thn (h.run pins s σ H (fun v H' => ∃ d H1, Same H1 H' ∧ New H1 H' d v ∧ ∀ v H2, Same H1 H2 → Rep H2 d v → Q v H2) I0 ⟨F, st, I, g.keep fun d s1 H1 _ p I1 q v H' sm nw => ?_⟩) ?_
  · exact ⟨d, H1, sm, nw, fun v H2 sm2 r => q H2 (Pers.of_same sm2) (I1.same sm2) v r⟩
  · rintro u s' ⟨v, H', I', rv, d, H1, sm, nw, k⟩
    obtain ⟨H2, I2, r2, e2⟩ := frozen I' nw sm
    exact ⟨v, H2, I2, rv, k v H2 e2 r2⟩
/-- an old value is also as a new one, if it is no list -/
theorem den_of_N {σ : L2.St} {H : Hp} {Q : VK} (h : denN T XR W m σ H Q) : ∃ F st, SI F σ st H ∧ Post XR W F σ H (ev T m st) fun d H1 => ∀ v H', Same H1 H' → New H1 H' d v → Q v H' := h
theorem opN {p : P} {es : List E} {σ : L2.St} {H : Hp} {Q : VK} (h : denN T XR W (.prim p es) σ H Q) : tL T XR W es σ H fun vs H1 => ∃ ds, RdL H1 ds vs ∧ Got New H1 (p.ap ds) Q := by
  obtain ⟨F, st, I, h⟩ := h
  simp only [ev] at h
  refine args es st H _ I (h.bind fun ds s1 H1 _ pp I1 q vs rv => ⟨ds, rv.rd, ?_⟩)
  unfold ofOpt at q
  split at q
  · rename_i d e
    exact ⟨d, e, fun v H' sm r => q H1 (Pers.refl _) I1 v H' sm r⟩
  · exact q.elim
theorem opN2 {p : P} {σ : L2.St} {H : Hp} {Q : VK} (h : denN T XR W (.prim p [a, b]) σ H Q) : tE T XR W a σ H fun x H1 => tE T XR W b σ H1 fun y H2 => r2 New p x y H2 Q := by
  have g := opN h
  exact tE_mono (g : tE T XR W a σ H _) fun x H1 g1 => tE_mono (g1 : tE T XR W b σ H1 _) fun y H2 g2 => by
    obtain ⟨ds, r, g⟩ : ∃ ds, RdL H2 ds [x, y] ∧ Got New H2 (p.ap ds) Q := g2
    obtain ⟨d, e, rfl, h1, h2⟩ := r.is2
    exact ⟨d, e, h1, h2, g⟩
theorem opN1 {p : P} {σ : L2.St} {H : Hp} {Q : VK} (h : denN T XR W (.prim p [a]) σ H Q) : tE T XR W a σ H fun x H1 => ∃ d, Rd H1 d x ∧ Got New H1 (p.ap [d]) Q := by
  have g := opN h
  exact tE_mono (g : tE T XR W a σ H _) fun x H1 g1 => by
    obtain ⟨ds, r, g⟩ : ∃ ds, RdL H1 ds [x] ∧ Got New H1 (p.ap ds) Q := g1
    obtain ⟨d, rfl, h1⟩ := r.is1
    exact ⟨d, h1, g⟩
theorem n_bin {p : P} {op : Operator} (ho : OpR X (binaryOp op) (r2 New p)) (ha : PE X ea (tE T XR W a)) (hb : PE X eb (tE T XR W b)) : PE X (.BinOp ea op eb pos) (denN T XR W (.prim p [a, b])) :=
  peOf (pe_op ho ha hb) fun σ H Q h => opN2 h
theorem s_isN {j : Nat} {pos' : Pos} (ha : PE X ea (tE T XR W a)) : PE X (.Compare ea [.Is] [.Constant .none j pos'] pos) (den T XR W (.prim .isNone [a])) := by
  refine peOf (pe_cmpR o_isN ha pe_non (nomark _)) fun σ H Q h => ?_
  refine tE_mono (op1 h) fun x H1 ⟨d, h1, r, hr, k⟩ => ⟨rfl, d, h1, r, hr, fun v H' sm n => k v H' sm ?_⟩
  simp only [P.ap] at hr; cases hr; exact n
theorem s_notN {j : Nat} {pos' : Pos} (ha : PE X ea (tE T XR W a)) : PE X (.Compare ea [.IsNot] [.Constant .none j pos'] pos) (den T XR W (.prim .notNone [a])) := by
  refine peOf (pe_cmpR o_notN ha pe_non (nomark _)) fun σ H Q h => ?_
  refine tE_mono (op1 h) fun x H1 ⟨d, h1, r, hr, k⟩ => ⟨rfl, d, h1, r, hr, fun v H' sm n => k v H' sm ?_⟩
  simp only [P.ap] at hr; cases hr; exact n
/-- a value that is a bool -/
theorem bl_of {H : Hp} {d : D} {k : Bool} (h : Rep H d (.bl k)) : d = .bl k := by
  cases d <;> simp only [Rep] at h
  · cases h
  · cases h; rfl
  · cases h
  · exact absurd h.1 (by intro z; cases z)
  · obtain ⟨_, _, z, _⟩ := h; cases z
  · obtain ⟨_, _, _, z, _⟩ := h; cases z
  · obtain ⟨_, _, _, z, _⟩ := h; cases z
theorem tT {p : P} {es : List E} {σ : L2.St} {H : Hp} {Q : Bool → Hp → Prop} (hp : ∀ ds r, p.ap ds = some r → ∃ k, r = .bl k) (h : denT T XR W (.prim p es) σ H Q) : den T XR W (.prim p es) σ H fun v H' => ∃ k, v = .bl k ∧ Q k H' := by
  obtain ⟨F, st, I, h⟩ := h
  refine ⟨F, st, I, ?_⟩
  simp only [ev] at h ⊢
  cases q : evs T es st with
  | bad => rw [q] at h; exact h
  | exc c fs s1 => rw [q] at h; exact h
  | ok ds s1 =>
    rw [q] at h
    simp only [Res.bind, ofOpt] at h ⊢
    cases e : p.ap ds with
    | none => rw [e] at h; exact h
    | some r =>
      rw [e] at h
      obtain ⟨k, rfl⟩ := hp _ _ e
      intro H1 p1 I1 v rv
      obtain ⟨k', e', q'⟩ := h H1 p1 I1
      cases e'
      exact ⟨k, rv, q'⟩
theorem t_isN {j : Nat} {pos' : Pos} (ha : PE X ea (tE T XR W a)) : PT X (.Compare ea [.Is] [.Constant .none j pos'] pos) (denT T XR W (.prim .isNone [a])) := by
  refine ptOf (pt_cmpR o_isN ha pe_non (nomark _)) fun σ H Q h => ?_
  have h := tT (p := .isNone) (fun ds r e => by unfold P.ap at e; split at e <;> first | (cases e; exact ⟨_, rfl⟩) | contradiction) h
  refine tE_mono (op1 h) fun x H1 ⟨d, h1, r, hr, k⟩ => ⟨rfl, d, h1, r, hr, fun v H' sm n => k v H' sm ?_⟩
  simp only [P.ap] at hr; cases hr; exact n
theorem t_notN {j : Nat} {pos' : Pos} (ha : PE X ea (tE T XR W a)) : PT X (.Compare ea [.IsNot] [.Constant .none j pos'] pos) (denT T XR W (.prim .notNone [a])) := by
  refine ptOf (pt_cmpR o_notN ha pe_non (nomark _)) fun σ H Q h => ?_
  have h := tT (p := .notNone) (fun ds r e => by unfold P.ap at e; split at e <;> first | (cases e; exact ⟨_, rfl⟩) | contradiction) h
  refine tE_mono (op1 h) fun x H1 ⟨d, h1, r, hr, k⟩ => ⟨rfl, d, h1, r, hr, fun v H' sm n => k v H' sm ?_⟩
  simp only [P.ap] at hr; cases hr; exact n
end
end Rf

set_option Elab.async false
set_option linter.all false
set_option maxRecDepth 100000
set_option maxHeartbeats 4000000
namespace Rf
open PySem PySem.Spec PyProof.Rows L2

section
variable {X : Cx}
theorem RdL.three {H : Hp} {d e f : D} {xs : List V} (h : RdL H [d, e, f] xs) : ∃ x y z, xs = [x, y, z] ∧ Rd H d x ∧ Rd H e y ∧ Rd H f z := by
  obtain ⟨v, r, rfl, h1, h2⟩ := h
  obtain ⟨y, z, rfl, h3, h4⟩ := RdL.two h2
  exact ⟨v, y, z, rfl, h1, h3, h4⟩
theorem str_eta (x : Str) : (⟨x.cps.toList.toArray⟩ : Str) = x := by cases x; simp
theorem c_repr (hu : X.A.units + 100 < cLine) (hg : X.A.guards = some []) : CallR X (.builtin "repr") (rc New .repr) := by
  intro pins s σ H xs us Q I r ⟨ds, h1, d, hr, k⟩
  cases ds with
  | nil => simp only [P.ap] at hr; cases hr
  | cons a as =>
    cases as with
    | cons b bs => simp only [P.ap] at hr; cases hr
    | nil =>
      obtain ⟨x, rfl, h⟩ := h1.one
      simp only [P.ap, reprD] at hr
      split at hr
      rotate_left
      · cases hr
      rename_i hc
      simp only [Bool.and_eq_true, decide_eq_true_eq] at hc
      obtain ⟨⟨⟨c1, c2⟩, c3⟩, c4⟩ := hc
      cases hr
      have zb := sz_big
      have dp := rd_dp (K := X.K) h c1
      obtain ⟨u, rfl, ru⟩ := vals1 r
      obtain ⟨as, rd⟩ := Dp.reads I _ x u dp ru
      have fin : Q (.str (toP a).shown) H := k _ H (Same.refl H) ⟨by rw [str_eta], by rw [Array.length_toList]; show (toP a).shown.length ≤ _; omega⟩
      have ok : ∀ {t : Tok} {s' : Shared}, Inv X pins σ H s' → EP X pins σ Q (.str (toP a).shown t) s' := fun I' => ⟨.str _, H, I', ⟨_, rfl⟩, fin⟩
      cases a with
      | non =>
        obtain rfl : x = .non := h
        obtain rfl : u = .none := ru
        exact PySem.P.repr_of_none (ok (I.tok _))
      | bl b =>
        obtain rfl : x = .bl b := h
        obtain rfl : u = .bool b := ru
        have ok2 : ∀ {t : Tok} {s' : Shared}, Inv X pins σ H s' → EP X pins σ Q (.str (if b then "True" else "False") t) s' := ok
        exact PySem.P.repr_of_bool (ok2 (I.tok _))
      | int i =>
        obtain rfl : x = .int i := h
        obtain ⟨t, rfl⟩ := ru
        exact PySem.P.repr_of_int (by simpa [toP, PyData.showable] using c2) (ok (I.tok _))
      | str z =>
        obtain ⟨rfl, _⟩ := h
        obtain ⟨t, rfl⟩ := ru
        exact PySem.P.repr_of_str (ok (I.tok _)) (by show (reprText _).length ≤ _; have : (reprText (⟨z.toArray⟩ : Str)).length ≤ big := c4; omega)
      | tup z =>
        obtain ⟨b, vs, rfl, _⟩ := h
        obtain rfl : u = .ref b := ru
        exact PySem.repr_of_reads' rd c2 (PyData.noDict_hsm (PyData.hasDict_of_canLay _ c1)) hg (by omega) (fun _ _ e => e) (fun h' t tk e => ok (I.kept (t' := tk) e)) (by omega)
      | lst z =>
        obtain ⟨b, vs, rfl, _⟩ := h
        obtain rfl : u = .ref b := ru
        exact PySem.repr_of_reads' rd c2 (PyData.noDict_hsm (PyData.hasDict_of_canLay _ c1)) hg (by omega) (fun _ _ e => e) (fun h' t tk e => ok (I.kept (t' := tk) e)) (by omega)
      | dct ks vs => simp [toP, PyData.canLay0] at c1
theorem c_str : CallR X (.type "str") (rc New .str) := by
  intro pins s σ H xs us Q I r ⟨ds, h1, d, hr, k⟩
  cases ds with
  | nil => simp only [P.ap] at hr; cases hr
  | cons a as =>
    cases as with
    | cons b bs => cases a <;> simp only [P.ap] at hr <;> cases hr
    | nil =>
      obtain ⟨x, rfl, h⟩ := h1.one
      obtain ⟨u, rfl, ru⟩ := vals1 r
      have zb := sz_big
      have hb : (big : Nat) = 16777216 := rfl
      cases a <;> simp only [P.ap] at hr <;> try (cases hr; done)
      · rename_i b
        cases hr
        obtain rfl : x = .bl b := h
        obtain rfl : u = .bool b := ru
        refine PySem.P.str_of_bool ⟨.str _, H, I.tok _, ⟨_, rfl⟩, ?_⟩
        exact k _ H (Same.refl H) (by cases b <;> exact ⟨rfl, by rw [sz_big]; decide⟩)
      · rename_i i
        split at hr
        · rename_i hz
          cases hr
          obtain rfl : x = .int i := h
          obtain ⟨t, rfl⟩ := ru
          refine PySem.P.str_of_int hz ⟨.str _, H, I.tok _, ⟨_, rfl⟩, k _ H (Same.refl H) ⟨(congrArg V.str (str_eta _)).symm, ?_⟩⟩
          rw [Array.length_toList]
          exact PySem.int_text_fits hz
        · cases hr
      · rename_i z
        cases hr
        obtain ⟨rfl, hz⟩ := h
        obtain ⟨t, rfl⟩ := ru
        exact PySem.P.str_of_str ⟨.str ⟨z.toArray⟩, H, I, ⟨t, rfl⟩, k _ H (Same.refl H) ⟨rfl, hz⟩⟩
theorem c_abs : CallR X (.builtin "abs") (rc New .abs) := by
  intro pins s σ H xs us Q I r ⟨ds, h1, d, hr, k⟩
  cases ds with
  | nil => simp only [P.ap] at hr; cases hr
  | cons a as =>
    cases as with
    | cons b bs => cases a <;> simp only [P.ap] at hr <;> cases hr
    | nil =>
      obtain ⟨x, rfl, h⟩ := h1.one
      cases a <;> simp only [P.ap] at hr <;> try (cases hr; done)
      cases hr
      exact call_abs pins s σ H _ us Q I r ⟨_, congrArg (fun v => [v]) h, k _ H (Same.refl H) rfl⟩
theorem nuMin2_int (i j : Int) : nuMin2 (.int i) (.int j) = some (.int (min2 i j)) := by
  unfold nuMin2 min2
  show (some (decide (j < i))).map _ = _
  by_cases h : j < i <;> simp [h]
theorem nuMax2_int (i j : Int) : nuMax2 (.int i) (.int j) = some (.int (max2 i j)) := by
  unfold nuMax2 max2
  show (some (decide (i < j))).map _ = _
  by_cases h : i < j <;> simp [h]
theorem c_min (hc : X.calm = true) : CallR X (.builtin "min") (rc New .min) := by
  intro pins s σ H xs us Q I r ⟨ds, h1, d, hr, k⟩
  rcases ds with _ | ⟨a, _ | ⟨b, _ | ⟨c, _ | ⟨e, es⟩⟩⟩⟩
  · simp only [P.ap] at hr; cases hr
  · cases a <;> simp only [P.ap] at hr <;> cases hr
  · cases a <;> try (simp only [P.ap] at hr; cases hr; done)
    cases b <;> simp only [P.ap] at hr <;> try (cases hr; done)
    cases hr
    obtain ⟨x, y, rfl, h2, h3⟩ := h1.two
    cases h2; cases h3
    exact call_min2 hc pins s σ H _ us Q I r ⟨_, _, rfl, k _ H (Same.refl H) rfl⟩
  · cases a <;> try (simp only [P.ap] at hr; cases hr; done)
    cases b <;> try (simp only [P.ap] at hr; cases hr; done)
    cases c <;> simp only [P.ap] at hr <;> try (cases hr; done)
    cases hr
    obtain ⟨x, y, z, rfl, h2, h3, h4⟩ := h1.three
    cases h2; cases h3; cases h4
    exact call_min3Nu hc pins s σ H _ us Q I r ⟨_, _, _, _, rfl, by unfold nuMin3; rw [nuMin2_int]; exact nuMin2_int _ _, k _ H (Same.refl H) rfl⟩
  · simp only [P.ap] at hr; cases hr
theorem c_max (hc : X.calm = true) : CallR X (.builtin "max") (rc New .max) := by
  intro pins s σ H xs us Q I r ⟨ds, h1, d, hr, k⟩
  rcases ds with _ | ⟨a, _ | ⟨b, _ | ⟨c, _ | ⟨e, es⟩⟩⟩⟩
  · simp only [P.ap] at hr; cases hr
  · cases a <;> simp only [P.ap] at hr <;> cases hr
  · cases a <;> try (simp only [P.ap] at hr; cases hr; done)
    cases b <;> simp only [P.ap] at hr <;> try (cases hr; done)
    cases hr
    obtain ⟨x, y, rfl, h2, h3⟩ := h1.two
    cases h2; cases h3
    exact call_max2 hc pins s σ H _ us Q I r ⟨_, _, rfl, k _ H (Same.refl H) rfl⟩
  · cases a <;> try (simp only [P.ap] at hr; cases hr; done)
    cases b <;> try (simp only [P.ap] at hr; cases hr; done)
    cases c <;> simp only [P.ap] at hr <;> try (cases hr; done)
    cases hr
    obtain ⟨x, y, z, rfl, h2, h3, h4⟩ := h1.three
    cases h2; cases h3; cases h4
    exact call_max3Nu hc pins s σ H _ us Q I r ⟨_, _, _, _, rfl, by unfold nuMax3; rw [nuMax2_int]; exact nuMax2_int _ _, k _ H (Same.refl H) rfl⟩
  · simp only [P.ap] at hr; cases hr
end
end Rf

set_option Elab.async false
set_option linter.all false
set_option maxRecDepth 100000
set_option maxHeartbeats 4000000
namespace Rf
open PySem PySem.Spec PyProof.Rows L2 PySem.W

section
variable {X : Cx}
theorem alike_of {xs : List D} (h : alikeL xs = true) : AllAlike (xs.map toP) := by
  unfold alikeL at h
  simp only [List.all_eq_true] at h
  intro d hd d' hd'
  obtain ⟨a, ha, rfl⟩ := List.mem_map.mp hd
  obtain ⟨b, hb, rfl⟩ := List.mem_map.mp hd'
  exact h a ha b hb
theorem sortable_of {xs : List D} (h : (xs.all isTupC || xs.all notTupNon) = true) : Sortable (xs.map toP) := by
  rw [Bool.or_eq_true] at h
  rcases h with h | h
  · left
    intro d hd
    obtain ⟨a, ha, rfl⟩ := List.mem_map.mp hd
    have := List.all_eq_true.mp h a ha
    unfold isTupC at this
    split at this
    · rename_i y ys
      exact ⟨toP y, toPL ys, by simp only [toP, toPL]⟩
    · cases this
  · right
    intro d hd
    obtain ⟨a, ha, rfl⟩ := List.mem_map.mp hd
    have := List.all_eq_true.mp h a ha
    cases a <;> simp only [notTupNon] at this <;> simp [toP] <;> cases this
/-- data, its value in the heap, and the object -/
theorem each_of {pins : List (Addr × Obj)} {σ : L2.St} {H : Hp} {s : Shared} (I : Inv X pins σ H s) : ∀ {xs : List D} {vs : List V} {us : List Value}, RepL H xs vs → Vals vs us → (∀ a ∈ xs, (toP a).canLay0 = true) →
    EachIs (fun u (p : D × V) => RelV p.2 u) us (xs.zip vs) ∧ EachIs (fun u (p : D × V) => ∃ as, Reads s.heap u (toP p.1) as) us (xs.zip vs)
  | [], vs, us, r, rv, _ => by
    simp only [RepL] at r
    subst r
    cases rv
    exact ⟨.nil, .nil⟩
  | a :: xs, vs, us, r, rv, c => by
    simp only [RepL] at r
    obtain ⟨v, r', rfl, h1, h2⟩ := r
    cases rv with
    | cons r1 r2 =>
      obtain ⟨i1, i2⟩ := each_of I h2 r2 fun b hb => c b (List.mem_cons_of_mem _ hb)
      have dp := rd_dp (K := X.K) (Rd.of h1) (c a (by simp))
      exact ⟨.cons r1 i1, .cons (Dp.reads I _ v _ dp r1) i2⟩
theorem each_vals : ∀ {ps : List (D × V)} {us : List Value}, EachIs (fun u (p : D × V) => RelV p.2 u) us ps → Vals (ps.map (·.2)) us
  | [], _, h => by cases h; exact .nil
  | p :: ps, _, h => by cases h with | cons h1 h2 => exact .cons h1 (each_vals h2)
theorem repL_all {H : Hp} : ∀ {ps : List (D × V)}, (∀ p ∈ ps, Rep H p.1 p.2) → RepL H (ps.map (·.1)) (ps.map (·.2))
  | [], _ => by simp [RepL]
  | p :: ps, h => by
    simp only [List.map_cons, RepL]
    exact ⟨_, _, rfl, h p (by simp), repL_all fun q hq => h q (List.mem_cons_of_mem _ hq)⟩
theorem zip_rep {H : Hp} : ∀ {xs : List D} {vs : List V}, RepL H xs vs → ∀ p ∈ xs.zip vs, Rep H p.1 p.2
  | [], _, _, p, h => by simp at h
  | a :: xs, vs, r, p, h => by
    simp only [RepL] at r
    obtain ⟨v, r', rfl, h1, h2⟩ := r
    rw [List.zip_cons_cons] at h
    rcases List.mem_cons.mp h with rfl | h
    · exact h1
    · exact zip_rep h2 p h
theorem c_sorted (hu : X.A.units + 100 < cLine) : CallR X (.builtin "sorted") (rc New .sorted) := by
  intro pins s σ H xs us Q I r ⟨ds, h1, d, hr, k⟩
  cases ds with
  | nil => simp only [P.ap] at hr; cases hr
  | cons a as =>
    cases as with
    | cons b bs => cases a <;> simp only [P.ap] at hr <;> cases hr
    | nil =>
      obtain ⟨x, rfl, h⟩ := h1.one
      cases a <;> simp only [P.ap] at hr <;> try (cases hr; done)
      rename_i z
      obtain ⟨b, vs, rfl, g1, g2⟩ := h
      unfold sortD at hr
      split at hr
      rotate_left
      · cases hr
      rename_i hc
      simp only [Bool.and_eq_true, decide_eq_true_eq, List.all_eq_true] at hc
      obtain ⟨⟨⟨c1, c2⟩, c3⟩, c4⟩ := hc
      cases hr
      obtain ⟨u, rfl, ru⟩ := vals1 r
      obtain rfl : u = .ref b := ru
      obtain ⟨its, rv, pl, hz⟩ := I.list (X := X) (show SqL X.K H b vs from .inl g1)
      obtain ⟨e1, e2⟩ := each_of I g2 rv fun a ha => (c4 a ha).1
      have lz : (z.zip vs).length = z.length := by rw [List.length_zip, g2.len]; omega
      have zb := sz_big
      have mf : ((z.zip vs).map fun p => toP p.1) = z.map toP := by
        rw [show (fun p : D × V => toP p.1) = toP ∘ Prod.fst from rfl, ← List.map_map, List.map_fst_zip (by have := g2.len; omega)]
      refine sorted_data (bs := z.zip vs) (enc := fun p => toP p.1) (R := fun u p => RelV p.2 u) pl.isList e1 e2 (by rw [mf]; exact alike_of c1) (by rw [mf]; exact sortable_of c2) (by rw [lz]; omega) (fun p hp => ?_) fun out ol eo => ?_
      · have := c4 p.1 (List.of_mem_zip (a := p.1) (b := p.2) hp).1
        have := this.2
        omega
      · have hv := each_vals eo
        have hm : ((z.zip vs).mergeSort (dataLe false fun p => toP p.1)).map (·.1) = z.mergeSort (dataLe false toP) := by
          rw [List.map_mergeSort (r := dataLe false fun p : D × V => toP p.1) (s := dataLe false toP) (f := fun p : D × V => p.1) (fun _ _ _ _ => rfl), List.map_fst_zip (by have := g2.len; omega)]
        have hp : H (s.heap.objs.size + 1) = none := I.hok.fresh (by omega)
        obtain ⟨ep, he⟩ := PyProof.Rows.sortedAll_at (h := s.heap) (vs := its) (out := out.toArray)
        have sm := same_upd (o := .lst (((z.zip vs).mergeSort (dataLe false fun p => toP p.1)).map (·.2))) hp
        have lo : (((z.zip vs).mergeSort (dataLe false fun p => toP p.1)).map (·.2)).length ≤ sizeLine := by
          rw [List.length_map, List.length_mergeSort, lz]; omega
        refine ⟨.ref _, _, I.laid (t' := s.toks) (fun _ _ q => PyProof.Rows.sortedAll_old q) (Nat.le_succ _) (o := .lst _) ⟨lo, out, ep, hv, ?_⟩, rfl, k _ _ sm ⟨_, _, rfl, hp, upd_same, ?_⟩⟩
        · exact he
        · rw [← hm]
          refine RepL.pers (Pers.of_same sm) _ _ (repL_all fun p hp => zip_rep g2 p ?_)
          exact List.mem_mergeSort.mp hp

/-- the pairs of a list of pairs -/
theorem pairs_run {H : Hp} : ∀ {xs : List D} {g : Gd} {vs : List V}, pairsD xs = some g → RepL H xs vs → ∃ (ps : List Addr) (kvs : List (Key × V)), vs = ps.map V.ref ∧ Paired (fun p (kv : Key × V) => SqT X.K H p [kV kv.1, kv.2]) ps kvs ∧ kvs.map (·.1) = g.map (·.1) ∧ RepL H (g.map (·.2)) (kvs.map (·.2))
  | [], g, vs, e, r => by
    simp only [pairsD] at e
    cases e
    simp only [RepL] at r
    subst r
    exact ⟨[], [], rfl, .nil, rfl, by simp [RepL]⟩
  | x :: xs, g, vs, e, r => by
    simp only [RepL] at r
    obtain ⟨v, r', rfl, h1, h2⟩ := r
    cases x <;> try (simp only [pairsD] at e; cases e; done)
    rename_i ys
    rcases ys with _ | ⟨a, _ | ⟨b, _ | ⟨c, ys⟩⟩⟩ <;> try (simp only [pairsD] at e; cases e; done)
    simp only [pairsD] at e
    cases ek : keyD a with
    | none => rw [ek] at e; cases e
    | some k =>
      cases eg : pairsD xs with
      | none => rw [ek, eg] at e; cases e
      | some g2 =>
        rw [ek, eg] at e
        cases e
        obtain ⟨ps, kvs, rfl, i1, i2, i3⟩ := pairs_run eg h2
        simp only [Rep, RepL] at h1
        obtain ⟨p, ws, rfl, w1, va, r1, rfl, w2, vb, r2, rfl, w3, rfl⟩ := h1
        obtain rfl := key_rd ek (Rd.of w2)
        refine ⟨p :: ps, (k, vb) :: kvs, rfl, .cons (SqT.of w1) i1, by simp [i2], ?_⟩
        simp only [List.map_cons, RepL]
        exact ⟨_, _, rfl, w3, i3⟩
theorem setK_rep {H : Hp} {k : Key} {d : D} {v : V} (rv : Rep H d v) : ∀ {kd : Gd} {kvs : List (Key × V)}, kvs.map (·.1) = kd.map (·.1) → RepL H (kd.map (·.2)) (kvs.map (·.2)) →
    (putK kvs k v).map (·.1) = (setK kd k d).map (·.1) ∧ RepL H ((setK kd k d).map (·.2)) ((putK kvs k v).map (·.2)) := by
  have any : ∀ {kd : Gd} {kvs : List (Key × V)}, kvs.map (·.1) = kd.map (·.1) → (kvs.any fun kv => decide (kv.1 = k)) = (kd.any fun kv => decide (kv.1 = k)) := by
    intro kd
    induction kd with
    | nil => intro kvs e; cases kvs with
      | nil => rfl
      | cons _ _ => simp at e
    | cons p r ih => intro kvs e; cases kvs with
      | nil => simp at e
      | cons q t =>
        simp only [List.map_cons, List.cons.injEq] at e
        rw [List.any_cons, List.any_cons, e.1, ih e.2]
  have mp : ∀ {kd : Gd} {kvs : List (Key × V)}, kvs.map (·.1) = kd.map (·.1) → RepL H (kd.map (·.2)) (kvs.map (·.2)) →
      (kvs.map fun kv => if kv.1 = k then (kv.1, v) else kv).map (·.1) = (kd.map fun kv => if kv.1 = k then (kv.1, d) else kv).map (·.1) ∧
      RepL H ((kd.map fun kv => if kv.1 = k then (kv.1, d) else kv).map (·.2)) ((kvs.map fun kv => if kv.1 = k then (kv.1, v) else kv).map (·.2)) := by
    intro kd
    induction kd with
    | nil => intro kvs e r; cases kvs with
      | nil => exact ⟨rfl, r⟩
      | cons _ _ => simp at e
    | cons p t ih => intro kvs e r; cases kvs with
      | nil => simp at e
      | cons q u =>
        simp only [List.map_cons, List.cons.injEq] at e
        simp only [List.map_cons, RepL] at r
        obtain ⟨w, r', e2, h1, h2⟩ := r
        obtain ⟨e21, e22⟩ := List.cons.inj e2
        subst e22
        obtain ⟨i1, i2⟩ := ih e.2 h2
        by_cases z : q.1 = k
        · have z2 : p.1 = k := e.1 ▸ z
          simp only [List.map_cons, if_pos z, if_pos z2, RepL]
          exact ⟨by rw [i1, e.1], _, _, rfl, rv, i2⟩
        · have z2 : ¬ p.1 = k := e.1 ▸ z
          simp only [List.map_cons, if_neg z, if_neg z2, RepL]
          exact ⟨by rw [i1, e.1], _, _, rfl, e21 ▸ h1, i2⟩
  intro kd kvs e r
  unfold putK setK
  rw [any e]
  by_cases z : (kd.any fun kv => decide (kv.1 = k)) = true
  · rw [if_pos z, if_pos z]
    exact mp e r
  · rw [if_neg z, if_neg z]
    rw [List.map_append, List.map_append, List.map_append, List.map_append, e]
    exact ⟨rfl, RepL.append r (by simp only [List.map_cons, List.map_nil, RepL]; exact ⟨v, [], rfl, rv, rfl⟩)⟩
theorem merge_run {H : Hp} : ∀ {more : Gd} {mv : List (Key × V)} {kd : Gd} {kvs : List (Key × V)}, mv.map (·.1) = more.map (·.1) → RepL H (more.map (·.2)) (mv.map (·.2)) → kvs.map (·.1) = kd.map (·.1) → RepL H (kd.map (·.2)) (kvs.map (·.2)) →
    (mergeK kvs mv).map (·.1) = (mergeD kd more).map (·.1) ∧ RepL H ((mergeD kd more).map (·.2)) ((mergeK kvs mv).map (·.2))
  | [], [], _, _, _, _, h1, h2 => ⟨h1, h2⟩
  | [], _ :: _, _, _, e, _, _, _ => by simp at e
  | _ :: _, [], _, _, e, _, _, _ => by simp at e
  | q :: more, w :: mv, kd, kvs, e, r, h1, h2 => by
    simp only [List.map_cons, List.cons.injEq] at e
    simp only [List.map_cons, RepL] at r
    obtain ⟨v, r', e2, g1, g2⟩ := r
    obtain ⟨e3, e4⟩ := List.cons.inj e2
    subst e4
    have g1 : Rep H q.2 w.2 := e3 ▸ g1
    obtain ⟨s1, s2⟩ := setK_rep (k := w.1) g1 h1 h2
    have := merge_run (kd := setK kd w.1 q.2) (kvs := putK kvs w.1 w.2) e.2 g2 s1 s2
    rw [e.1] at this
    show (mergeK (putK kvs w.1 w.2) mv).map (·.1) = (mergeD (setK kd q.1 q.2) more).map (·.1) ∧ RepL H ((mergeD (setK kd q.1 q.2) more).map (·.2)) ((mergeK (putK kvs w.1 w.2) mv).map (·.2))
    rw [e.1]
    exact this
theorem c_dict (hc : X.calm = true) : CallR X (.type "dict") (rc New .dict) := by
  intro pins s σ H xs us Q I r ⟨ds, h1, d, hr, k⟩
  cases ds with
  | nil => simp only [P.ap] at hr; cases hr
  | cons a as =>
    cases as with
    | cons b bs => cases a <;> simp only [P.ap] at hr <;> cases hr
    | nil =>
      obtain ⟨x, rfl, h⟩ := h1.one
      cases a <;> simp only [P.ap] at hr <;> try (cases hr; done)
      rename_i z
      split at hr
      rotate_left
      · cases hr
      obtain ⟨b, vs, rfl, g1, g2⟩ := h
      cases e : pairsD z with
      | none => rw [e] at hr; cases hr
      | some g =>
        rw [e] at hr
        cases hr
        obtain ⟨ps, kvs, rfl, i1, i2, i3⟩ := pairs_run (X := X) e g2
        obtain ⟨m1, m2⟩ := merge_run i2 i3 (kd := []) (kvs := []) rfl (by simp [RepL])
        refine call_dictP hc pins s σ H _ us Q I r ⟨b, ps, kvs, rfl, .inl g1, i1, fun p hp => ?_⟩
        have sm := same_upd (o := .dK (mergeK [] kvs)) hp
        exact k _ _ sm ⟨p, _, rfl, hp, upd_same, m1, RepL.pers (Pers.of_same sm) _ _ m2⟩
/-! ### methods of data -/
theorem RepL.one {H : Hp} {d : D} {xs : List V} (h : RepL H [d] xs) : ∃ x, xs = [x] ∧ Rep H d x := by
  simp only [RepL] at h
  obtain ⟨v, r, rfl, h1, rfl⟩ := h
  exact ⟨v, rfl, h1⟩
theorem RepL.two {H : Hp} {d e : D} {xs : List V} (h : RepL H [d, e] xs) : ∃ x y, xs = [x, y] ∧ Rep H d x ∧ Rep H e y := by
  simp only [RepL] at h
  obtain ⟨v, r, rfl, h1, w, r', rfl, h2, rfl⟩ := h
  exact ⟨v, w, rfl, h1, h2⟩
/-- a method by values: the receiver and the arguments as data -/
def rm (N : Hp → Hp → D → V → Prop) (p : P) : V → List V → Hp → VK → Prop := fun x xs H Q => ∃ d ds, Rd H d x ∧ RepL H ds xs ∧ p.fits d = true ∧ Got N H (p.ap (d :: ds)) Q
theorem q_get (hu : X.A.units + 1 < cLine) : MtR X "dict.get" (rm Old .get) := by
  intro pins s σ H x xs v us Q I rx rxs ⟨d, ds, h1, h2, hf, r, hr, k⟩
  cases d <;> simp only [P.fits] at hf <;> try (cases hf; done)
  rename_i ks vs
  obtain ⟨b, kvs, rfl, g1, g2, g3⟩ := h1
  cases rx
  rcases ds with _ | ⟨a, _ | ⟨c, _ | ⟨e, es⟩⟩⟩
  · simp only [P.ap] at hr; cases hr
  · obtain ⟨y, rfl, hy⟩ := h2.one
    simp only [P.ap] at hr
    cases ek : keyD a with
    | none => rw [ek] at hr; cases hr
    | some kk =>
      rw [ek] at hr
      cases hr
      obtain rfl := key_rd ek (Rd.of hy)
      obtain ⟨u, rfl, ru⟩ := vals1 rxs
      obtain ⟨z1, z2⟩ := getK_zip (k := kk) g2 g3
      refine d_get1 (o := valV kvs kk) hu I (.inl ⟨kvs, kk, g1, rfl, rfl⟩) ru fun w' s' I' rw' => ⟨_, H, I', rw', k _ H (Same.refl H) ?_⟩
      show Rep H ((getK (ks.zip vs) kk).getD .non) ((valV kvs kk).getD .non)
      cases q : getK (ks.zip vs) kk with
      | none => rw [z2 q]; exact rfl
      | some d =>
        obtain ⟨v, q1, q2⟩ := z1 d q
        rw [q1]; exact q2
  · obtain ⟨y, w, rfl, hy, hw⟩ := h2.two
    simp only [P.ap] at hr
    cases ek : keyD a with
    | none => rw [ek] at hr; cases hr
    | some kk =>
      rw [ek] at hr
      cases hr
      obtain rfl := key_rd ek (Rd.of hy)
      obtain ⟨u, u2, rfl, ru, ru2⟩ := vals2 rxs
      obtain ⟨z1, z2⟩ := getK_zip (k := kk) g2 g3
      refine d_get2 (o := valV kvs kk) hu I (.inl ⟨kvs, kk, g1, rfl, rfl⟩) ru ru2 fun w' s' I' rw' => ⟨_, H, I', rw', k _ H (Same.refl H) ?_⟩
      show Rep H ((getK (ks.zip vs) kk).getD c) ((valV kvs kk).getD w)
      cases q : getK (ks.zip vs) kk with
      | none => rw [z2 q]; exact hw
      | some d =>
        obtain ⟨v, q1, q2⟩ := z1 d q
        rw [q1]; exact q2
  · simp only [P.ap] at hr; cases hr
theorem q_upper : MtR X "str.upper" (rm Old .upper) := by
  intro pins s σ H x xs v us Q I rx rxs ⟨d, ds, h1, h2, hf, r, hr, k⟩
  cases d <;> simp only [P.fits] at hf <;> try (cases hf; done)
  rename_i z
  obtain ⟨rfl, hz⟩ := h1
  cases ds with
  | cons a as => simp only [P.ap] at hr; cases hr
  | nil =>
    simp only [P.ap] at hr
    split at hr
    · rename_i hc
      cases hr
      obtain rfl : xs = [] := by simpa [RepL] using h2
      refine mt_upper pins s σ H _ _ v us Q I rx rxs ⟨_, rfl, rfl, by rw [str_len]; exact hc, k _ H (Same.refl H) ⟨by rw [str_eta], ?_⟩⟩
      rw [Array.length_toList]
      have h3 : (Txt.upper (⟨z.toArray⟩ : Str)).cps.size ≤ 3 * (⟨z.toArray⟩ : Str).length := PyProof.Rows.len_upper (⟨z.toArray⟩ : Str)
      rw [str_len] at h3
      have zb := sz_big
      have hb : (big : Nat) = 16777216 := rfl
      omega
    · cases hr
theorem indexD_spec {d : PyData} : ∀ {ds : List PyData} {j k : Nat}, indexD d ds j = some k → ∃ m z, k = j + m ∧ ds[m]? = some z ∧ PyData.eqv z d = true ∧ ∀ (i : Nat) (z' : PyData), i < m → ds[i]? = some z' → PyData.eqv z' d = false
  | [], j, k, h => by simp [indexD] at h
  | z :: r, j, k, h => by
    unfold indexD at h
    by_cases c : PyData.eqv z d = true
    · rw [if_pos c] at h
      cases h
      exact ⟨0, z, rfl, rfl, c, fun i z' hi => by omega⟩
    · rw [if_neg c] at h
      obtain ⟨m, z2, e, h1, h2, h3⟩ := indexD_spec h
      refine ⟨m + 1, z2, by omega, by simpa using h1, h2, fun i z' hi e' => ?_⟩
      cases i with
      | zero => simp at e'; subst e'; simpa using c
      | succ i => exact h3 i z' (by omega) (by simpa using e')
theorem q_index (hu : X.A.units + 65 < cLine) : MtR X "list.index" (rm Old .index) := by
  intro pins s σ H x xs v us Q I rx rxs ⟨d, ds, h1, h2, hf, r, hr, k⟩
  cases d <;> simp only [P.fits] at hf <;> try (cases hf; done)
  rename_i z
  rcases ds with _ | ⟨a, _ | ⟨c, es⟩⟩
  · simp only [P.ap] at hr; cases hr
  · obtain ⟨y, rfl, hy⟩ := h2.one
    simp only [P.ap] at hr
    split at hr
    rotate_left
    · cases hr
    rename_i hc
    rw [Bool.and_eq_true] at hc
    cases q : indexD (toP a) (toPL z) 0 with
    | none => rw [q] at hr; cases hr
    | some j =>
      rw [q] at hr
      cases hr
      obtain ⟨m, w, e, g1, g2, g3⟩ := indexD_spec q
      obtain rfl : j = m := by omega
      have dl := rd_dp (K := X.K) h1 (SeqAt.canLay_of_shaped hc.1)
      have dy := rd_dp (K := X.K) (Rd.of hy) (SeqAt.canLay_of_shaped hc.2)
      obtain ⟨b, vs, rfl, _⟩ := h1
      simp only [toP] at dl hc
      exact mt_indexD hu pins s σ H _ _ v us Q I rx rxs ⟨b, y, toP a, toPL z, j, w, rfl, rfl, dl, dy, hc.1, hc.2, g1, g2, g3, k _ H (Same.refl H) rfl⟩
  · simp only [P.ap] at hr; cases hr
end
end Rf

set_option Elab.async false
set_option linter.all false
set_option maxRecDepth 100000
set_option maxHeartbeats 4000000
namespace Rf
open PySem PySem.Spec PyProof.Rows L2

/-! ### plain syntax -/
/-- an expression that stands for itself among arguments -/
def plainE : Expr → Bool
  | .Starred .. => false
  | .Set .. => false
  | .Slice .. => false
  | .NamedExpr .. => false
  | .Yield .. => false
  | _ => true
theorem star_cons {e : Expr} (h : plainE e = true) (es : List Expr) (env : Env) : starEach (e :: es) env = (false, eval e env) :: starEach es env := by
  cases e <;> first | rfl | (simp [plainE] at h)
theorem star_all {env : Env} : ∀ {es : List Expr}, es.all plainE = true → starEach es env = es.map fun e => (false, eval e env)
  | [], _ => rfl
  | e :: es, h => by
    rw [List.all_cons, Bool.and_eq_true] at h
    rw [star_cons h.1, star_all h.2]
    rfl
theorem star_none {env : Env} {pos : Pos} {es : List Expr} (h : es.all plainE = true) : (backTo pos (starEach es env)).any (·.1) = false := by
  rw [star_all h]
  simp [backTo]
theorem star_few {env : Env} {pos : Pos} {es : List Expr} (h : es.all plainE = true) (hl : es.length < 30) :
    ((backTo pos (starEach es env)).all (fun x => !x.1) && (backToKw pos (keywordEach [] env)).all (fun x => x.1.isSome) && decide (es.length + ([] : List Keyword).length + (if ([] : List Keyword).isEmpty then 0 else 1) < 30)) = true := by
  rw [star_all h]
  simp [backTo, backToKw, keywordEach]
  exact hl
theorem mark_plain {e : Expr} (h : plainE e = true) (op : CmpOp) : behindInMarks op e = false := by
  cases e <;> first | rfl | (simp [plainE] at h)
theorem ix_plain {e : Expr} (h : plainE e = true) : PlainIx e := by
  intro o i
  cases e <;> first | rfl | (simp [plainE] at h)
/-- no super() -/
def recvE : Expr → Bool
  | .Call (.Name id _) [] [] _ => id != ("super" : Str)
  | _ => true
theorem base_plain {o : Expr} (h : recvE o = true) (attr : Str) (env : Env) : attributeBase o attr env (eval o env) = eval o env := by
  unfold attributeBase
  split
  · rename_i id _ _
    simp only [recvE] at h
    rw [if_pos (by simp [h])]
  · rfl
theorem bl_bl : ∀ {p : P}, p.bl = true → ∀ ds r, p.ap ds = some r → ∃ k, r = .bl k := by
  intro p hp ds r e
  have mp : ∀ {o : Option Bool} {f : Bool → D}, (∀ k, ∃ k', f k = .bl k') → o.map f = some r → ∃ k, r = .bl k := by
    intro o f hf h
    cases o with
    | none => cases h
    | some k =>
      obtain ⟨k', q⟩ := hf k
      rw [Option.map_some, q] at h
      cases h
      exact ⟨k', rfl⟩
  rcases ds with _ | ⟨a, _ | ⟨b, _ | ⟨c, ds⟩⟩⟩
  · cases p <;> simp [P.bl] at hp <;> simp only [P.ap] at e <;> cases e
  · cases p <;> simp [P.bl] at hp <;> simp only [P.ap] at e <;> first | (cases e; exact ⟨_, rfl⟩) | cases e
  · cases p <;> simp [P.bl] at hp
    · exact mp (fun k => ⟨k, rfl⟩) (by simpa only [P.ap] using e)
    · exact mp (fun k => ⟨!k, rfl⟩) (by simpa only [P.ap] using e)
    all_goals first
      | exact mp (fun k => ⟨k, rfl⟩) (by simpa only [P.ap] using e)
      | exact mp (fun k => ⟨!k, rfl⟩) (by simpa only [P.ap] using e)
      | (cases a <;> cases b <;> simp only [P.ap] at e <;> first | (cases e; exact ⟨_, rfl⟩) | (cases e; done) | (split at e <;> first | (cases e; exact ⟨_, rfl⟩) | (cases e; done)))
  · cases p <;> simp [P.bl] at hp <;> simp only [P.ap] at e <;> cases e

/-! ### argument lists, calls of built-ins -/
section
variable {X : Cx} {T : Tbl} {XR : Hp → Nat → List D → Value → Option Addr → Prop} {W : WX} {a b c m : E} {ea eb ec e : Expr} {pos : Pos}
/-- the expressions of a list, one for one -/
inductive All2 (X : Cx) (T : Tbl) (XR : Hp → Nat → List D → Value → Option Addr → Prop) (W : WX) : List E → List Expr → Prop where
  | nil : All2 X T XR W [] []
  | cons {a : E} {e : Expr} {as : List E} {es : List Expr} : PE X e (tE T XR W a) → plainE e = true → All2 X T XR W as es → All2 X T XR W (a :: as) (e :: es)
theorem All2.plain : ∀ {as : List E} {es : List Expr}, All2 X T XR W as es → es.all plainE = true
  | _, _, .nil => rfl
  | _, _, .cons _ p r => by rw [List.all_cons, p, All2.plain r]; rfl
theorem All2.len : ∀ {as : List E} {es : List Expr}, All2 X T XR W as es → as.length = es.length
  | _, _, .nil => rfl
  | _, _, .cons _ _ r => by simp [All2.len r]
theorem All2.pa : ∀ {as : List E} {es : List Expr}, All2 X T XR W as es → PA X es (tL T XR W as)
  | _, _, .nil => pa_nil
  | _, _, .cons h p r => pa_cons h (All2.pa r) (star_cons p _ _)
theorem n_callB {p : P} {id : String} {x : Str} {pp : Pos} {es : List Expr} {as : List E} (hc : CallR X (.builtin id) (rc New p)) (hg : Gl X x) (hm : X.mg x = none) (hv : bootBuiltins x = some (.builtin id))
    (hn : x ≠ "__name__") (hdb : (x == ("__debug__" : Str)) = false) (h : All2 X T XR W (a :: as) (e :: es)) : PE X (.Call (.Name x pp) (e :: es) [] pos) (denN T XR W (.prim p (a :: as))) := by
  have hp := h.plain
  rw [List.all_cons, Bool.and_eq_true] at hp
  exact peOf (pe_callB hc hg hm hv h.pa hn hdb (star_cons hp.1 _ _) (star_none hp.2)) fun σ H Q w => opN w
theorem n_callTy {p : P} {id : String} {x : Str} {pp : Pos} {es : List Expr} {as : List E} (hc : CallR X (.type id) (rc New p)) (hg : Gl X x) (hm : X.mg x = none) (hv : bootBuiltins x = some (.type id))
    (hn : x ≠ "__name__") (hdb : (x == ("__debug__" : Str)) = false) (h : All2 X T XR W (a :: as) (e :: es)) : PE X (.Call (.Name x pp) (e :: es) [] pos) (denN T XR W (.prim p (a :: as))) := by
  have hp := h.plain
  rw [List.all_cons, Bool.and_eq_true] at hp
  exact peOf (pe_callTy hc hg hm hv h.pa hn hdb (star_cons hp.1 _ _) (star_none hp.2)) fun σ H Q w => opN w
theorem s_isa {t : Ty} {x y : Str} {p1 p2 : Pos} (hg : Gl X x) (hm : X.mg x = none) (hv : bootBuiltins x = some (.builtin "isinstance")) (hn : x ≠ "__name__") (hdb : (x == ("__debug__" : Str)) = false)
    (hg2 : Gl X y) (hm2 : X.mg y = none) (hv2 : bootBuiltins y = some (.type t.name)) (hn2 : y ≠ "__name__") (hdb2 : (y == ("__debug__" : Str)) = false)
    (ha : PE X ea (tE T XR W a)) (hp : plainE ea = true) : PE X (.Call (.Name x p1) [ea, .Name y p2] [] pos) (den T XR W (.prim (.isa t) [a])) := by
  have pb : PE X (.Name y p2) (tC (.ty t.name)) := pe_bltn hg2 hm2 hv2 rfl hn2 hdb2
  refine peOf (pe_callB (c_isa t) hg hm hv (pa_cons ha (pa_cons pb pa_nil) (star_cons hp _ _)) hn hdb (star_cons hp _ _) (star_none (by rfl))) fun σ H Q w => ?_
  refine tE_mono (op1 w) fun x H1 ⟨d, h1, r, hr, k⟩ => ⟨x, d, rfl, h1, r, hr, fun v H' sm n => k v H' sm ?_⟩
  simp only [P.ap] at hr; cases hr; exact n
/-! ### items, slices -/
theorem s_ix (hu : X.A.units + 1 < cLine) (ha : PE X ea (tE T XR W a)) (hb : PE X eb (tE T XR W b)) (hp : plainE eb = true) : PE X (.Subscript ea eb pos) (den T XR W (.prim .ix [a, b])) :=
  peOf (pe_ix (i_ix hu) ha hb (ix_plain hp)) fun σ H Q h => op2 h
/-- a part of a slice -/
def tP (T : Tbl) (XR : Hp → Nat → List D → Value → Option Addr → Prop) (W : WX) : List E → TO
  | [] => tNoPart
  | b :: _ => tPart (den T XR W b)
theorem part_go {F : Fx} {σ : L2.St} {H : Hp} {st : Sx} {lo : List E} {Q : Option Int → Hp → Prop} (I : SI F σ st H) (h : Post XR W F σ H (evp T lo st) fun o H' => Q o H') : tP T XR W lo σ H Q := by
  cases lo with
  | nil => simp only [evp] at h; exact h H (Pers.refl H) I
  | cons b bs =>
    simp only [evp] at h
    refine ⟨F, st, I, h.bind fun d s1 H1 _ p I1 q v rv => ?_⟩
    cases d <;> try (exact q.elim)
    rename_i i _
    exact ⟨i, rv, q H1 (Pers.refl _) I1⟩
/-- an argument, then the rest -/
theorem arg1 {F : Fx} {σ : L2.St} {H : Hp} {st : Sx} {α : Type} {f : Sx → Res α} {g : D → α → Option D} {Q : VK} {R : D → Hp → Prop} (I : SI F σ st H)
    (h : Post XR W F σ H (match a.isOwn with
      | some i => match st.r[i]? with
        | some (.own _) => (f st).bind fun o s1 => match s1.r[i]? with
          | some (.own xs) => ofOpt (g (.lst xs) o) s1
          | _ => .bad
        | _ => .bad
      | none => (ev T a st).bind fun d s0 => (f s0).bind fun o s1 => ofOpt (g d o) s1) R)
    (k : ∀ x H1 s1, Pers H H1 → SI F σ s1 H1 → Post XR W F σ H1 (f s1) (fun o H2 => ∃ d, Rd H2 d x ∧ ∃ r, g d o = some r ∧ ∃ s2, SI F σ s2 H2 ∧ ∀ H3, Pers H2 H3 → SI F σ s2 H3 → R r H3) → Q x H1) : tE T XR W a σ H Q := by
  unfold tE
  cases e : a.isOwn with
  | none =>
    rw [e] at h
    simp only at h ⊢
    refine ⟨F, st, I, h.bind fun d s0 H1 _ p I1 q v rv => k v H1 s0 p I1 (q.bind fun o s1 H2 _ p2 I2 q2 => ?_)⟩
    unfold ofOpt at q2
    split at q2
    · rename_i r er
      exact ⟨d, Rd.of (Rep.pers p2 d v rv), r, er, s1, I2, fun H3 p3 I3 => q2 H3 p3 I3⟩
    · exact q2.elim
  | some i =>
    rw [e] at h
    simp only at h ⊢
    split at h
    · rename_i xs ex
      obtain ⟨b, us, q1, q2, q3⟩ := I.own ex
      refine ⟨.ref b, q1, k _ H st (Pers.refl H) I (h.bind fun o s1 H2 _ p2 I2 q2 => ?_)⟩
      split at q2
      · rename_i ys ey
        obtain ⟨b', us', g1, g2, g3⟩ := I2.own ey
        rw [q1] at g1
        cases g1
        unfold ofOpt at q2
        split at q2
        · rename_i r er
          exact ⟨.lst ys, ⟨b, us', rfl, .inl g2, g3⟩, r, er, s1, I2, fun H3 p3 I3 => q2 H3 p3 I3⟩
        · exact q2.elim
      · exact q2.elim
    · exact h.elim
theorem Post.assoc {F : Fx} {σ : L2.St} {H : Hp} {α β γ : Type} {r : Res α} {f : α → Sx → Res β} {g : β → Sx → Res γ} {R : γ → Hp → Prop} (h : Post XR W F σ H (r.bind fun x s => (f x s).bind g) R) :
    Post XR W F σ H ((r.bind f).bind g) R := by
  cases r <;> exact h
theorem n_cut {lo hi : List E} {elo ehi : Option Expr} {p2 : Pos} (ha : PE X ea (tE T XR W a)) (hl : PO X elo (tP T XR W lo)) (hh : PO X ehi (tP T XR W hi)) : PE X (.Subscript ea (.Slice elo ehi none p2) pos) (denN T XR W (.cut a lo hi)) := by
  refine peOf (pe_slice sl_cut ha hl hh) fun σ H Q ⟨F, st, I, h⟩ => ?_
  simp only [ev] at h
  refine arg1 (f := fun st => (evp T lo st).bind fun l s1 => (evp T hi s1).bind fun h s2 => .ok (l, h) s2) (g := fun d o => cutD d o.1 o.2) (R := fun d H1 => ∀ v H', Same H1 H' → New H1 H' d v → Q v H') I ?_ fun x H1 s1 p I1 q => ?_
  · cases e : a.isOwn with
    | none =>
      rw [e] at h
      simp only at h ⊢
      cases e1 : ev T a st with
      | bad => rw [e1] at h; exact h
      | exc => rw [e1] at h; exact h
      | ok d s0 =>
        rw [e1] at h
        simp only [Res.bind] at h ⊢
        cases e2 : evp T lo s0 with
        | bad => rw [e2] at h; exact h
        | exc => rw [e2] at h; exact h
        | ok d s0 =>
          rw [e2] at h
          simp only at h ⊢
          cases e3 : evp T hi s0 with
          | bad => rw [e3] at h; exact h
          | exc => rw [e3] at h; exact h
          | ok d s0 =>
            rw [e3] at h
            exact h
    | some i =>
      rw [e] at h
      simp only at h ⊢
      cases ex : st.r[i]? with
      | none => rw [ex] at h; exact h.elim
      | some z =>
        rw [ex] at h
        cases z <;> try (exact h.elim)
        simp only [Res.bind] at h ⊢
        cases e2 : evp T lo st with
        | bad => rw [e2] at h; exact h
        | exc => rw [e2] at h; exact h
        | ok d s0 =>
          rw [e2] at h
          simp only at h ⊢
          cases e3 : evp T hi s0 with
          | bad => rw [e3] at h; exact h
          | exc => rw [e3] at h; exact h
          | ok d s0 =>
            rw [e3] at h
            exact h
  · refine part_go I1 (q.bind fun o s2 H2 _ p2 I2 q2 => part_go I2 (q2.bind fun o2 s3 H3 _ p3 I3 q3 => ?_))
    obtain ⟨d, h1, r, er, s4, I4, k⟩ := q3 H3 (Pers.refl _) I3
    exact ⟨d, h1, r, er, fun v H' sm nw => k H3 (Pers.refl _) I4 v H' sm nw⟩
end
end Rf

set_option Elab.async false
set_option linter.all false
set_option maxRecDepth 100000
set_option maxHeartbeats 4000000
namespace Rf
open PySem PySem.Spec PyProof.Rows L2

/-! ### what a def promises, by data -/
def SlotReps (l : List Addr) (H : Hp) : List Slot → List V → Prop
  | [], vs => vs = []
  | x :: xs, vs => ∃ v r, vs = v :: r ∧ (match x with | .val d => Rep H d v | .glb k => ∃ a, v = .ref a ∧ l[k]? = some a | _ => False) ∧ SlotReps l H xs r
structure GR (l : List Addr) (H : Hp) (g : List Gd) : Prop where
  glen : g.length = l.length
  glob : ∀ (k : Nat) (kd : Gd) (a : Addr), g[k]? = some kd → l[k]? = some a → GRep H kd a
  gone : ∀ (i j : Nat) (a : Addr), l[i]? = some a → l[j]? = some a → i = j
/-- all but the shared dicts stands as it stood -/
def Chg (l : List Addr) (H H' : Hp) : Prop := ∀ a o, H a = some o → a ∉ l → H' a = some o
def spF (XR : Hp → Nat → List D → Value → Option Addr → Prop) (n : Nat) (F : Mirror) : Sp := fun vs H Q E => ∃ l xs g, SlotReps l H xs vs ∧ GR l H g ∧ xs.length = n ∧
  match F xs g with
  | .ret d g' => ∀ v H', Chg l H H' → Pers H H' → GR l H' g' → Rep H' d v → Q v H'
  | .retG kd g' => ∀ a H', Chg l H H' → Pers H H' → GR l H' g' → H a = none → a ∉ l → GRep H' kd a → Q (.ref a) H'
  | .exc c fs g' => ∀ cls dd H', Chg l H H' → Pers H H' → GR l H' g' → XR H' c fs cls dd → E cls dd H'
  | .bad => False
theorem SlotReps.len {l : List Addr} {H : Hp} : ∀ {xs : List Slot} {vs : List V}, SlotReps l H xs vs → vs.length = xs.length
  | [], vs, h => by simp only [SlotReps] at h; subst h; rfl
  | x :: xs, vs, h => by
    obtain ⟨v, r, rfl, _, h2⟩ := h
    simp [SlotReps.len h2]
theorem SI.gr {F : Fx} {σ : L2.St} {st : Sx} {H : Hp} (I : SI F σ st H) : GR F.l H st.g := ⟨I.glen, I.glob, I.gone⟩
theorem SI.not_l {F : Fx} {σ : L2.St} {st : Sx} {H : Hp} (I : SI F σ st H) {a : Addr} (h : ∀ kvs, H a ≠ some (.dK kvs)) : a ∉ F.l := by
  intro m
  obtain ⟨k, hk, e⟩ := List.getElem_of_mem m
  have hk' : k < st.g.length := by rw [I.glen]; exact hk
  obtain ⟨kvs, q, _⟩ := I.glob k _ a (List.getElem?_eq_getElem hk') (by rw [List.getElem?_eq_getElem hk, e])
  exact h kvs q
/-- behind a call: the shared dicts may have turned -/
theorem SI.called {F : Fx} {σ : L2.St} {st : Sx} {H H' : Hp} {g : List Gd} (I : SI F σ st H) (c : Chg F.l H H') (p : Pers H H') (r : GR F.l H' g) : SI F σ ⟨st.r, g⟩ H' := by
  refine ⟨fun i x h => ?_, I.one, I.fresh, fun a o h n => c _ _ (I.keep a o h n) n, r.glen, r.glob, r.gone, fun q hq => ?_, I.hfr⟩
  rotate_left
  · obtain ⟨vs, q1, q2⟩ := I.hid q hq
    exact ⟨vs, c _ _ q1 (I.hfr q hq).2, RepL.pers p _ _ q2⟩
  obtain ⟨y, h1, h2⟩ := I.slot i x h
  refine ⟨y, h1, ?_⟩
  cases x with
  | none => trivial
  | val d => obtain ⟨v, e1, e2⟩ := h2; exact ⟨v, e1, Rep.pers p _ _ e2⟩
  | own ds =>
    obtain ⟨a, vs, e1, e2, e3⟩ := h2
    exact ⟨a, vs, e1, c _ _ e2 (I.not_l fun kvs q => by rw [e2] at q; cases q), RepL.pers p _ _ e3⟩
  | glb k => exact h2

section
variable {X : Cx} {T : Tbl} {XR : Hp → Nat → List D → Value → Option Addr → Prop} {W : WX} {a b c m : E} {ea eb ec e : Expr} {pos : Pos}
/-! ### displays -/
theorem s_tup {es : List E} {xs : List Expr} {k : Nat} (h : All2 X T XR W es xs) (hn : (es.all fun a => a.isOwn.isNone) = true) : PE X (.Tuple xs k pos) (den T XR W (.tup es)) := by
  refine peOf (pe_tup h.pa) fun σ H Q ⟨F, st, I, w⟩ => ?_
  simp only [ev] at w
  refine args es st H _ I (w.bind fun ds s1 H1 _ p I1 q vs rv => ?_)
  have r := rv.rep hn
  split at q
  · rename_i hz
    refine ⟨by rw [sz_big, ← r.len]; exact hz, fun p hp => ?_⟩
    have sm := same_upd (o := .tup vs) hp
    exact q _ (Pers.of_same sm) (I1.same sm) _ (by simp only [Rep]; exact ⟨p, vs, rfl, upd_same, RepL.pers (Pers.of_same sm) _ _ r⟩)
  · exact q.elim
theorem n_lst {es : List E} {xs : List Expr} (h : All2 X T XR W es xs) (hn : (es.all fun a => a.isOwn.isNone) = true) : PE X (.List xs pos) (denN T XR W (.lst es)) := by
  refine peOf (pe_lst h.pa) fun σ H Q ⟨F, st, I, w⟩ => ?_
  simp only [ev] at w
  refine args es st H _ I (w.bind fun ds s1 H1 _ p I1 q vs rv => ?_)
  have r := rv.rep hn
  split at q
  · rename_i hz
    refine ⟨by rw [sz_big, ← r.len]; exact hz, fun p hp => ?_⟩
    have sm := same_upd (o := .lst vs) hp
    exact q H1 (Pers.refl _) I1 _ _ sm ⟨p, vs, rfl, hp, upd_same, RepL.pers (Pers.of_same sm) _ _ r⟩
  · exact q.elim
/-! ### calls of defs -/
def tC1 (T : Tbl) (XR : Hp → Nat → List D → Value → Option Addr → Prop) (W : WX) (a : E) : TE := match a.isGv with
  | some i => tVar i
  | none => den T XR W a
def tCL (T : Tbl) (XR : Hp → Nat → List D → Value → Option Addr → Prop) (W : WX) : List E → TA
  | [] => fun _ H Q => Q [] H
  | a :: as => fun σ H Q => tC1 T XR W a σ H fun x H1 => tCL T XR W as σ H1 fun xs H2 => Q (x :: xs) H2
theorem argsC {F : Fx} {σ : L2.St} : ∀ (as : List E) (st : Sx) (H : Hp) (Q : List V → Hp → Prop), SI F σ st H → Post XR W F σ H (evc T as st) (fun xs H' => ∀ vs, SlotReps F.l H' xs vs → Q vs H') → tCL T XR W as σ H Q
  | [], st, H, Q, I, h => by
    simp only [evc] at h
    exact h H (Pers.refl H) I [] rfl
  | a :: as, st, H, Q, I, h => by
    show tC1 T XR W a σ H _
    rw [evc] at h
    unfold tC1
    cases e : a.isGv with
    | none =>
      rw [e] at h
      simp only at h ⊢
      refine ⟨F, st, I, h.bind fun d s1 H1 _ p I1 q v rv => argsC as s1 H1 _ I1 (q.bind fun xs s2 H2 _ p2 I2 q2 vs rvs => ?_)⟩
      exact q2 H2 (Pers.refl _) I2 (v :: vs) ⟨v, vs, rfl, Rep.pers p2 d v rv, rvs⟩
    | some i =>
      rw [e] at h
      simp only at h ⊢
      split at h
      · rename_i k ek
        obtain ⟨y, h1, h2⟩ := I.slot i _ ek
        obtain ⟨b, rfl, h3⟩ := h2
        refine ⟨.ref b, h1, argsC as st H _ I (h.bind fun xs s1 H1 _ p I1 q vs rvs => ?_)⟩
        exact q H1 (Pers.refl _) I1 (.ref b :: vs) ⟨.ref b, vs, rfl, ⟨b, rfl, h3⟩, rvs⟩
      · exact h.elim
inductive All3 (X : Cx) (T : Tbl) (XR : Hp → Nat → List D → Value → Option Addr → Prop) (W : WX) : List E → List Expr → Prop where
  | nil : All3 X T XR W [] []
  | cons {a : E} {e : Expr} {as : List E} {es : List Expr} : PE X e (tC1 T XR W a) → plainE e = true → All3 X T XR W as es → All3 X T XR W (a :: as) (e :: es)
theorem All3.plain : ∀ {as : List E} {es : List Expr}, All3 X T XR W as es → es.all plainE = true
  | _, _, .nil => rfl
  | _, _, .cons _ p r => by rw [List.all_cons, p, All3.plain r]; rfl
theorem All3.pa : ∀ {as : List E} {es : List Expr}, All3 X T XR W as es → PA X es (tCL T XR W as)
  | _, _, .nil => pa_nil
  | _, _, .cons h p r => pa_cons h (All3.pa r) (star_cons p _ _)
theorem tC1_mono {σ : L2.St} {a : E} {H : Hp} {Q Q' : VK} (h : tC1 T XR W a σ H Q) (k : ∀ x H, Q x H → Q' x H) : tC1 T XR W a σ H Q' := by
  unfold tC1 at h ⊢
  cases e : a.isGv with
  | none => rw [e] at h; exact den_mono h k
  | some i => rw [e] at h; obtain ⟨v, h1, h2⟩ := h; exact ⟨v, h1, k _ _ h2⟩
theorem tCL_mono {σ : L2.St} : ∀ {as : List E} {H : Hp} {Q Q' : List V → Hp → Prop}, tCL T XR W as σ H Q → (∀ xs H, Q xs H → Q' xs H) → tCL T XR W as σ H Q'
  | [], H, Q, Q', h, k => k _ _ h
  | a :: as, H, Q, Q', h, k => by
    have h : tC1 T XR W a σ H fun x H1 => tCL T XR W as σ H1 fun xs H2 => Q (x :: xs) H2 := h
    exact tC1_mono h fun v H1 q => tCL_mono q fun xs H2 q => k _ _ q
theorem tCL_len {σ : L2.St} : ∀ {as : List E} {H : Hp} {Q : List V → Hp → Prop}, tCL T XR W as σ H Q → tCL T XR W as σ H fun xs H1 => xs.length = as.length ∧ Q xs H1
  | [], H, Q, h => ⟨rfl, h⟩
  | a :: as, H, Q, h => by
    have h : tC1 T XR W a σ H fun x H1 => tCL T XR W as σ H1 fun xs H2 => Q (x :: xs) H2 := h
    exact tC1_mono h fun v H1 q => tCL_mono (tCL_len q) fun xs H2 q => ⟨by simp [q.1], q.2⟩
theorem tCL_app {σ : L2.St} : ∀ {as bs : List E} {H : Hp} {Q : List V → Hp → Prop}, tCL T XR W (as ++ bs) σ H Q → tCL T XR W as σ H fun xs H1 => xs.length = as.length ∧ tCL T XR W bs σ H1 fun ys H2 => ys.length = bs.length ∧ Q (xs ++ ys) H2 := by
  intro as
  induction as with
  | nil => intro bs H Q h; exact ⟨rfl, tCL_len h⟩
  | cons a as ih =>
    intro bs H Q h
    have h : tC1 T XR W a σ H fun x H1 => tCL T XR W (as ++ bs) σ H1 fun xs H2 => Q (x :: xs) H2 := h
    refine tC1_mono h fun x H1 q => ?_
    have := ih q
    refine tCL_mono this fun xs H2 z => ⟨by simp [z.1], z.2⟩
theorem All3.split : ∀ {es1 es2 : List Expr} {as : List E}, All3 X T XR W as (es1 ++ es2) → ∃ a1 a2, as = a1 ++ a2 ∧ a1.length = es1.length ∧ a2.length = es2.length ∧ All3 X T XR W a1 es1 ∧ All3 X T XR W a2 es2 := by
  have len : ∀ {as : List E} {es : List Expr}, All3 X T XR W as es → as.length = es.length := by
    intro as
    induction as with
    | nil => intro es h; cases h; rfl
    | cons a as ih => intro es h; cases h with | cons _ _ h => simp [ih h]
  intro es1
  induction es1 with
  | nil => intro es2 as h; exact ⟨[], as, rfl, rfl, len h, .nil, h⟩
  | cons e es1 ih =>
    intro es2 as h
    cases h with
    | cons h1 h2 h3 =>
      obtain ⟨a1, a2, rfl, l1, l2, q1, q2⟩ := ih h3
      exact ⟨_ :: a1, a2, rfl, by simp [l1], l2, .cons h1 h2 q1, q2⟩
theorem All3.pk : ∀ {as : List E} {kws : List Keyword}, All3 X T XR W as (kws.map (·.value)) → PK X kws (tCL T XR W as)
  | as, [], h => by cases h; exact pk_nil
  | as, ⟨n, e, p⟩ :: kws, h => by
    cases h with
    | cons h1 h2 h3 => exact pk_cons h1 (All3.pk h3)
theorem kw_some {env : Env} {pos : Pos} : ∀ {kws : List Keyword} {ks : List Str}, kws.map (·.arg) = ks.map some → (backToKw pos (keywordEach kws env)).all (·.1.isSome) = true ∧ (backToKw pos (keywordEach kws env)).filterMap (·.1) = ks ∧ (backToKw pos (keywordEach kws env)).any (·.1.isNone) = false
  | [], [], _ => ⟨rfl, rfl, rfl⟩
  | [], _ :: _, h => by simp at h
  | _ :: _, [], h => by simp at h
  | ⟨n, e, p⟩ :: kws, k :: ks, h => by
    simp only [List.map_cons, List.cons.injEq] at h
    obtain ⟨rfl, h⟩ := h
    obtain ⟨i1, i2, i3⟩ := kw_some (env := env) (pos := pos) h
    refine ⟨?_, ?_, ?_⟩
    · show (true && _) = true; rw [Bool.true_and]; exact i1
    · show k :: _ = _; rw [← i2]; rfl
    · show (false || _) = false; rw [Bool.false_or]; exact i3
/-- how a def takes its arguments: the first ones by position, the others by name, in the parameters' order -/
def BindK (K : PySem.W.Frag) (fd : FuncData) (ps : List Str) : Prop := ∀ (s : Shared) (us : List Value) (j : Nat) (kw : List (Str × Value)), K.In s.heap → us.length = ps.length → j ≤ ps.length → kw.Perm ((ps.drop j).zip (us.drop j)) → BindsTo s fd ⟨us.take j, kw⟩ (ps.zip us)
/-- a def that may be called here -/
structure FnAt (XR : Hp → Nat → List D → Value → Option Addr → Prop) (F : Mirror) (X : Cx) (x : Str) (ps : List Str) : Prop where
  ok : ∃ lv f fd, FnG X.prog X.w X.K X.mg X.base lv f fd ps (spF XR ps.length F) ∧ Room lv X.A ∧ X.mg x = some (.ref f) ∧ PySem.W.keepIn X.K (.ref f) = true ∧ BindK X.K fd ps ∧ ∀ xs g, xs.length ≠ ps.length → F xs g = .bad
/-- the call itself -/
theorem call_fin {F : Fx} {k : Nat} {lv : Nat} {f : Addr} {fd : FuncData} {ps : List Str} {pins : List (Addr × Obj)} {σ : L2.St} {Q : VK} (G : FnG X.prog X.w X.K X.mg X.base lv f fd ps (spF XR ps.length (T k))) (room : Room lv X.A) (hb : BindK X.K fd ps) (ar : ∀ xs g, xs.length ≠ ps.length → T k xs g = .bad)
    (gd : X.A.guards = some []) (tk : Takes X W) {s1 : Shared} {H1 : Hp} {st1 : Sx} {us ws : List Value} {vs : List V} {xs : List Slot} (I1 : Inv X pins σ H1 s1) (rv : Vals vs (us ++ ws)) (J : SI F σ st1 H1) (r : SlotReps F.l H1 xs vs)
    (q : match T k xs st1.g with
      | .ret d g => Post XR W F σ H1 (.ok d ⟨st1.r, g⟩) (fun d H' => ∀ v, Rep H' d v → Q v H')
      | .retG kd g => ∀ a H', Pers H1 H' → SI F σ ⟨st1.r, g⟩ H' → H1 a = none → a ∉ F.l → F.H0 a = none → GRep H' kd a → (∀ b o, H1 b = some o → b ∉ F.l → H' b = some o) → Q (.ref a) H'
      | .exc c fs g => Post XR W F σ H1 (.exc c fs ⟨st1.r, g⟩ : Res D) (fun d H' => ∀ v, Rep H' d v → Q v H')
      | .bad => False) :
    wpAny (model X.prog X.w) X.A (call (.ref f) us ((ps.drop us.length).zip ws)) (EP X pins σ Q) X.xe s1 := by
  have hn : xs.length = ps.length := by
    by_cases z : xs.length = ps.length
    · exact z
    · rw [ar xs st1.g z] at q; exact q.elim
  have hl : (us ++ ws).length = ps.length := by rw [← rv.length, r.len, hn]
  have hj : us.length ≤ ps.length := by rw [← hl]; simp
  refine runG (args := ⟨us, (ps.drop us.length).zip ws⟩) G room gd tk ?_ I1 rv ⟨F.l, xs, st1.g, r, J.gr, hn, ?_⟩
  · have := hb s1 (us ++ ws) us.length _ I1.kIn hl hj (List.Perm.refl _)
    rwa [List.take_left, List.drop_left] at this
  · cases e : T k xs st1.g with
    | ret d g =>
      rw [e] at q
      exact fun v H' ch pe gr rr => q H' pe (J.called ch pe gr) v rr
    | retG kd g =>
      rw [e] at q
      refine fun a H' ch pe gr ha hl hr => q a H' pe (J.called ch pe gr) ha hl ?_ hr ch
      cases z : F.H0 a with
      | none => rfl
      | some o => have := J.keep a o z hl; rw [ha] at this; cases this
    | exc c fs g =>
      rw [e] at q
      exact fun cls dd H' ch pe gr x => q cls dd H' pe (J.called ch pe gr) x
    | bad => rw [e] at q; exact q
theorem s_callG {k : Nat} {x : Str} {pp : Pos} {ps : List Str} {as : List E} {es : List Expr} {kws : List Keyword} (Fa : FnAt XR (T k) X x ps) (gd : X.A.guards = some []) (tk : Takes X W) (hg : Gl X x) (hdb : (x == ("__debug__" : Str)) = false) (h : All3 X T XR W as (es ++ kws.map (·.value)))
    (hkw : kws.map (·.arg) = ((ps.drop es.length).take kws.length).map some) (hl : kws = [] ∨ es.length + kws.length = ps.length) :
    PE X (.Call (.Name x pp) es kws pos) (fun σ H Q => ∃ F st, SI F σ st H ∧ Post XR W F σ H (evc T as st) fun xs H1 => ∃ st1, SI F σ st1 H1 ∧ match T k xs st1.g with
      | .ret d g => Post XR W F σ H1 (.ok d ⟨st1.r, g⟩) (fun d H' => ∀ v, Rep H' d v → Q v H')
      | .retG kd g => ∀ a H', Pers H1 H' → SI F σ ⟨st1.r, g⟩ H' → H1 a = none → a ∉ F.l → F.H0 a = none → GRep H' kd a → (∀ b o, H1 b = some o → b ∉ F.l → H' b = some o) → Q (.ref a) H'
      | .exc c fs g => Post XR W F σ H1 (.exc c fs ⟨st1.r, g⟩ : Res D) (fun d H' => ∀ v, Rep H' d v → Q v H')
      | .bad => False) := by
  obtain ⟨lv, f, fd, G, room, hm, hk, hb, ar⟩ := Fa.ok
  obtain ⟨a1, a2, rfl, l1, l2, h1, h2⟩ := h.split
  refine ⟨fun pins s σ H Q I0 ⟨F, st, I, w⟩ => ?_⟩
  have go : tCL T XR W (a1 ++ a2) σ H fun vs H1 => ∃ xs st1, SI F σ st1 H1 ∧ SlotReps F.l H1 xs vs ∧ (match T k xs st1.g with
      | .ret d g => Post XR W F σ H1 (.ok d ⟨st1.r, g⟩) (fun d H' => ∀ v, Rep H' d v → Q v H')
      | .retG kd g => ∀ a H', Pers H1 H' → SI F σ ⟨st1.r, g⟩ H' → H1 a = none → a ∉ F.l → F.H0 a = none → GRep H' kd a → (∀ b o, H1 b = some o → b ∉ F.l → H' b = some o) → Q (.ref a) H'
      | .exc c fs g => Post XR W F σ H1 (.exc c fs ⟨st1.r, g⟩ : Res D) (fun d H' => ∀ v, Rep H' d v → Q v H')
      | .bad => False) :=
    argsC _ st H _ I (w.mono fun xs s1 H1 _ p I1 ⟨st1, J, q⟩ vs rv => ⟨xs, st1, J, rv, q⟩)
  have go := tCL_app go
  have nz : ∀ {us ws : List Value} {s1 : Shared} {H1 : Hp} {vs zs : List V} {pr : (∃ xs st1, SI F σ st1 H1 ∧ SlotReps F.l H1 xs (vs ++ zs) ∧ (match T k xs st1.g with
      | .ret d g => Post XR W F σ H1 (.ok d ⟨st1.r, g⟩) (fun d H' => ∀ v, Rep H' d v → Q v H')
      | .retG kd g => ∀ a H', Pers H1 H' → SI F σ ⟨st1.r, g⟩ H' → H1 a = none → a ∉ F.l → F.H0 a = none → GRep H' kd a → (∀ b o, H1 b = some o → b ∉ F.l → H' b = some o) → Q (.ref a) H'
      | .exc c fs g => Post XR W F σ H1 (.exc c fs ⟨st1.r, g⟩ : Res D) (fun d H' => ∀ v, Rep H' d v → Q v H')
      | .bad => False))}, Inv X pins σ H1 s1 → Vals vs us → Vals zs ws → us.length = es.length →
      wpAny (model X.prog X.w) X.A (call (.ref f) us ((ps.drop es.length).zip ws)) (EP X pins σ Q) X.xe s1 := by
    rintro us ws s1 H1 vs zs ⟨xs, st1, J, r, q⟩ I1 r1 r2 lu
    rw [← lu]
    exact call_fin G room hb ar gd tk I1 (r1.append r2) J r q
  have hks : kws.map (·.arg) = ((ps.drop es.length).take kws.length).map some := hkw
  obtain ⟨k1, k2, k3⟩ := kw_some (env := X.env) (pos := pos) hks
  have zk : ∀ ws : List Value, ws.length = kws.length → ((ps.drop es.length).take kws.length).zip ws = (ps.drop es.length).zip ws := by
    intro ws hw
    rcases hl with z | z
    · subst z
      obtain rfl : ws = [] := List.length_eq_zero_iff.mp hw
      simp
    · congr 1
      rw [List.take_of_length_le]
      rw [List.length_drop]; omega
  cases kws with
  | nil =>
    have e2 : a2 = [] := List.length_eq_zero_iff.mp l2
    subst e2
    have z0 : ∀ us : List Value, call (.ref f) us ((ps.drop es.length).zip []) = call (.ref f) us := fun us => by rw [List.zip_nil_right]
    cases h1 with
    | nil =>
      refine wpAny_Call_Name_kw (ld_glob I0 hg hm ?_ hdb)
      refine PySem.W.callWith_K0 I0.kIn hk ?_
      have := nz (us := []) (ws := []) (vs := []) (zs := []) (pr := (show tCL T XR W [] σ H _ from go.2).2) I0 .nil .nil rfl
      rwa [z0] at this
    | cons g1 g2 g3 =>
      have hp := (All3.cons g1 g2 g3).plain
      rw [List.all_cons, Bool.and_eq_true] at hp
      refine wpAny_Call_Name_kw (ld_glob I0 hg hm ?_ hdb)
      refine PySem.W.callWith_K (h₀ := X.base) I0.ok.mod.kin hk (thn ((All3.cons g1 g2 g3).pa.run pos pins s σ H _ I0 go) fun us s1 ⟨vs, H1, I1, rv, ql, q⟩ => ⟨I1.kIn, ?_⟩) (star_cons hp.1 _ _) (star_none hp.2)
      have lu : us.length = _ := rv.length.symm.trans (ql.trans l1)
      have := nz (us := us) (ws := []) (vs := vs) (zs := []) (pr := (show tCL T XR W [] σ H1 _ from q).2) I1 rv .nil lu
      rwa [z0] at this
  | cons kw kws =>
    have pk := h2.pk
    cases h1 with
    | nil =>
      refine wpAny_Call_Name_kw (ld_glob I0 hg hm ?_ hdb)
      refine PySem.W.callWith_KW0 I0.ok.mod.kin hk k1 (thn (pk.run pos pins s σ H _ I0 go.2) fun ws s2 ⟨zs, H2, I2, rz, zl, q2⟩ => ⟨I2.kIn, ?_⟩) (by rw [k3]; rfl)
      rw [k2, zk ws (by rw [← rz.length, zl, l2, List.length_map])]
      exact nz (us := []) (ws := ws) (vs := []) (zs := zs) (pr := q2) I2 .nil rz rfl
    | cons g1 g2 g3 =>
      have hp := (All3.cons g1 g2 g3).plain
      rw [List.all_cons, Bool.and_eq_true] at hp
      refine wpAny_Call_Name_kw (ld_glob I0 hg hm ?_ hdb)
      refine PySem.W.callWith_KW (h₀ := X.base) I0.ok.mod.kin hk k1 (thn ((All3.cons g1 g2 g3).pa.run pos pins s σ H _ I0 go) fun us s1 ⟨vs, H1, I1, rv, ql, q⟩ => ?_) (by rw [star_cons hp.1]; simp only [backTo, List.map_cons, List.any_cons, Bool.false_or]; rw [k3, Bool.or_false]; exact star_none hp.2) (star_cons hp.1 _ _)
      have lu : us.length = _ := rv.length.symm.trans (ql.trans l1)
      refine thn (pk.run pos pins s1 σ H1 _ I1 q) fun ws s2 ⟨zs, H2, I2, rz, zl, q2⟩ => ⟨I2.kIn, ?_⟩
      rw [k2, zk ws (by rw [← rz.length, zl, l2, List.length_map])]
      exact nz (us := us) (ws := ws) (vs := vs) (zs := zs) (pr := q2) I2 rv rz lu
theorem s_call {k : Nat} {x : Str} {pp : Pos} {ps : List Str} {as : List E} {es : List Expr} {kws : List Keyword} (Fa : FnAt XR (T k) X x ps) (gd : X.A.guards = some []) (tk : Takes X W) (hg : Gl X x) (hdb : (x == ("__debug__" : Str)) = false) (h : All3 X T XR W as (es ++ kws.map (·.value)))
    (hkw : kws.map (·.arg) = ((ps.drop es.length).take kws.length).map some) (hl : kws = [] ∨ es.length + kws.length = ps.length) : PE X (.Call (.Name x pp) es kws pos) (den T XR W (.call k as)) := by
  refine peOf (s_callG Fa gd tk hg hdb h hkw hl) fun σ H Q ⟨F, st, I, w⟩ => ?_
  simp only [ev] at w
  refine ⟨F, st, I, w.bind fun xs s1 H1 _ p I1 q => ⟨s1, I1, ?_⟩⟩
  cases e : T k xs s1.g with
  | ret d g => rw [e] at q; exact q
  | retG kd g => rw [e] at q; exact q.elim
  | exc c fs g => rw [e] at q; exact q
  | bad => rw [e] at q; exact q
/-! ### the shared dicts -/
theorem getK_run {H : Hp} {k : Key} : ∀ {kd : Gd} {kvs : List (Key × V)} {d : D}, kvs.map (·.1) = kd.map (·.1) → RepL H (kd.map (·.2)) (kvs.map (·.2)) → getK kd k = some d → ∃ v, valV kvs k = some v ∧ Rep H d v
  | [], kvs, d, e, r, h => by simp [getK] at h
  | (k', d') :: kd, [], d, e, r, h => by simp at e
  | (k', d') :: kd, (k2, v2) :: kvs, d, e, r, h => by
    simp only [List.map_cons, List.cons.injEq] at e
    simp only [List.map_cons, RepL] at r
    obtain ⟨v, r', e2, h1, h2⟩ := r
    cases e2
    obtain ⟨rfl, e⟩ := e
    unfold getK at h
    rw [List.find?_cons] at h
    unfold valV
    rw [List.find?_cons]
    by_cases z : k2 = k
    · simp only [z, decide_true] at h ⊢
      cases h
      exact ⟨v2, rfl, h1⟩
    · simp only [z, decide_false] at h ⊢
      exact getK_run e h2 h
theorem s_gget {i : Nat} {x : Str} {k : Key} {p1 : Pos} {ek : Expr} (hN : X.N[i]? = some x) (hv : Vis X.env.scope x) (hd : (x == ("__debug__" : Str)) = false) (hcd : (x == ("__classdict__" : Str)) = false) (hu : X.A.units + 1 < cLine)
    (hk : PE X ek (tC (kV k))) (hp : plainE ek = true) : PE X (.Subscript (.Name x p1) ek pos) (den T XR W (.gget i k)) := by
  refine peOf (pe_dget hu (pe_var hN hv hd hcd) hk (by intro o i; cases ek <;> first | rfl | (simp [plainE] at hp))) fun σ H Q ⟨F, st, I, h⟩ => ?_
  simp only [ev] at h
  split at h
  · rename_i j ej
    split at h
    · rename_i kd ekd
      unfold ofOpt at h
      split at h
      · rename_i d ed
        obtain ⟨y, h1, h2⟩ := I.slot i _ ej
        obtain ⟨a, rfl, h3⟩ := h2
        obtain ⟨kvs, q1, q2, q3⟩ := I.glob j kd a ekd h3
        obtain ⟨v, z1, z2⟩ := getK_run q2 q3 ed
        exact ⟨.ref a, h1, a, v, rfl, .inl ⟨kvs, k, .inl q1, rfl, z1.symm⟩, h H (Pers.refl H) I v z2⟩
      · exact h.elim
    · exact h.elim
  · exact h.elim
/-! ### open lists changed by their methods -/
theorem pers_upd {H : Hp} {a : Addr} {u o : HO} (h : H a = some u) (mu : Mut (some u)) : Pers H (upd H a o) := by
  refine ⟨fun b xs q => ?_, fun b o w q => ?_⟩
  · rw [upd_ne (fun z => by rw [z, h] at q; cases q; exact mu)]; exact q
  · rw [upd_ne (fun z => by rw [z, h] at q; cases q; exact mu)]; exact q
theorem SI.turn {F : Fx} {σ : L2.St} {st : Sx} {H : Hp} {i : Nat} {xs ys : List D} {a : Addr} {vs us : List V} (I : SI F σ st H) (e : st.r[i]? = some (.own xs)) (es : σ[i]? = some (some (.ref a))) (h : H a = some (.lst vs)) (r : RepL H ys us) :
    SI F σ ⟨st.r.set i (.own ys), st.g⟩ (upd H a (.lst us)) := by
  have p : Pers H (upd H a (.lst us)) := pers_upd h trivial
  obtain ⟨f1, f2, f3⟩ := I.fresh i xs a e es
  have hi : i < st.r.length := (List.getElem?_eq_some_iff.mp e).1
  have back : ∀ (j : Nat) (z : List D), (st.r.set i (.own ys))[j]? = some (.own z) → ∃ z', st.r[j]? = some (.own z') := by
    intro j z hz
    by_cases hj : i = j
    · subst hj; exact ⟨xs, e⟩
    · rw [List.getElem?_set_ne hj] at hz; exact ⟨z, hz⟩
  refine ⟨fun j x hx => ?_, fun j k x y b h1 h2 h3 h4 => ?_, fun j x b h1 h2 => ?_, fun b o h1 h2 => ?_, I.glen, fun k kd b h1 h2 => ?_, I.gone, fun q hq => ?_, I.hfr⟩
  · by_cases hj : i = j
    · subst hj
      rw [List.getElem?_set_self hi] at hx
      cases hx
      exact ⟨_, es, a, us, rfl, upd_same, RepL.pers p _ _ r⟩
    · have hx' : st.r[j]? = some x := by rw [← hx]; exact (List.getElem?_set_ne hj).symm
      obtain ⟨y, h1, h2⟩ := I.slot j x hx'
      refine ⟨y, h1, ?_⟩
      cases x with
      | none => trivial
      | val d => obtain ⟨v, e1, e2⟩ := h2; exact ⟨v, e1, Rep.pers p _ _ e2⟩
      | own ds =>
        obtain ⟨b, ws, e1, e2, e3⟩ := h2
        refine ⟨b, ws, e1, ?_, RepL.pers p _ _ e3⟩
        rw [upd_ne]
        · exact e2
        · intro z
          subst z
          exact hj (I.one i j xs ds b e hx' es (by rw [h1, e1]))
      | glb k => exact h2
  · obtain ⟨x', g1⟩ := back j x h1
    obtain ⟨y', g2⟩ := back k y h2
    exact I.one j k x' y' b g1 g2 h3 h4
  · obtain ⟨x', g1⟩ := back j x h1
    exact I.fresh j x' b g1 h2
  · rw [upd_ne (fun z => by rw [z, f1] at h1; cases h1)]
    exact I.keep b o h1 h2
  · obtain ⟨kvs, q1, q2, q3⟩ := I.glob k kd b h1 h2
    refine ⟨kvs, ?_, q2, RepL.pers p _ _ q3⟩
    rw [upd_ne (fun z => f2 (by rw [← z]; exact List.mem_of_getElem? h2))]
    exact q1
  · obtain ⟨ws, q1, q2⟩ := I.hid q hq
    exact ⟨ws, by rw [upd_ne (f3 q hq)]; exact q1, RepL.pers p _ _ q2⟩
end
end Rf

set_option Elab.async false
set_option linter.all false
set_option maxRecDepth 100000
set_option maxHeartbeats 4000000
namespace Rf
open PySem PySem.Spec PyProof.Rows L2

theorem RepL.set_erase {H : Hp} : ∀ {ds : List D} {vs : List V} (k : Nat), RepL H ds vs → RepL H (ds.eraseIdx k) (vs.eraseIdx k)
  | [], vs, k, h => by simp only [RepL] at h; subst h; simp [RepL]
  | d :: ds, vs, 0, h => by
    simp only [RepL] at h
    obtain ⟨v, r, rfl, h1, h2⟩ := h
    simpa using h2
  | d :: ds, vs, k + 1, h => by
    simp only [RepL] at h
    obtain ⟨v, r, rfl, h1, h2⟩ := h
    simp only [List.eraseIdx_cons_succ, RepL]
    exact ⟨v, _, rfl, h1, RepL.set_erase k h2⟩
theorem RepL.dropLast {H : Hp} {ds : List D} {vs : List V} (h : RepL H ds vs) : RepL H ds.dropLast vs.dropLast := by
  rw [List.dropLast_eq_take, List.dropLast_eq_take, h.len]
  exact h.take _
/-- a method of an open list -/
def rMut (m : MutK) : V → List V → Hp → VK → Prop := fun x us H Q => ∃ a vs xs ds d ys, x = .ref a ∧ H a = some (.lst vs) ∧ RepL H xs vs ∧ RepL H ds us ∧ m.ap xs ds = some (d, ys) ∧
  ∀ v vs', Rep H d v → RepL H ys vs' → Q v (upd H a (.lst vs'))
section
variable {X : Cx}
theorem m_append : MtR X "list.append" (rMut .append) := by
  intro pins s σ H x us v uv Q I rx rv h
  obtain ⟨a, vs, xs, ds, d, ys, rfl, hH, r1, r2, e, k⟩ := h
  cases ds with
  | nil => simp only [MutK.ap] at e; cases e
  | cons d1 ds =>
    cases ds with
    | cons d2 ds => simp only [MutK.ap] at e; cases e
    | nil =>
      obtain ⟨u, rfl, ru⟩ := r2.one
      simp only [MutK.ap] at e
      split at e
      · rename_i hz
        cases e
        refine mt_append pins s σ H _ _ v uv Q I rx rv ⟨a, vs, u, rfl, rfl, hH, by rw [sz_big, ← r1.len]; exact hz, k _ _ rfl (r1.append ?_)⟩
        simp only [RepL]
        exact ⟨u, [], rfl, ru, rfl⟩
      · cases e
theorem m_extend : MtR X "list.extend" (rMut .extend) := by
  intro pins s σ H x us v uv Q I rx rv h
  obtain ⟨a, vs, xs, ds, d, ys, rfl, hH, r1, r2, e, k⟩ := h
  cases ds with
  | nil => simp only [MutK.ap] at e; cases e
  | cons d1 ds =>
    cases ds with
    | cons d2 ds => cases d1 <;> simp only [MutK.ap] at e <;> cases e
    | nil =>
      obtain ⟨u, rfl, ru⟩ := r2.one
      cases d1 <;> simp only [MutK.ap] at e <;> try (cases e; done)
      rename_i zs
      split at e
      · rename_i hz
        cases e
        simp only [Rep] at ru
        obtain ⟨b, o, ws, rfl, hb, r3⟩ := ru
        have l1 := r1.len
        have l3 := r3.len
        cases rx
        obtain ⟨u, rfl, ru⟩ := rv.one
        cases ru
        obtain ⟨z, its, n, ra, hl, e1⟩ := I.lstM hH
        obtain ⟨z2, its2, n2, rb, e2⟩ := (show L2.Rd H b (.lst ws) from .inr ⟨o, hb⟩).ok I.hok
        have hl2 := rb.length
        have zb := sz_big
        have hsz : its.toArray.size + its2.toArray.size ≤ sizeLine := by rw [List.size_toArray, List.size_toArray]; omega
        have hlong : ¬ (!its.toArray.isEmpty && Builtin.List.listTooLong (its.toArray.size + its2.toArray.size)) = true := by
          rw [notLongL hsz]; simp
        refine call_meets F.slot_list_extend ⟨_, e1, rfl⟩ F.entry_list_extend (F.args_list_extend_2 _ _)
          (AutoSeq1.list_extend_list_list_0 a its.toArray n b its2.toArray n2 hlong (by rw [List.size_toArray]; omega) (by omega)) ⟨e1, e2, ?_⟩
        exact ⟨.non, _, I.lset (its' := its ++ its2) hH e1 (by simp) (ra.append rb) (by rw [List.length_append]; omega), rfl, k _ _ rfl (r1.append r3)⟩
      · cases e
theorem m_pop : MtR X "list.pop" (rMut .pop) := by
  intro pins s σ H x us v uv Q I rx rv h
  obtain ⟨a, vs, xs, ds, d, ys, rfl, hH, r1, r2, e, k⟩ := h
  cases ds with
  | nil => simp only [MutK.ap] at e; cases e
  | cons d1 ds =>
    cases ds with
    | cons d2 ds => cases d1 <;> simp only [MutK.ap] at e <;> cases e
    | nil =>
      obtain ⟨u, rfl, ru⟩ := r2.one
      cases d1 <;> simp only [MutK.ap] at e <;> try (cases e; done)
      rename_i i
      cases ru
      split at e
      · rename_i j ej
        cases q : xs[j]? with
        | none => rw [q] at e; cases e
        | some y =>
          rw [q] at e
          cases e
          obtain ⟨w', q1, q2⟩ := r1.get q
          rw [r1.len] at ej
          obtain ⟨g1, g2, g3, g4⟩ := ixN_seq ej
          have z := (I.hok a _ hH).1
          have zb := sz_big
          have bg : big < 2 ^ 63 := by decide
          exact mt_popAt pins s σ H _ _ v uv Q I rx rv ⟨a, vs, i, j, w', rfl, rfl, hH, by omega, by omega, g1, q1, k _ _ q2 (r1.set_erase j)⟩
      · cases e
theorem m_popLast : MtR X "list.pop" (rMut .popLast) := by
  intro pins s σ H x us v uv Q I rx rv h
  obtain ⟨a, vs, xs, ds, d, ys, rfl, hH, r1, r2, e, k⟩ := h
  cases ds with
  | cons d1 ds => simp only [MutK.ap] at e; cases e
  | nil =>
    simp only [RepL] at r2
    subst r2
    simp only [MutK.ap] at e
    cases q : xs[xs.length - 1]? with
    | none => rw [q] at e; cases e
    | some y =>
      rw [q] at e
      cases e
      obtain ⟨w', q1, q2⟩ := r1.get q
      exact mt_pop pins s σ H _ _ v uv Q I rx rv ⟨a, vs, w', rfl, rfl, hH, by rw [← r1.len]; exact q1, k _ _ q2 r1.dropLast⟩
variable {T : Tbl} {XR : Hp → Nat → List D → Value → Option Addr → Prop} {W : WX} {a b c m : E} {ea eb ec e : Expr} {pos : Pos}
theorem mutGo {mk : MutK} {i : Nat} {as : List E} {σ : L2.St} {H : Hp} {Q : VK} (hn : (as.all fun a => a.isOwn.isNone) = true) (h : den T XR W (.mutl mk i as) σ H Q) :
    tVar i σ H fun x H1 => tyV X.K "list" x H1 ∧ tL T XR W as σ H1 fun us H2 => rMut mk x us H2 Q := by
  obtain ⟨F, st, I, h⟩ := h
  simp only [ev] at h
  split at h
  · rename_i xs ex
    obtain ⟨p, vs, q1, q2, q3⟩ := I.own ex
    refine ⟨.ref p, q1, ?_, args as st H _ I (h.bind fun ds s1 H1 _ pp I1 q us ru => ?_)⟩
    · exact Or.inl ⟨rfl, _, Or.inl (Or.inl q2)⟩
    · split at q
      · rename_i ys ey
        obtain ⟨p', vs', g1, g2, g3⟩ := I1.own ey
        rw [q1] at g1
        cases g1
        split at q
        · rename_i d zs ez
          refine ⟨p, vs', ys, ds, d, zs, rfl, g2, g3, ru.rep hn, ez, fun v ws rd rr => ?_⟩
          exact q _ (pers_upd g2 trivial) (I1.turn ey q1 g2 rr) v (Rep.pers (pers_upd g2 trivial) _ _ rd)
        · exact q.elim
      · exact q.elim
  · exact h.elim
theorem s_mut {mk : MutK} {id : String} {name : Str} {i : Nat} {x : Str} {p1 apos : Pos} {as : List E} {es : List Expr} (hm : MtR X id (rMut mk)) (pa : PlainAttrs "list") (slot : PySem.Slot "list" name id) (hty : typeOf (.builtin id) = pure (.type "method_descriptor"))
    (hN : X.N[i]? = some x) (hv : Vis X.env.scope x) (hd : (x == ("__debug__" : Str)) = false) (hcd : (x == ("__classdict__" : Str)) = false) (hn : (as.all fun a => a.isOwn.isNone) = true) (h : All2 X T XR W as es)
    (hline : (apos.endLine == pos.line) = true) (hl : es.length < 30) : PE X (.Call (.Attribute (.Name x p1) name apos) es [] pos) (den T XR W (.mutl mk i as)) := by
  have hp := h.plain
  have hpa := h.pa
  cases h with
  | nil => exact peOf (pe_bm0 pa slot hty hm (pe_var hN hv hd hcd) (base_plain rfl _ _) hline) fun σ H Q w => mutGo (X := X) hn w
  | cons h1 h2 h3 =>
    have hp' := hp
    rw [List.all_cons, Bool.and_eq_true] at hp'
    exact peOf (pe_bm pa slot hty hm (pe_var hN hv hd hcd) hpa (base_plain rfl _ _) (star_few hp hl) hline (star_cons hp'.1 _ _) (star_none hp'.2)) fun σ H Q w => mutGo (X := X) hn w
/-! ### a method of data -/
def tyP2 : P → String
  | .get => "dict"
  | .index => "list"
  | _ => "str"
theorem fits_ty {pins : List (Addr × Obj)} {σ : L2.St} {H : Hp} {s : Shared} {p : P} {d : D} {x : V} {v : Value} (I : Inv X pins σ H s) (rx : RelV x v) (h : Rep H d x) (hf : p.fits d = true) :
    s.TypeIs v (tyP2 p) ∧ ∀ a, v = .ref a → ∃ ob, s.heap.get? a = some ob ∧ ob.dict = none := by
  cases p <;> cases d <;> simp only [P.fits] at hf <;> try (cases hf; done)
  · simp only [Rep] at h
    obtain ⟨b, o, vs, rfl, g1, g2⟩ := h
    exact tyV_is I rx (T := "list") (Or.inl ⟨rfl, vs, .inl (.inr ⟨o, g1⟩)⟩)
  · simp only [Rep] at h
    obtain ⟨b, o, kvs, rfl, g1, g2⟩ := h
    cases rx
    obtain ⟨t1, t2, _⟩ := isD_at I (.inl ⟨kvs, .inr ⟨o, g1⟩⟩)
    exact ⟨t1, t2⟩
  · obtain ⟨rfl, _⟩ := h
    exact tyV_is I rx (T := "str") rfl
def tMth (T : Tbl) (XR : Hp → Nat → List D → Value → Option Addr → Prop) (W : WX) (p : P) (a : E) (es : List E) : TE := fun σ H Q => den T XR W a σ H fun x H1 => (∃ d, Rep H1 d x ∧ p.fits d = true) ∧ tL T XR W es σ H1 fun xs H2 => rm Old p x xs H2 Q
theorem mthGo {p : P} {as : List E} {σ : L2.St} {H : Hp} {Q : VK} (hn : (as.all fun a => a.isOwn.isNone) = true) (h : den T XR W (.mth p a as) σ H Q) : tMth T XR W p a as σ H Q := by
  obtain ⟨F, st, I, h⟩ := h
  simp only [ev] at h
  refine ⟨F, st, I, h.bind fun d s0 H0 _ p0 I0 q v rv => ?_⟩
  split at q
  · rename_i hf
    refine ⟨⟨d, rv, hf⟩, args as s0 H0 _ I0 (q.bind fun ds s1 H1 _ p1 I1 q us ru => ⟨d, ds, Rd.of (Rep.pers p1 _ _ rv), ru.rep hn, hf, ?_⟩)⟩
    unfold ofOpt at q
    split at q
    · rename_i r er
      exact ⟨r, er, fun v H' sm rr => q H' (Pers.of_same sm) (I1.same sm) v rr⟩
    · exact q.elim
  · exact q.elim
theorem s_mth {p : P} {id : String} {name : Str} {o : Expr} {apos : Pos} {as : List E} {es : List Expr} (hm : MtR X id (rm Old p)) (pa : PlainAttrs (tyP2 p)) (slot : PySem.Slot (tyP2 p) name id) (hty : typeOf (.builtin id) = pure (.type "method_descriptor"))
    (ho : PE X o (den T XR W a)) (hr : recvE o = true) (hn : (as.all fun a => a.isOwn.isNone) = true) (h : All2 X T XR W as es) (hline : (apos.endLine == pos.line) = true) (hl : es.length < 30) : PE X (.Call (.Attribute o name apos) es [] pos) (den T XR W (.mth p a as)) := by
  have hp := h.plain
  have hpa := h.pa
  cases h with
  | nil =>
    refine ⟨fun pins s σ H Q I w => wpAny_Call_method0_late (base_plain hr _ _) hline (thn (ho.run pins s σ H _ I (mthGo hn w)) fun v s1 ⟨x, H1, I1, r1, ⟨d, g1, g2⟩, q⟩ => ?_)⟩
    obtain ⟨t1, t2⟩ := fits_ty I1 r1 g1 g2
    exact ⟨_, id, pa, slot, hty, t1, t2, Calls.callWith_builtin rfl (PySem.evalArgs_none (hm pins s1 σ H1 x [] v [] Q I1 r1 .nil q))⟩
  | cons h1 h2 h3 =>
    have hp' := hp
    rw [List.all_cons, Bool.and_eq_true] at hp'
    have he := star_cons hp'.1
    refine ⟨fun pins s σ H Q I w => wpAny_Call_method_late (base_plain hr _ _) (star_few hp hl) hline rfl (thn (ho.run pins s σ H _ I (mthGo hn w)) fun v s1 ⟨x, H1, I1, r1, ⟨d, g1, g2⟩, q⟩ => ?_)⟩
    obtain ⟨t1, t2⟩ := fits_ty I1 r1 g1 g2
    refine ⟨_, id, pa, slot, hty, t1, t2, ?_⟩
    have run := hpa.run pos pins s1 σ H1 _ I1 q
    rw [he] at run ⊢
    refine Calls.callWith_builtin ?_ (Calls.evalArgs_plain (thn run fun us s2 ⟨vs, H2, I2, r2, q2⟩ => hm pins s2 σ H2 x vs v us Q I2 r1 r2 q2))
    show (false || (backTo pos (starEach _ X.env)).any (·.1)) = false
    rw [star_none hp'.2]; rfl
/-! ### two comparisons in a row -/
theorem chainGo {p q : P} {σ : L2.St} {H : Hp} {Q : VK} (h : den T XR W (.chain p q a b c) σ H Q) : tChain (r2 Old p) (r2 Old q) (den T XR W a) (den T XR W b) (den T XR W c) σ H Q := by
  obtain ⟨F, st, I, w⟩ := h
  simp only [ev] at w
  refine ⟨F, st, I, w.bind fun d1 s1 H1 _ p1 I1 w1 v1 r1 => ⟨F, s1, I1, w1.bind fun d2 s2 H2 _ p2 I2 w2 v2 rr2 => ?_⟩⟩
  have r1' := Rep.pers p2 _ _ r1
  split at w2
  · rename_i e
    refine ⟨d1, d2, Rd.of r1', Rd.of rr2, _, e, fun v H' sm rv => ⟨true, rv, ?_⟩⟩
    rw [if_pos rfl]
    refine ⟨F, s2, I2.same sm, (w2.weak (Pers.of_same sm)).bind fun d3 s3 H3 _ p3 I3 w3 v3 r3 => ?_⟩
    unfold ofOpt at w3
    split at w3
    · rename_i d e3
      exact ⟨d2, d3, Rd.of (Rep.pers p3 _ _ (Rep.pers (Pers.of_same sm) _ _ rr2)), Rd.of r3, d, e3, fun v H' sm rv => w3 H' (Pers.of_same sm) (I3.same sm) v rv⟩
    · exact w3.elim
  · rename_i e
    refine ⟨d1, d2, Rd.of r1', Rd.of rr2, _, e, fun v H' sm rv => ⟨false, rv, ?_⟩⟩
    rw [if_neg (by decide)]
    exact w2 H' (Pers.of_same sm) (I2.same sm) _ rfl
  · exact w2.elim
theorem s_chain {p q : P} {o1 o2 : CmpOp} (h1 : OpR X (compareOp o1) (r2 New p)) (h2 : OpR X (compareOp o2) (r2 New q)) (ha : PE X ea (den T XR W a)) (hb : PE X eb (den T XR W b)) (hc : PE X ec (den T XR W c)) (hp : plainE ec = true) :
    PE X (.Compare ea [o1, o2] [eb, ec] pos) (den T XR W (.chain p q a b c)) :=
  peOf (pe_chain (OpR.froze h1) (OpR.froze h2) ha hb hc (by show behindInMarks o2 ec = false; exact mark_plain hp _)) fun σ H Q w => chainGo w
end
end Rf

set_option Elab.async false
set_option linter.all false
set_option maxRecDepth 100000
set_option maxHeartbeats 4000000
namespace Rf
open PySem PySem.Spec PyProof.Rows L2

section
variable {X : Cx} {T : Tbl} {XR : Hp → Nat → List D → Value → Option Addr → Prop} {W : WX} {a b c m : E} {ea eb ec e : Expr} {pos : Pos}
/-! ### slices with a step -/
theorem rev_pick {α : Type} (xs : List α) : ((List.range xs.length).filterMap fun (m : Nat) => xs[((xs.length : Int) - 1 + (m : Int) * (-1)).toNat]?) = xs.reverse := by
  have gen : ∀ k, k ≤ xs.length → ((List.range k).filterMap fun (m : Nat) => xs[((xs.length : Int) - 1 + (m : Int) * (-1)).toNat]?) = xs.reverse.take k := by
    intro k
    induction k with
    | zero => intro _; simp
    | succ k ih =>
      intro hk
      rw [List.range_succ, List.filterMap_append, ih (by omega), List.take_add_one]
      congr 1
      have e : ((xs.length : Int) - 1 + (k : Int) * (-1)).toNat = xs.length - 1 - k := by omega
      rw [List.getElem?_reverse (by omega)]
      simp only [List.filterMap_cons, List.filterMap_nil, e]
      cases xs[xs.length - 1 - k]? <;> rfl
  rw [gen _ (Nat.le_refl _), List.take_of_length_le (by simp)]
theorem applied_rev {prog : Program} {w : World} {A : Around} {E : Value → Shared → Prop} {s : Shared} {sl : Addr} {n : Nat} {vs : Value} {Q : Int × Int × Nat → Shared → Prop} (hs : s.heap.IsSliceOf sl .none .none vs) (ps : IsPart vs (some (-1)))
    (h : Q ((n : Int) - 1, -1, n) s) : wpAny (model prog w) A (Builtin.Slice.sliceApplied (.ref sl) (pure (n : Int))) Q E s := by
  obtain ⟨os, hos, hcs, hds⟩ := hs
  unfold Builtin.Slice.sliceApplied Builtin.Slice.sliceFields
  refine wpAny_bind (wpAny_bind (wpAny_field hos hds (x := .none) rfl (wpAny_bind (wpAny_field hos hds (x := .none) rfl (wpAny_bind (wpAny_field hos hds (x := vs) rfl (wpAny_pure ?_)))))))
  refine wpAny_bind (HT.slicePart_ ps ?_)
  show wpAny _ _ (if ((-1 : Int) == 0) = true then _ else _) _ _ s
  rw [if_neg (by decide)]
  refine wpAny_bind (HT.slicePart_ .none (wpAny_bind (HT.slicePart_ .none (wpAny_bind (wpAny_pure (wpAny_pure ?_))))))
  have e1 : Builtin.Slice.sliceAdjust none none (-1) (n : Int) = ((n : Int) - 1, -1) := by
    unfold Builtin.Slice.sliceAdjust
    simp
  have e2 : Builtin.Slice.slicePlaces ((n : Int) - 1) (-1) (-1) = n := by
    unfold Builtin.Slice.slicePlaces
    simp
    omega
  show Q ((Builtin.Slice.sliceAdjust none none (-1) (n : Int)).1, -1, Builtin.Slice.slicePlaces (Builtin.Slice.sliceAdjust none none (-1) (n : Int)).1 (Builtin.Slice.sliceAdjust none none (-1) (n : Int)).2 (-1)) s
  rw [e1]
  show Q ((n : Int) - 1, -1, Builtin.Slice.slicePlaces ((n : Int) - 1) (-1) (-1)) s
  rw [e2]
  exact h
theorem tuple_rev {prog : Program} {w : World} {A : Around} {E : Value → Shared → Prop} {s : Shared} {t sl : Addr} {items : Array Value} {vs : Value} {Q : Value → Shared → Prop} (ht : IsTup s.heap t items) (hs : s.heap.IsSliceOf sl .none .none vs) (ps : IsPart vs (some (-1)))
    (h : Q (.ref s.heap.objs.size) { s with heap := s.heap.push { cls := .type "tuple", data := .seq items.toList.reverse.toArray } }) (hsz : items.size ≤ sizeLine) : wpAny (model prog w) A (getItem (.ref t) (.ref sl)) Q E s := by
  have fits : sizeOk (.seq items.toList.reverse.toArray) := by
    show items.toList.reverse.toArray.size ≤ sizeLine
    simpa using hsz
  obtain ⟨os, hos, hcs, hds⟩ := id hs
  have isl : s.TypeIs (.ref sl) "slice" := ⟨os, hos, hcs⟩
  have pk : ((List.range items.size).filterMap fun (m : Nat) => items[((items.size : Int) - 1 + (m : Int) * (-1)).toNat]?).toArray = items.toList.reverse.toArray := by
    have := rev_pick items.toList
    rw [Array.length_toList] at this
    rw [← this]
    simp
  unfold getItem
  refine wpAny_holding ?_
  refine wpAny_bind (wpAny_sequenceKey ht.typeIs (by decide) ?_)
  have sl_ := PyProof.Rows.slot_tuple_getitem
  refine wpAny_bind (wpAny_callSpecial?_slot (name := Str.ofString "__getitem__") ht.typeIs sl_ (wpAny_call_entry sl_ ht.typeIs entry_tuple_getitem ?_ (args_tuple_getitem _ _)))
  show wpAny (model prog w) _ (Builtin.Tuple.tupleItemsOf (.ref t) >>= _) _ E s
  refine wpAny_bind (tupleItemsOf_ (prog := prog) (w := w) ht ?_)
  refine wpAny_bind (wpAny_typeOf isl ?_)
  rw [if_pos (by decide)]
  refine wpAny_bind (applied_rev hs ps ?_)
  have no : ¬ (((((items.size : Int) - 1) == 0 && (-1 : Int) == 1 && items.size == items.size)) = true) := by simp
  show wpAny _ _ (if ((((items.size : Int) - 1) == 0 && (-1 : Int) == 1 && items.size == items.size)) = true then _ else _) _ _ s
  rw [if_neg no, pk]
  first
    | exact wpAny_bind (m := Builtin.Tuple.tupleExact _) (wpAny_newObj_type (wpAny_pure ⟨_, rfl, wpAny_pure h⟩) fits)
    | exact wpAny_bind (wpAny_bind (m := Builtin.Tuple.tupleExact _) (wpAny_newObj_type (wpAny_pure ⟨_, rfl, wpAny_pure h⟩) fits))
theorem RepL.pick {H : Hp} {ds : List D} {vs : List V} (r : RepL H ds vs) : ∀ is : List Nat, RepL H (is.filterMap (ds[·]?)) (is.filterMap (vs[·]?))
  | [] => by simp [RepL]
  | i :: is => by
    have ih := RepL.pick r is
    rw [List.filterMap_cons, List.filterMap_cons]
    cases e : ds[i]? with
    | none =>
      have : vs[i]? = none := by rw [List.getElem?_eq_none_iff] at e ⊢; have := r.len; omega
      rw [this]; exact ih
    | some d =>
      obtain ⟨v, e2, h⟩ := r.get e
      rw [e2]
      simp only [RepL]
      exact ⟨_, _, rfl, h, ih⟩
theorem vals_pick {vs : List V} {us : List Value} (r : Vals vs us) : ∀ is : List Nat, Vals (is.filterMap (vs[·]?)) (is.filterMap (us[·]?))
  | [] => .nil
  | i :: is => by
    have ih := vals_pick r is
    rw [List.filterMap_cons, List.filterMap_cons]
    cases e : vs[i]? with
    | none => rw [r.none_of e]; exact ih
    | some d =>
      obtain ⟨v, e2, h⟩ := r.get e
      rw [e2]
      exact .cons h ih
theorem vals_rev : ∀ {vs : List V} {us : List Value}, Vals vs us → Vals vs.reverse us.reverse
  | _, _, .nil => .nil
  | _, _, .cons h t => by
    rw [List.reverse_cons, List.reverse_cons]
    exact (vals_rev t).append (.cons h .nil)
theorem st_step {pins : List (Addr × Obj)} {s : Shared} {σ : L2.St} {H : Hp} {x : V} {v vl vs : Value} {lo : Option Int} {k : Int} {sl : Addr} {Q : VK} {d : D} (I : Inv X pins σ H s) (rx : RelV x v) (hs : s.heap.IsSliceOf sl vl .none vs) (pl : IsPart vl lo) (ps : IsPart vs (some k))
    (h : Rd H d x) (g : Got New H (stpD d lo k) Q) : ∃ T id, typeLookup (.type T) "__getitem__" = pure (some (.builtin id)) ∧ s.TypeIs v T ∧ wpAny (model X.prog X.w) X.A (getItem v (.ref sl)) (EP X pins σ Q) X.xe s := by
  obtain ⟨r, hr, kk⟩ := g
  cases d <;> simp only [stpD] at hr <;> try (cases hr; done)
  · rename_i z
    split at hr
    · rename_i hc
      obtain ⟨rfl, rfl⟩ := hc
      cases hr
      simp only [Rd, Rep] at h
      obtain ⟨b, ws, rfl, g1, g2⟩ := h
      cases rx
      cases pl
      obtain ⟨us, rv, p, hz⟩ := I.tuple (SqT.of g1)
      have hp := I.fresh
      have sm := same_upd (o := .tup ws.reverse) hp
      refine ⟨"tuple", _, PyProof.Rows.slot_tuple_getitem.lookup, p.typeIs, tuple_rev p hs ps ?_ (by rw [List.size_toArray, ← rv.length]; exact hz)⟩
      refine ⟨.ref _, _, I.laid (t' := s.toks) (o := .tup ws.reverse) (fun _ _ q => Heap.get?_push_of_some _ q) (Nat.le_refl _) ⟨by rw [List.length_reverse]; exact hz, us.reverse, ?_, ?_⟩, rfl, kk _ _ sm ?_⟩
      · exact vals_rev rv
      · exact IsTup.new s.heap _
      · simp only [New, Rep]
        exact ⟨_, _, rfl, upd_same, RepL.pers (Pers.of_same sm) _ _ g2.reverse⟩
    · cases hr
  · rename_i z
    split at hr
    · rename_i hk
      cases hr
      obtain ⟨b, ws, rfl, g1, g2⟩ := h
      cases rx
      obtain ⟨its, rv, ht, hz⟩ := I.list (X := X) (show SqL X.K H b ws from .inl g1)
      have hp := I.fresh
      have lz := g2.len
      have lv := rv.length
      have e1 : stpL ws lo k = ((sliceRange (sliceBounds lo none (some k) z.length).1 (sliceBounds lo none (some k) z.length).2.1 (sliceBounds lo none (some k) z.length).2.2).filterMap (ws[·]?)) := by unfold stpL; rw [lz]
      have e2 : (slicePick its.toArray lo none (some k)).toList = ((sliceRange (sliceBounds lo none (some k) z.length).1 (sliceBounds lo none (some k) z.length).2.1 (sliceBounds lo none (some k) z.length).2.2).filterMap (its[·]?)) := by
        unfold slicePick
        simp [lz, lv]
      have rr : RepL H (stpL z lo k) (stpL ws lo k) := by
        rw [e1]
        exact g2.pick _
      have vv : Vals (stpL ws lo k) (slicePick its.toArray lo none (some k)).toList := by
        rw [e1, e2]
        exact vals_pick rv _
      have sm := same_upd (o := .lst (stpL ws lo k)) hp
      refine ⟨"list", _, PySem.slot_list_getitem.lookup, ht.isList.typeIs, ?_⟩
      refine wpAny_getItem_list_slice ht.isList hs pl .none ps (by simpa using hk.1) ?_ (by rw [List.size_toArray, ← lv]; exact hz)
      refine ⟨.ref _, _, I.laid (t' := s.toks) (o := .lst (stpL ws lo k)) (fun _ _ q => Heap.get?_push_of_some _ q) (Nat.le_refl _) ⟨?_, _, 0, vv, Heap.get?_push_size _ rfl⟩, rfl, kk _ _ sm ⟨_, _, rfl, hp, upd_same, RepL.pers (Pers.of_same sm) _ _ rr⟩⟩
      rw [← rr.len, sz_big]; exact hk.2
    · cases hr
def stepE (k : Int) : Expr → Bool
  | .Constant (.int i) _ _ => i == k
  | .UnaryOp .USub (.Constant (.int i) _ _) _ => -i == k
  | _ => false
theorem step_po {k : Int} {es : Expr} (h : stepE k es = true) : PO X (some es) (fun _ H Q => Q (some k) H) := by
  unfold stepE at h
  split at h
  · rename_i i j p
    obtain rfl := eq_of_beq h
    exact ⟨fun pins s σ H Q I w => (po_some (pe_int (X := X) (i := i) (j := j) (pos := p))).run pins s σ H Q I ⟨i, rfl, w⟩⟩
  · rename_i i j p p2
    obtain rfl := eq_of_beq h
    have un : PO X (some (.UnaryOp .USub (.Constant (.int i) j p) p2)) (tPart (tUn (rU fun i => .int (-i)) (tC (.int i)))) := po_some (pe_un un_neg pe_int)
    exact ⟨fun pins s σ H Q I w => un.run pins s σ H Q I ⟨i, rfl, -i, rfl, w⟩⟩
  · cases h
theorem n_stp {lo : List E} {elo : Option Expr} {es : Expr} {k : Int} {p2 : Pos} (ha : PE X ea (tE T XR W a)) (hl : PO X elo (tP T XR W lo)) (hk : stepE k es = true) : PE X (.Subscript ea (.Slice elo none (some es) p2) pos) (denN T XR W (.stp a lo k)) := by
  refine ⟨fun pins s σ H Q I0 ⟨F, st, I, h⟩ => ?_⟩
  simp only [ev] at h
  have go : tE T XR W a σ H fun x H1 => tP T XR W lo σ H1 fun o H2 => ∃ d, Rd H2 d x ∧ Got New H2 (stpD d o k) Q := by
    refine arg1 (f := fun st => evp T lo st) (g := fun d o => stpD d o k) (R := fun d H1 => ∀ v H', Same H1 H' → New H1 H' d v → Q v H') I h fun x H1 s1 p I1 q => ?_
    refine part_go I1 (q.mono fun o s2 H2 _ p2 I2 q2 => ?_)
    obtain ⟨d, h1, r, er, s4, I4, kk⟩ := q2
    exact ⟨d, h1, r, er, fun v H' sm nw => kk H2 (Pers.refl _) I4 v H' sm nw⟩
  refine Subscript_ (thn (ha.run pins s σ H _ I0 go) fun v s1 ⟨x, H1, I1, r1, q1⟩ => ?_)
  refine wpAny_Slice (thn (hl.run pins s1 σ H1 _ I1 q1) fun vl s2 ⟨l, H2, I2, pl, q2⟩ => ?_)
  refine thn ((po_none (X := X)).run pins s2 σ H2 (fun o H3 => o = none ∧ H3 = H2) I2 ⟨rfl, rfl⟩) fun vu s3 ⟨u, H3, I3, pu, eu, e3⟩ => ?_
  subst eu e3
  cases pu
  refine thn ((step_po hk).run pins s3 σ H3 (fun o H4 => o = some k ∧ H4 = H3) I3 ⟨rfl, rfl⟩) fun vs s4 ⟨o, H4, I4, ps, eo, e4⟩ => ?_
  subst eo e4
  obtain ⟨d, hd, g⟩ := q2
  have I5 : Inv X pins σ H4 { s4 with heap := s4.heap.push { cls := .type "slice", data := .fields #[vl, .none, vs] } } := I4.kept (t' := s4.toks) fun b ob q => Heap.get?_push_of_some _ q
  obtain ⟨T', id, hT, ht, hg⟩ := st_step I5 r1 (Heap.IsSliceOf.new ..) pl ps hd g
  show wpAny (model X.prog X.w) X.A (subscriptTail ea (.Slice elo none (some es) p2) v (.ref s4.heap.objs.size)) (EP X pins σ Q) X.xe _
  exact tail_any (ops := [v, .ref s4.heap.objs.size]) ht hT hg (by with_unfolding_all rfl)
end
end Rf

set_option Elab.async false
set_option linter.all false
set_option maxRecDepth 100000
set_option maxHeartbeats 4000000
namespace Rf
open PySem PySem.Spec PyProof.Rows L2

/-! ### enumerate over a tuple -/
theorem meets_enum1 {v : Value} {o : Obj} {H : Heap → Prop} (B : Begins v o H) :
    Meets (Builtin.«enumerate.__new__» ⟨[.type "enumerate", v], []⟩) (fun _ R s => H s.heap ∧
      R (.ok (.ret (.ref (s.heap.push o).objs.size))) { s with heap := (s.heap.push o).push { cls := .type "enumerate", data := .fields #[.none, .bool false, .ref s.heap.objs.size, rawInt 0, .none, .none] } }) :=
  .of_wp fun prog w A R s h => by
    obtain ⟨hp, g, d, tk, os⟩ := s
    obtain ⟨h1, h⟩ := h
    have hsub := sub_enumerate
    have q1 : ∀ {A' : Around} {E : Value → Shared → Prop} {Q : Value → Shared → Prop}, Q (.ref hp.objs.size) ⟨hp.push o, g, d, tk, os⟩ → wpAny (model prog w) A' (pyIter v) Q E ⟨hp, g, d, tk, os⟩ :=
      fun q => B.iter prog w _ _ ⟨hp, g, d, tk, os⟩ _ h1 q
    wp_walk using q1
    refine wpAny_stack_any fun st => wpAny_pure ?_
    split
    · rename_i c _ _ _ _ _
      cases (c == Value.type "enumerate") <;> (wp_walk using q1; exact ⟨_, rfl, h⟩)
    · wp_walk using q1
      exact ⟨_, rfl, h⟩
section
variable {prog : Program} {w : World} {A : Around} {E : Value → Shared → Prop} {s : Shared}
theorem enum1_begins {v : Value} {o : Obj} {H : Heap → Prop} {Q : Value → Shared → Prop} (B : Begins v o H) (h1 : H s.heap)
    (h : ∀ h', IsEnum h' (s.heap.objs.size + 1) s.heap.objs.size 0 .none → h'.get? s.heap.objs.size = some o → h'.objs.size = s.heap.objs.size + 2 →
      (∀ b o, s.heap.get? b = some o → h'.get? b = some o) → Q (.ref (s.heap.objs.size + 1)) { s with heap := h' }) :
    wpAny (model prog w) A (call (.type "enumerate") [v]) Q E s := by
  refine callType_new F.called_enumerate (by decide) (F.typeCall_enumerate_1 _) (F.newCall_enumerate_1 _) (fun obj => F.args_object_init_2 obj _) F.entry_enumerate_new (meets_enum1 B) ⟨h1, ?_⟩
  have hz : (s.heap.push o).objs.size = s.heap.objs.size + 1 := Heap.size_push ..
  show _ ∧ _
  rw [hz]
  have he : IsEnum ((s.heap.push o).push { cls := .type "enumerate", data := .fields #[.none, .bool false, .ref s.heap.objs.size, rawInt 0, .none, .none] }) (s.heap.objs.size + 1) s.heap.objs.size 0 .none := by
    have := Heap.get?_push_size (s.heap.push o) (o := { cls := .type "enumerate", data := .fields #[.none, .bool false, .ref s.heap.objs.size, rawInt 0, .none, .none] }) rfl
    rw [hz] at this
    exact this
  exact ⟨⟨_, he, rfl⟩, h _ he (Heap.get?_push_of_some _ (Heap.get?_push_size _ B.free)) (by rw [Heap.size_push, hz]) fun b o x => Heap.get?_push_of_some _ (Heap.get?_push_of_some _ x)⟩
end
/-- the tuple at a, each item in a new pair behind its number -/
def IteT (K : PySem.W.Frag) (a : Addr) : It :=
  ⟨fun i H => ∃ (xs : List V) (x : V), SqT K H a xs ∧ xs[i]? = some x ∧ H a = some (.tup xs), fun i H v H' => ∃ T x, v = .ref T ∧ H T = none ∧ H' = upd H T (.tup [.int (i : Nat), x]) ∧ ∀ xs, SqT K H a xs → xs[i]? = some x, fun i H => ∃ xs : List V, SqT K H a xs ∧ xs.length = i ∧ H a = some (.tup xs)⟩
theorem turn_enumT {P : Program} {w : World} {K : PySem.W.Frag} {elts : List Expr} {kk : Nat} {tpos : Pos} (a e it : Addr) :
    Turn P w K (.Tuple elts kk tpos) (IteT K a) [e, it] e (fun i h => (∃ old, IsEnum h e it ((i : Nat) : Int) old) ∧ h.IsTupleIter it a i ∧ e ≠ it) where
  mem := by simp
  obj := fun i h st b hb => by
    obtain ⟨⟨old, he⟩, ⟨o, ho, hc, hd⟩, _⟩ := st
    have e' : b = e ∨ b = it := by simpa using hb
    rcases e' with z | z
    · rw [z]; exact ⟨_, he, fun v q => nomatch q⟩
    · rw [z]; exact ⟨o, ho, fun v q => by rw [hd] at q; cases q⟩
  keep := fun i h h' st k => let ⟨⟨old, he⟩, hi, hne⟩ := st; ⟨⟨old, k e (by simp) _ he⟩, hi.at fun o q => k it (by simp) o q, hne⟩
  item := by
    intro X hP hw hK hc i pins s σ H E I hf st hg
    subst hP hw hK
    obtain ⟨⟨old, he⟩, hit, hne⟩ := st
    obtain ⟨xs, x, hq, hx, hHa⟩ := hg
    obtain ⟨its, rv, p, hz⟩ := I.tuple hq
    obtain ⟨u, hu, ru⟩ := rv.get hx
    have hel : e < s.heap.objs.size := Heap.lt_size he
    have hil : it < s.heap.objs.size := by obtain ⟨_, q, _⟩ := hit; exact Heap.lt_size q
    have nea : e ≠ a := fun z => by have := (hf e (by simp)).1; rw [z, hHa] at this; cases this
    have nia : it ≠ a := fun z => by have := (hf it (by simp)).1; rw [z, hHa] at this; cases this
    have ip : s.heap.IsTuple a its.toArray := p
    have hlt : i < its.toArray.size := by
      have := (List.getElem?_eq_some_iff.mp hu).1
      simpa using this
    refine wpAny_pyNext_enum_itemD (Draws.tuple (A := X.A.in1) (I.ok.hd hc) it a (Ne.symm nia) its.toArray) he ⟨hit, ip⟩ hlt hne (by simp [hne, nea]) fun y h' tk hy ho hst' hT hsz hk => ?_
    obtain rfl : y = u := by
      have : its.toArray[i]? = some y := hy
      rw [List.getElem?_toArray, hu] at this
      exact (Option.some.inj this).symm
    obtain ⟨hit', ip'⟩ := hst'
    refine ⟨_, rfl, wpAny_letOwnedTupleGo_enum (s := { s with heap := h', toks := tk + 1 }) ho fun h'' he' sb => ?_⟩
    have hT2 : h''.get? s.heap.objs.size = some { cls := .type "tuple", data := .seq #[.int i tk, y] } := (sb.2 _ (Nat.ne_of_gt hel)).trans hT
    have new : ObjOk X.prog X.w (upd H s.heap.objs.size (.tup [.int (i : Nat), x])) h'' s.heap.objs.size (.tup [.int (i : Nat), x]) :=
      ⟨by show 2 ≤ sizeLine; decide, [.int i tk, y], .cons ⟨_, rfl⟩ (.cons ru .nil), ⟨_, hT2, rfl, _, rfl⟩⟩
    have I1 : Inv X pins σ (upd H s.heap.objs.size (.tup [.int (i : Nat), x])) { s with heap := h'', toks := tk + 1 } :=
      I.turnedNew (ch := [e, it]) (fun b ob hb q => (sb.2 b (fun z => hb (by simp [z]))).trans (hk b ob (fun z => hb (by simp [z])) (fun z => hb (by simp [z])) q)) hf (Nat.le_refl _) new
    refine ⟨.ref s.heap.objs.size, _, I1, rfl, ⟨_, x, rfl, I.hok.fresh (Nat.le_refl _), rfl, fun ys hy => by rw [I.tuple_inj hy hq]; exact hx⟩, ⟨⟨y, ?_⟩, hit'.at fun o q => (sb.2 it (Ne.symm hne)).trans q, hne⟩, fun b hb => ?_⟩
    · have e1 : ((i + 1 : Nat) : Int) = (i : Int) + 1 := by omega
      rw [e1]; exact he'
    · have hb' : b < s.heap.objs.size := by
        have e' : b = e ∨ b = it := by simpa using hb
        rcases e' with z | z
        · rw [z]; exact hel
        · rw [z]; exact hil
      rw [upd_ne (Nat.ne_of_lt hb')]
      exact (hf b hb).1
  done := by
    intro X hP hw hK hc i pins s σ H E I hf st hg
    subst hP hw hK
    obtain ⟨⟨old, he⟩, hit, hne⟩ := st
    obtain ⟨xs, hq, hx, hHa⟩ := hg
    obtain ⟨its, rv, p, hz⟩ := I.tuple hq
    obtain ⟨f0, f1, f2, f3, f4, f5⟩ := hf it (by simp)
    have hl := rv.length
    have ip : s.heap.IsTuple a its.toArray := p
    have nia : it ≠ a := fun z => by rw [z, hHa] at f0; cases f0
    have hi : i = its.toArray.size := by
      rw [List.size_toArray, ← hl, hx]
    subst hi
    exact wpAny_pyNext_enum_endD (Draws.tuple (A := X.A.in1) (I.ok.hd hc) it a (Ne.symm nia) its.toArray) he ⟨hit, ip⟩ fun h' eb => ⟨rfl, I.turned (t' := s.toks) (fun b o hb q => eb b o hb q) f0 f1 f3 f4 f5⟩
  self := fun A i s Q E st h => let ⟨⟨_, he⟩, _⟩ := st; wpAny_pyIter_enum he h
end Rf

set_option Elab.async false
set_option linter.all false
set_option maxRecDepth 100000
set_option maxHeartbeats 4000000
namespace Rf
open PySem PySem.Spec PyProof.Rows L2

/-! ### targets -/
mutual
def Pat.vars : Pat → List Nat
  | .nm i => [i]
  | .tp ps => varsL ps
def varsL : List Pat → List Nat
  | [] => []
  | p :: ps => p.vars ++ varsL ps
end
mutual
def patG (K : PySem.W.Frag) : Pat → TG
  | .nm i => gName i
  | .tp ps => gTup K ps.length (patGs K ps)
def patGs (K : PySem.W.Frag) : List Pat → TGs
  | [] => gNil
  | p :: ps => gCons (patG K p) (patGs K ps)
end
theorem SI.put {F : Fx} {σ : L2.St} {st : Sx} {H : Hp} {i : Nat} {x : Slot} {v : V} (I : SI F σ st H) (hi : i < st.r.length) (hx : SlotRep F.l H x (some v)) (no : ∀ z, x ≠ .own z) : SI F (σ.set i (some v)) ⟨st.r.set i x, st.g⟩ H := by
  have hσ : i < σ.length := by
    obtain ⟨y, h, _⟩ := I.slot i _ (List.getElem?_eq_getElem hi)
    exact (List.getElem?_eq_some_iff.mp h).1
  have ne : ∀ {j : Nat} {z : List D}, (st.r.set i x)[j]? = some (.own z) → i ≠ j ∧ st.r[j]? = some (.own z) := by
    intro j z h
    by_cases hj : i = j
    · subst hj
      rw [List.getElem?_set_self hi] at h
      cases h
      exact absurd rfl (no z)
    · rw [List.getElem?_set_ne hj] at h
      exact ⟨hj, h⟩
  refine ⟨fun j y h => ?_, fun j k y z a h1 h2 h3 h4 => ?_, fun j y a h1 h2 => ?_, I.keep, I.glen, I.glob, I.gone, I.hid, I.hfr⟩
  · by_cases hj : i = j
    · subst hj
      rw [List.getElem?_set_self hi] at h
      cases h
      exact ⟨_, List.getElem?_set_self hσ, hx⟩
    · rw [List.getElem?_set_ne hj] at h ⊢
      exact I.slot j y h
  · obtain ⟨n1, g1⟩ := ne h1
    obtain ⟨n2, g2⟩ := ne h2
    rw [List.getElem?_set_ne n1] at h3
    rw [List.getElem?_set_ne n2] at h4
    exact I.one j k y z a g1 g2 h3 h4
  · obtain ⟨n1, g1⟩ := ne h1
    rw [List.getElem?_set_ne n1] at h2
    exact I.fresh j y a g1 h2
theorem wipe_set {σ : L2.St} {i : Nat} {x : Option V} : ∀ {vs : List Nat}, i ∈ vs → wipe (σ.set i x) vs = wipe σ vs
  | [], h => by simp at h
  | w :: vs, h => by
    show (wipe (σ.set i x) vs).set w none = (wipe σ vs).set w none
    by_cases hv : i ∈ vs
    · rw [wipe_set hv]
    · have e : i = w := by
        rcases List.mem_cons.mp h with h | h
        · exact h
        · exact absurd h hv
      subst e
      have out : ∀ {us : List Nat} {τ : L2.St}, i ∉ us → wipe (τ.set i x) us = (wipe τ us).set i x := by
        intro us
        induction us with
        | nil => intro τ _; rfl
        | cons u us ih =>
          intro τ hu
          simp only [List.mem_cons, not_or] at hu
          show (wipe (τ.set i x) us).set u none = ((wipe τ us).set u none).set i x
          rw [ih hu.2, List.set_comm _ _ hu.1]
      rw [out hv, List.set_set]
mutual
theorem bindP_run {K : PySem.W.Frag} {F : Fx} {H : Hp} {g : List Gd} : ∀ (p : Pat) (d : D) (r r' : List Slot) (v : V) (σ : L2.St) (Q : L2.St → Hp → Prop), bindP p d r = some r' → SI F σ ⟨r, g⟩ H → Rep H d v →
    (∀ σ', SI F σ' ⟨r', g⟩ H → (∀ vs, (∀ i ∈ p.vars, i ∈ vs) → wipe σ' vs = wipe σ vs) → Q σ' H) → patG K p v σ H Q
  | .nm i, d, r, r', v, σ, Q, e, I, rd, k => by
    simp only [bindP] at e
    split at e
    · rename_i hi
      cases e
      show Q (σ.set i (some v)) H
      exact k _ (I.put hi ⟨v, rfl, rd⟩ (fun z q => by cases q)) fun vs hv => wipe_set (hv i (by simp [Pat.vars]))
    · cases e
  | .tp ps, d, r, r', v, σ, Q, e, I, rd, k => by
    cases d <;> simp only [bindP] at e <;> try (cases e; done)
    rename_i ds
    simp only [Rep] at rd
    obtain ⟨a, vs, rfl, h1, h2⟩ := rd
    have hl : ps.length = ds.length := bindPs_len ps ds r r' e
    exact ⟨a, vs, rfl, SqT.of h1, by rw [← h2.len, hl], bindPs_run ps ds r r' vs σ Q e I h2 fun σ' I' w => k σ' I' fun us hu => w us (by simpa [Pat.vars] using hu)⟩
theorem bindPs_len : ∀ (ps : List Pat) (ds : List D) (r r' : List Slot), bindPs ps ds r = some r' → ps.length = ds.length
  | [], [], _, _, _ => rfl
  | [], _ :: _, _, _, e => by simp [bindPs] at e
  | _ :: _, [], _, _, e => by simp [bindPs] at e
  | p :: ps, d :: ds, r, r', e => by
    simp only [bindPs] at e
    cases q : bindP p d r with
    | none => rw [q] at e; cases e
    | some r1 =>
      rw [q] at e
      simp only [List.length_cons, bindPs_len ps ds r1 r' e]
theorem bindPs_run {K : PySem.W.Frag} {F : Fx} {H : Hp} {g : List Gd} : ∀ (ps : List Pat) (ds : List D) (r r' : List Slot) (vs : List V) (σ : L2.St) (Q : L2.St → Hp → Prop), bindPs ps ds r = some r' → SI F σ ⟨r, g⟩ H → RepL H ds vs →
    (∀ σ', SI F σ' ⟨r', g⟩ H → (∀ us, (∀ i ∈ varsL ps, i ∈ us) → wipe σ' us = wipe σ us) → Q σ' H) → patGs K ps vs σ H Q
  | [], ds, r, r', vs, σ, Q, e, I, rd, k => by
    cases ds with
    | cons d ds => simp [bindPs] at e
    | nil =>
      simp only [bindPs] at e
      cases e
      simp only [RepL] at rd
      subst rd
      exact ⟨rfl, k σ I fun _ _ => rfl⟩
  | p :: ps, ds, r, r', vs, σ, Q, e, I, rd, k => by
    cases ds with
    | nil => simp [bindPs] at e
    | cons d ds =>
      simp only [bindPs] at e
      cases q : bindP p d r with
      | none => rw [q] at e; cases e
      | some r1 =>
        rw [q] at e
        simp only [RepL] at rd
        obtain ⟨v, us, rfl, h1, h2⟩ := rd
        refine ⟨v, us, rfl, bindP_run p d r r1 v σ _ q I h1 fun σ1 I1 w1 => bindPs_run ps ds r1 r' us σ1 Q e I1 h2 fun σ2 I2 w2 => k σ2 I2 fun ws hw => ?_⟩
        rw [w2 ws fun i hi => hw i (by simp [varsL, hi]), w1 ws fun i hi => hw i (by simp [varsL, hi])]
end
theorem asg_plain {e : Expr} (h : plainE e = true) (es : List Expr) (env : Env) : assignEach (e :: es) env = (false, assign e env) :: assignEach es env := by
  cases e <;> first | rfl | (simp [plainE] at h)
theorem asg_len {env : Env} : ∀ {es : List Expr}, (assignEach es env).length = es.length
  | [] => rfl
  | e :: es => by cases e <;> simp [assignEach, asg_len (es := es)]
theorem asg_none {env : Env} : ∀ {es : List Expr}, es.all plainE = true → (assignEach es env).findIdx? (·.1) = none
  | [], _ => rfl
  | e :: es, h => by
    rw [List.all_cons, Bool.and_eq_true] at h
    rw [asg_plain h.1, List.findIdx?_cons, asg_none h.2]
    rfl

/-! ### what is walked -/
/-- at turn i the iterator hands out the i-th item; behind the last one it stops -/
structure Wk (J : It) (H1 : Hp) (its : List D) : Prop where
  go : ∀ i H d, Pers H1 H → its[i]? = some d → J.go i H ∧ ∀ x H', J.yld i H x H' → Same H H' ∧ Rep H' d x
  stop : ∀ H, Pers H1 H → J.stop its.length H
def iD (T : Tbl) (XR : Hp → Nat → List D → Value → Option Addr → Prop) (W : WX) (k : ItK) (src : List E) : TI := fun σ H R => ∃ F st, SI F σ st H ∧ Post XR W F σ H (evs T src st) fun ds H1 => ∃ its, k.get ds = some its ∧ ∀ J H2, Same H1 H2 → Wk J H2 its → R J H2
theorem rangeD_get : ∀ (n : Nat) (lo : Int) (i : Nat) (d : D), (rangeD lo n)[i]? = some d → i < n ∧ d = .int (lo + i)
  | 0, lo, i, d, h => by simp [rangeD] at h
  | n + 1, lo, 0, d, h => by simp [rangeD] at h; subst h; simp
  | n + 1, lo, i + 1, d, h => by
    simp only [rangeD, List.getElem?_cons_succ] at h
    obtain ⟨h1, h2⟩ := rangeD_get n (lo + 1) i d h
    refine ⟨by omega, ?_⟩
    rw [h2]
    congr 1
    omega
theorem rangeD_len : ∀ (n : Nat) (lo : Int), (rangeD lo n).length = n
  | 0, _ => rfl
  | n + 1, lo => by simp [rangeD, rangeD_len n]
theorem wk_rng {H : Hp} (lo : Int) (n : Nat) : Wk (Itr lo n) H (rangeD lo n) :=
  ⟨fun i H' d _ h => by
    obtain ⟨h1, rfl⟩ := rangeD_get n lo i d h
    refine ⟨h1, fun x H2 ⟨e, ex⟩ => ?_⟩
    subst e ex
    exact ⟨Same.refl _, rfl⟩, fun H' _ => by rw [rangeD_len]; exact Nat.le_refl n⟩
theorem wk_list {K : PySem.W.Frag} {H : Hp} {a : Addr} {o : Obj} {ds : List D} {vs : List V} (h : H a = some (.frz o (.lst vs))) (r : RepL H ds vs) : Wk (Itl K a) H ds := by
  have sq : ∀ {H'}, Pers H H' → SqL K H' a vs := fun p => .inl (.inr ⟨o, p.frz _ _ _ h⟩)
  refine ⟨fun i H' d p e => ?_, fun H' p => ⟨vs, sq p, by rw [r.len]; exact Nat.le_refl _⟩⟩
  obtain ⟨v, q1, q2⟩ := r.get e
  refine ⟨⟨vs, v, sq p, q1⟩, fun x H2 ⟨e2, hx⟩ => ?_⟩
  subst e2
  have := hx vs (sq p)
  rw [q1] at this
  cases this
  exact ⟨Same.refl _, Rep.pers p _ _ q2⟩
theorem wk_tup {K : PySem.W.Frag} {H : Hp} {a : Addr} {ds : List D} {vs : List V} (h : H a = some (.tup vs)) (r : RepL H ds vs) : Wk (Itt K a) H ds := by
  have sq : ∀ {H'}, Pers H H' → SqT K H' a vs := fun p => SqT.of (p.tup _ _ h)
  refine ⟨fun i H' d p e => ?_, fun H' p => ⟨vs, sq p, by rw [r.len]; exact Nat.le_refl _⟩⟩
  obtain ⟨v, q1, q2⟩ := r.get e
  refine ⟨⟨vs, v, sq p, q1⟩, fun x H2 ⟨e2, hx⟩ => ?_⟩
  subst e2
  have := hx vs (sq p)
  rw [q1] at this
  cases this
  exact ⟨Same.refl _, Rep.pers p _ _ q2⟩
theorem wk_str {H : Hp} {x : List Nat} : Wk (Its ⟨x.toArray⟩) H (x.map fun c => .str [c]) := by
  refine ⟨fun i H' d p e => ?_, fun H' p => by show x.toArray.size ≤ _; simp⟩
  rw [List.getElem?_map] at e
  cases q : x[i]? with
  | none => rw [q] at e; cases e
  | some c =>
    rw [q] at e
    cases e
    have hi := (List.getElem?_eq_some_iff.mp q).1
    refine ⟨by show i < x.toArray.size; simpa using hi, fun y H2 ⟨e2, c', ec, ey⟩ => ?_⟩
    subst e2 ey
    have : x.toArray[i]? = some c' := ec
    rw [List.getElem?_toArray, q] at this
    cases this
    exact ⟨Same.refl _, rfl, by rw [sz_big]; show 1 ≤ big; decide⟩
section
variable {X : Cx} {T : Tbl} {XR : Hp → Nat → List D → Value → Option Addr → Prop} {W : WX} {a b c m : E} {ea eb ec e : Expr} {pos : Pos}
theorem piOf {tg e : Expr} {t t' : TI} (h : PI X tg e t) (i : ∀ σ H R, t' σ H R → t σ H R) : PI X tg e t' := ⟨fun pins s σ H R I w => h.run pins s σ H R I (i σ H R w)⟩
theorem evs1 {F : Fx} {σ : L2.St} {H : Hp} {st : Sx} {R : List D → Hp → Prop} (ho : a.isOwn = none) (h : Post XR W F σ H (evs T [a] st) R) : Post XR W F σ H (ev T a st) fun d H' => R [d] H' := by
  rw [evs, ho] at h
  simp only [evs] at h
  exact h.bind fun d s1 H1 _ p I1 q => q H1 (Pers.refl _) I1
theorem it_seq {tg : Expr} (ho : a.isOwn = none) (ha : PE X ea (den T XR W a)) : PI X tg ea (iD T XR W .seq [a]) := by
  refine ⟨fun pins s σ H R I0 ⟨F, st, I, h⟩ => ?_⟩
  have h1 := evs1 ho h
  refine thn (ha.run pins s σ H (fun x H1 => ∃ d its, Rep H1 d x ∧ ItK.seq.get [d] = some its ∧ ∀ J H2, Same H1 H2 → Wk J H2 its → R J H2) I0 ⟨F, st, I, h1.mono fun d s1 H1 _ p I1 ⟨its, q1, q2⟩ v rv => ⟨d, its, rv, q1, q2⟩⟩) fun v s1 ⟨x, H1, I1, r1, d, its, rd, e, k⟩ => ?_
  cases d <;> simp only [ItK.get] at e <;> try (cases e; done)
  · cases e
    simp only [Rep] at rd
    obtain ⟨b, vs, rfl, g1, g2⟩ := rd
    cases r1
    obtain ⟨us, rv, p, hz⟩ := I1.tuple (SqT.of g1)
    refine wpAny_pyIter_tuple (show s1.heap.IsTuple b us.toArray from p) ?_
    refine ⟨s1.heap.objs.size, [s1.heap.objs.size], _, _, H1, rfl, I1.kept (t' := s1.toks) fun b o e => Heap.get?_push_of_some _ e, turn_tuple b _, ⟨_, Heap.get?_push_size _ rfl, rfl, rfl⟩, fun b' hb => ?_, k _ H1 (Same.refl _) (wk_tup g1 g2)⟩
    obtain rfl : b' = s1.heap.objs.size := by simpa using hb
    exact I1.fpOk (Nat.le_refl _) (I1.hok.fresh (Nat.le_refl _))
  · cases e
    simp only [Rep] at rd
    obtain ⟨b, o, vs, rfl, g1, g2⟩ := rd
    cases r1
    obtain ⟨us, rv, p, hz⟩ := I1.list (X := X) (show SqL X.K H1 b vs from .inl (.inr ⟨o, g1⟩))
    refine wpAny_pyIter_list p.isList ?_
    refine ⟨s1.heap.objs.size, [s1.heap.objs.size], _, _, H1, rfl, I1.kept (t' := s1.toks) fun b o e => Heap.get?_push_of_some _ e, turn_list b _, ⟨_, Heap.get?_push_size _ rfl, rfl, rfl⟩, fun b' hb => ?_, k _ H1 (Same.refl _) (wk_list g1 g2)⟩
    obtain rfl : b' = s1.heap.objs.size := by simpa using hb
    exact I1.fpOk (Nat.le_refl _) (I1.hok.fresh (Nat.le_refl _))
theorem it_str {tg : Expr} (ho : a.isOwn = none) (ha : PE X ea (den T XR W a)) : PI X tg ea (iD T XR W .str [a]) := by
  refine piOf (pi_str ha) fun σ H R ⟨F, st, I, h⟩ => ?_
  refine ⟨F, st, I, (evs1 ho h).mono fun d s1 H1 _ p I1 ⟨its, q1, q2⟩ v rv => ?_⟩
  cases d <;> simp only [ItK.get] at q1 <;> try (cases q1; done)
  cases q1
  obtain ⟨rfl, hz⟩ := rv
  exact ⟨_, rfl, q2 _ _ (Same.refl _) wk_str⟩
theorem it_rng1 {tg : Expr} {pp : Pos} (hg : Gl X "range") (hm : X.mg "range" = none) (hp : plainE ea = true) (ho : a.isOwn = none) (ha : PE X ea (den T XR W a)) : PI X tg (.Call (.Name "range" pp) [ea] [] pos) (iD T XR W .rng [a]) := by
  refine piOf (pi_range1 hg hm (pa_cons ha pa_nil (star_cons hp _ _)) (by rw [star_cons hp]; rfl)) fun σ H R ⟨F, st, I, h⟩ => ?_
  refine ⟨F, st, I, (evs1 ho h).mono fun d s1 H1 _ p I1 ⟨its, q1, q2⟩ v rv => ?_⟩
  cases d <;> simp only [ItK.get] at q1 <;> try (cases q1; done)
  rename_i j _ _
  split at q1
  · rename_i hj
    cases q1
    cases rv
    exact ⟨j, rfl, hj.1, hj.2, q2 _ _ (Same.refl _) (wk_rng 0 j.toNat)⟩
  · cases q1
theorem it_rng2 {tg : Expr} {pp : Pos} (hg : Gl X "range") (hm : X.mg "range" = none) (hp : plainE ea = true) (hp2 : plainE eb = true) (ho : a.isOwn = none) (ho2 : b.isOwn = none) (ha : PE X ea (den T XR W a)) (hb : PE X eb (den T XR W b)) :
    PI X tg (.Call (.Name "range" pp) [ea, eb] [] pos) (iD T XR W .rng [a, b]) := by
  have e1 : tE T XR W a = den T XR W a := by unfold tE; rw [ho]
  have e2 : tE T XR W b = den T XR W b := by unfold tE; rw [ho2]
  refine piOf (pi_range2 hg hm (All2.cons (e1 ▸ ha) hp (All2.cons (e2 ▸ hb) hp2 All2.nil)).pa (by rw [star_cons hp, star_cons hp2]; rfl) (by rw [star_cons hp2]; rfl)) fun σ H R ⟨F, st, I, h⟩ => ?_
  refine args [a, b] st H _ I (h.mono fun ds s1 H1 _ p I1 ⟨its, q1, q2⟩ vs rv => ?_)
  have rp := rv.rep (by simp [ho, ho2])
  cases ds with
  | nil => simp only [ItK.get] at q1; cases q1
  | cons d1 ds =>
    cases ds with
    | nil => simp only [RepL] at rp; obtain ⟨_, _, rfl, _, rfl⟩ := rp; obtain ⟨_, _, _, _, e, _, _, _, _, _, _, e', _⟩ := rv; cases e; cases e'
    | cons d2 ds =>
      cases ds with
      | cons d3 ds =>
        simp only [RepL] at rp
        obtain ⟨_, _, rfl, _, _, _, rfl, _, _, _, rfl, _⟩ := rp
        obtain ⟨_, _, _, _, _, e, _, _, _, _, _, _, e', _, _, e3⟩ := rv
        cases e; cases e'; cases e3
      | nil =>
        cases d1 <;> cases d2 <;> simp only [ItK.get] at q1 <;> try (cases q1; done)
        rename_i j k _ _
        split at q1
        · rename_i hj
          cases q1
          simp only [RepL, Rep] at rp
          obtain ⟨_, _, rfl, rfl, _, _, rfl, rfl, rfl⟩ := rp
          exact ⟨j, k, rfl, hj, q2 _ _ (Same.refl _) (wk_rng j (k - j).toNat)⟩
        · cases q1
theorem stepR_get : ∀ (n : Nat) (lo st : Int) (i : Nat) (d : D), (stepR lo st n)[i]? = some d → i < n ∧ d = .int (lo + (i : Nat) * st)
  | 0, lo, st, i, d, h => by simp [stepR] at h
  | n + 1, lo, st, 0, d, h => by simp [stepR] at h; subst h; simp
  | n + 1, lo, st, i + 1, d, h => by
    simp only [stepR, List.getElem?_cons_succ] at h
    obtain ⟨h1, h2⟩ := stepR_get n (lo + st) st i d h
    refine ⟨by omega, ?_⟩
    rw [h2]
    congr 1
    rw [Int.natCast_add, Int.add_mul]
    omega
theorem stepR_len : ∀ (n : Nat) (lo st : Int), (stepR lo st n).length = n
  | 0, _, _ => rfl
  | n + 1, lo, st => by simp [stepR, stepR_len n]
theorem wk_step {H : Hp} (lo st : Int) (n : Nat) : Wk (Itc lo st n) H (stepR lo st n) :=
  ⟨fun i H' d _ h => by
    obtain ⟨h1, rfl⟩ := stepR_get n lo st i d h
    refine ⟨h1, fun x H2 ⟨e, ex⟩ => ?_⟩
    subst e ex
    exact ⟨Same.refl _, rfl⟩, fun H' _ => by rw [stepR_len]; exact Nat.le_refl n⟩
theorem RX3 {H : Hp} {a b c : E} {d1 d2 : D} {vs : List V} (h : RX H [a, b, c] [d1, d2] vs) : False := by
  obtain ⟨_, _, _, _, e, _, _, _, _, _, _, e', _, _, _, _, _, _, e3, _⟩ := h
  cases e; cases e'; cases e3
theorem it_rng3 {tg : Expr} {pp : Pos} (hg : Gl X "range") (hm : X.mg "range" = none) (hp : plainE ea = true) (hp2 : plainE eb = true) (hp3 : plainE ec = true) (ho : a.isOwn = none) (ho2 : b.isOwn = none) (ho3 : c.isOwn = none) (ha : PE X ea (den T XR W a)) (hb : PE X eb (den T XR W b)) (hc : PE X ec (den T XR W c)) :
    PI X tg (.Call (.Name "range" pp) [ea, eb, ec] [] pos) (iD T XR W .rng [a, b, c]) := by
  have e1 : tE T XR W a = den T XR W a := by unfold tE; rw [ho]
  have e2 : tE T XR W b = den T XR W b := by unfold tE; rw [ho2]
  have e3 : tE T XR W c = den T XR W c := by unfold tE; rw [ho3]
  refine piOf (pi_range3 hg hm (All2.cons (e1 ▸ ha) hp (All2.cons (e2 ▸ hb) hp2 (All2.cons (e3 ▸ hc) hp3 All2.nil))).pa (by rw [star_cons hp]) (star_none (by rw [List.all_cons, hp2, List.all_cons, hp3]; rfl))) fun σ H R ⟨F, st, I, h⟩ => ?_
  refine args [a, b, c] st H _ I (h.mono fun ds s1 H1 _ p I1 ⟨its, q1, q2⟩ vs rv => ?_)
  have rp := rv.rep (by simp [ho, ho2, ho3])
  obtain ⟨d1, _, _, _, rfl, rfl, _, d2, _, _, _, rfl, rfl, _, d3, _, _, _, rfl, rfl, _, rfl, rfl⟩ := rv
  cases d1 <;> cases d2 <;> cases d3 <;> simp only [ItK.get] at q1 <;> try (cases q1; done)
  split at q1
  · rename_i hj
    cases q1
    simp only [RepL, Rep] at rp
    obtain ⟨_, _, e, rfl, _, _, e', rfl, _, _, e'', rfl, _⟩ := rp
    cases e; cases e'; cases e''
    exact ⟨_, _, _, _, rfl, ⟨hj.1, hj.2.1, hj.2.2.1, (Int.toNat_of_nonneg hj.2.2.2).symm⟩, q2 _ _ (Same.refl _) (wk_step _ _ _)⟩
  · cases q1
/-! ### enumerate, zip -/
theorem enumD_get : ∀ (xs : List D) (k i : Nat) (d : D), (enumD k xs)[i]? = some d → ∃ x, xs[i]? = some x ∧ d = .tup [.int ((k + i : Nat) : Int), x]
  | [], k, i, d, h => by simp [enumD] at h
  | x :: xs, k, 0, d, h => by simp [enumD] at h; subst h; exact ⟨x, rfl, rfl⟩
  | x :: xs, k, i + 1, d, h => by
    simp only [enumD, List.getElem?_cons_succ] at h
    obtain ⟨y, h1, h2⟩ := enumD_get xs (k + 1) i d h
    exact ⟨y, by simpa using h1, by rw [h2]; congr 3; omega⟩
theorem enumD_len : ∀ (xs : List D) (k : Nat), (enumD k xs).length = xs.length
  | [], _ => rfl
  | x :: xs, k => by simp [enumD, enumD_len xs]
theorem zipD_get : ∀ (xs ys : List D) (i : Nat) (d : D), (zipD xs ys)[i]? = some d → ∃ x y, xs[i]? = some x ∧ ys[i]? = some y ∧ d = .tup [x, y]
  | [], ys, i, d, h => by simp [zipD] at h
  | x :: xs, [], i, d, h => by simp [zipD] at h
  | x :: xs, y :: ys, 0, d, h => by simp [zipD] at h; subst h; exact ⟨x, y, rfl, rfl, rfl⟩
  | x :: xs, y :: ys, i + 1, d, h => by
    simp only [zipD, List.getElem?_cons_succ] at h
    obtain ⟨u, v, h1, h2, h3⟩ := zipD_get xs ys i d h
    exact ⟨u, v, by simpa using h1, by simpa using h2, h3⟩
theorem zipD_len : ∀ (xs ys : List D), (zipD xs ys).length = min xs.length ys.length
  | [], ys => by simp [zipD]
  | x :: xs, [] => by simp [zipD]
  | x :: xs, y :: ys => by simp only [zipD, List.length_cons, zipD_len xs ys]; omega
theorem pair_rep {H : Hp} {T : Addr} {x : V} {n : Int} {d : D} (hT : H T = none) (r : Rep H d x) : Rep (upd H T (.tup [.int n, x])) (.tup [.int n, d]) (.ref T) := by
  have sm := same_upd (o := .tup [.int n, x]) hT
  simp only [Rep, RepL]
  exact ⟨T, _, rfl, upd_same, _, _, rfl, rfl, _, _, rfl, Rep.pers (Pers.of_same sm) _ _ r, rfl⟩
theorem two_rep {H : Hp} {T : Addr} {x y : V} {d e : D} (hT : H T = none) (r : Rep H d x) (r2 : Rep H e y) : Rep (upd H T (.tup [x, y])) (.tup [d, e]) (.ref T) := by
  have sm := same_upd (o := .tup [x, y]) hT
  simp only [Rep, RepL]
  exact ⟨T, _, rfl, upd_same, _, _, rfl, Rep.pers (Pers.of_same sm) _ _ r, _, _, rfl, Rep.pers (Pers.of_same sm) _ _ r2, rfl⟩
theorem wk_enumT {K : PySem.W.Frag} {H : Hp} {a : Addr} {ds : List D} {vs : List V} (h : H a = some (.tup vs)) (r : RepL H ds vs) : Wk (IteT K a) H (enumD 0 ds) := by
  have sq : ∀ {H'}, Pers H H' → SqT K H' a vs := fun p => SqT.of (p.tup _ _ h)
  refine ⟨fun i H' d p e => ?_, fun H' p => ⟨vs, sq p, by rw [enumD_len, r.len], p.tup _ _ h⟩⟩
  obtain ⟨x, e1, rfl⟩ := enumD_get _ _ _ _ e
  obtain ⟨v, q1, q2⟩ := r.get e1
  refine ⟨⟨vs, v, sq p, q1, p.tup _ _ h⟩, fun y H2 ⟨T, z, ey, hT, eH, hx⟩ => ?_⟩
  subst ey eH
  have := hx vs (sq p)
  rw [q1] at this
  cases this
  rw [Nat.zero_add]
  exact ⟨same_upd hT, pair_rep hT (Rep.pers p _ _ q2)⟩
theorem wk_enumL {K : PySem.W.Frag} {H : Hp} {a : Addr} {o : Obj} {ds : List D} {vs : List V} (h : H a = some (.frz o (.lst vs))) (r : RepL H ds vs) : Wk (Ite K a) H (enumD 0 ds) := by
  have sq : ∀ {H'}, Pers H H' → SqL K H' a vs := fun p => .inl (.inr ⟨o, p.frz _ _ _ h⟩)
  refine ⟨fun i H' d p e => ?_, fun H' p => ⟨vs, sq p, by rw [enumD_len, r.len]; exact Nat.le_refl _⟩⟩
  obtain ⟨x, e1, rfl⟩ := enumD_get _ _ _ _ e
  obtain ⟨v, q1, q2⟩ := r.get e1
  refine ⟨⟨vs, v, sq p, q1⟩, fun y H2 ⟨T, z, ey, hT, eH, hx⟩ => ?_⟩
  subst ey eH
  have := hx vs (sq p)
  rw [q1] at this
  cases this
  rw [Nat.zero_add]
  exact ⟨same_upd hT, pair_rep hT (Rep.pers p _ _ q2)⟩
theorem wk_zipT {K : PySem.W.Frag} {H : Hp} {a b : Addr} {ds es : List D} {vs us : List V} (h : H a = some (.tup vs)) (r : RepL H ds vs) (h' : H b = some (.tup us)) (r' : RepL H es us) : Wk (RZ.ItzT K a b) H (zipD ds es) := by
  have sq : ∀ {H'}, Pers H H' → SqT K H' a vs := fun p => SqT.of (p.tup _ _ h)
  have sq' : ∀ {H'}, Pers H H' → SqT K H' b us := fun p => SqT.of (p.tup _ _ h')
  have l1 := r.len
  have l2 := r'.len
  refine ⟨fun i H' d p e => ?_, fun H' p => ⟨vs, us, sq p, sq' p, by rw [zipD_len]; omega⟩⟩
  obtain ⟨x, y, e1, e2, rfl⟩ := zipD_get _ _ _ _ e
  obtain ⟨v, q1, q2⟩ := r.get e1
  obtain ⟨w, q3, q4⟩ := r'.get e2
  refine ⟨⟨vs, us, v, w, sq p, sq' p, q1, q3⟩, fun z H2 ⟨T, z1, z2, ey, hT, eH, hx, hy⟩ => ?_⟩
  subst ey eH
  have t1 := hx vs (sq p)
  have t2 := hy us (sq' p)
  rw [q1] at t1
  rw [q3] at t2
  cases t1; cases t2
  exact ⟨same_upd hT, two_rep hT (Rep.pers p _ _ q2) (Rep.pers p _ _ q4)⟩
theorem wk_zipL {K : PySem.W.Frag} {H : Hp} {a b : Addr} {o o' : Obj} {ds es : List D} {vs us : List V} (h : H a = some (.frz o (.lst vs))) (r : RepL H ds vs) (h' : H b = some (.frz o' (.lst us))) (r' : RepL H es us) : Wk (Itz K a b) H (zipD ds es) := by
  have sq : ∀ {H'}, Pers H H' → SqL K H' a vs := fun p => .inl (.inr ⟨o, p.frz _ _ _ h⟩)
  have sq' : ∀ {H'}, Pers H H' → SqL K H' b us := fun p => .inl (.inr ⟨o', p.frz _ _ _ h'⟩)
  have l1 := r.len
  have l2 := r'.len
  refine ⟨fun i H' d p e => ?_, fun H' p => ⟨vs, us, sq p, sq' p, by rw [zipD_len]; omega⟩⟩
  obtain ⟨x, y, e1, e2, rfl⟩ := zipD_get _ _ _ _ e
  obtain ⟨v, q1, q2⟩ := r.get e1
  obtain ⟨w, q3, q4⟩ := r'.get e2
  refine ⟨⟨vs, us, v, w, sq p, sq' p, q1, q3⟩, fun z H2 ⟨T, z1, z2, ey, hT, eH, hx, hy⟩ => ?_⟩
  subst ey eH
  have t1 := hx vs (sq p)
  have t2 := hy us (sq' p)
  rw [q1] at t1
  rw [q3] at t2
  cases t1; cases t2
  exact ⟨same_upd hT, two_rep hT (Rep.pers p _ _ q2) (Rep.pers p _ _ q4)⟩
theorem it_enum {elts : List Expr} {kk : Nat} {tpos pp : Pos} (hg : Gl X "enumerate") (hm : X.mg "enumerate" = none) (hp : plainE ea = true) (ho : a.isOwn = none) (ha : PE X ea (den T XR W a)) : PI X (.Tuple elts kk tpos) (.Call (.Name "enumerate" pp) [ea] [] pos) (iD T XR W .enum [a]) := by
  refine ⟨fun pins s σ H R I0 ⟨F, st, I, h⟩ => ?_⟩
  have h1 := evs1 ho h
  have go : den T XR W a σ H fun x H1 => ∃ d its, Rep H1 d x ∧ ItK.enum.get [d] = some its ∧ ∀ J H2, Same H1 H2 → Wk J H2 its → R J H2 := ⟨F, st, I, h1.mono fun d s1 H1 _ p I1 ⟨its, q1, q2⟩ v rv => ⟨d, its, rv, q1, q2⟩⟩
  refine Call_ (ld_blt I0 hg hm boot_enumerate (PyProof.Rows.callWith_type1 (thn ((pa_cons ha pa_nil (star_cons hp _ _)).run pos pins s σ H (fun vs H1 => ∃ x, vs = [x] ∧ ∃ d its, Rep H1 d x ∧ ItK.enum.get [d] = some its ∧ ∀ J H2, Same H1 H2 → Wk J H2 its → R J H2) I0 (den_mono go fun x H1 q => ⟨x, rfl, q⟩)) fun us s1 ⟨vs, H1, I1, r1, x, ex, d, its, rd, e, k⟩ => ?_) (star_cons hp _ _) rfl))
  subst ex
  have ff : ∀ b, b ∈ [s1.heap.objs.size + 1, s1.heap.objs.size] → FpOk X pins H1 b := fun b hb => by
    have e' : b = s1.heap.objs.size + 1 ∨ b = s1.heap.objs.size := by simpa using hb
    have hle : s1.heap.objs.size ≤ b := by
      rcases e' with z | z
      · rw [z]; exact Nat.le_add_right _ _
      · rw [z]; exact Nat.le_refl _
    exact I1.fpOk hle (I1.hok.fresh hle)
  cases r1 with
  | cons r rr =>
    cases rr
    cases d <;> simp only [ItK.get] at e <;> try (cases e; done)
    · split at e
      rotate_left
      · cases e
      cases e
      simp only [Rep] at rd
      obtain ⟨b, vs, rfl, g1, g2⟩ := rd
      cases r
      obtain ⟨us, rv, p, hz⟩ := I1.tuple (SqT.of g1)
      refine enum1_begins (begins_tuple b us.toArray) p fun h' he hit hsz hk => wpAny_pyIter_enum he ?_
      have I2 : Inv X pins σ H1 { s1 with heap := h' } := I1.kept (t' := s1.toks) hk
      exact ⟨s1.heap.objs.size + 1, [s1.heap.objs.size + 1, s1.heap.objs.size], _, _, H1, rfl, I2, turn_enumT b (s1.heap.objs.size + 1) s1.heap.objs.size, ⟨⟨.none, he⟩, ⟨_, hit, rfl, rfl⟩, Nat.succ_ne_self _⟩, ff, k _ H1 (Same.refl _) (wk_enumT g1 g2)⟩
    · split at e
      rotate_left
      · cases e
      cases e
      simp only [Rep] at rd
      obtain ⟨b, o, vs, rfl, g1, g2⟩ := rd
      cases r
      obtain ⟨us, rv, p, hz⟩ := I1.list (X := X) (show SqL X.K H1 b vs from .inl (.inr ⟨o, g1⟩))
      refine call_enumerate_list p.isList fun h' he hit hsz hk => wpAny_pyIter_enum he ?_
      have I2 : Inv X pins σ H1 { s1 with heap := h' } := I1.kept (t' := s1.toks) hk
      exact ⟨s1.heap.objs.size + 1, [s1.heap.objs.size + 1, s1.heap.objs.size], _, _, H1, rfl, I2, turn_enum b (s1.heap.objs.size + 1) s1.heap.objs.size, ⟨⟨.none, he⟩, hit, Nat.succ_ne_self _⟩, ff, k _ H1 (Same.refl _) (wk_enumL g1 g2)⟩
theorem it_zip {elts : List Expr} {kk : Nat} {tpos pp : Pos} (hg : Gl X "zip") (hm : X.mg "zip" = none) (hp : plainE ea = true) (hp2 : plainE eb = true) (ho : a.isOwn = none) (ho2 : b.isOwn = none) (ha : PE X ea (den T XR W a)) (hb : PE X eb (den T XR W b)) :
    PI X (.Tuple elts kk tpos) (.Call (.Name "zip" pp) [ea, eb] [] pos) (iD T XR W .zip [a, b]) := by
  have e1 : tE T XR W a = den T XR W a := by unfold tE; rw [ho]
  have e2 : tE T XR W b = den T XR W b := by unfold tE; rw [ho2]
  refine piOf (RZ.pi_zipA hg hm (All2.cons (e1 ▸ ha) hp (All2.cons (e2 ▸ hb) hp2 All2.nil)).pa (by rw [star_cons hp]) (star_none (by rw [List.all_cons, hp2]; rfl))) fun σ H R ⟨F, st, I, h⟩ => ?_
  refine args [a, b] st H _ I (h.mono fun ds s1 H1 _ p I1 ⟨its, q1, q2⟩ vs rv => ?_)
  have rp := rv.rep (by simp [ho, ho2])
  obtain ⟨d1, _, _, _, rfl, rfl, _, d2, _, _, _, rfl, rfl, _, rfl, rfl⟩ := rv
  cases d1 <;> cases d2 <;> simp only [ItK.get] at q1 <;> try (cases q1; done)
  · cases q1
    simp only [RepL, Rep] at rp
    obtain ⟨_, _, e, ⟨x, vs, rfl, g1, g2⟩, _, _, e', ⟨y, us, rfl, g3, g4⟩, _⟩ := rp
    cases e; cases e'
    exact ⟨x, y, vs, us, rfl, .inr ⟨SqT.of g1, SqT.of g3, q2 _ _ (Same.refl _) (wk_zipT g1 g2 g3 g4)⟩⟩
  · cases q1
    simp only [RepL, Rep] at rp
    obtain ⟨_, _, e, ⟨x, o, vs, rfl, g1, g2⟩, _, _, e', ⟨y, o', us, rfl, g3, g4⟩, _⟩ := rp
    cases e; cases e'
    exact ⟨x, y, vs, us, rfl, .inl ⟨.inl (.inr ⟨o, g1⟩), .inl (.inr ⟨o', g3⟩), q2 _ _ (Same.refl _) (wk_zipL g1 g2 g3 g4)⟩⟩
end
end Rf

set_option Elab.async false
set_option linter.all false
set_option maxRecDepth 100000
set_option maxHeartbeats 4000000
namespace Rf
open PySem PySem.Spec PyProof.Rows L2

theorem wipe_get {σ : L2.St} : ∀ {vs : List Nat} {j : Nat}, j ∉ vs → (wipe σ vs)[j]? = σ[j]?
  | [], j, _ => rfl
  | v :: vs, j, h => by
    simp only [List.mem_cons, not_or] at h
    show ((wipe σ vs).set v none)[j]? = _
    rw [List.getElem?_set_ne (Ne.symm h.1)]
    exact wipe_get h.2
theorem wipe_wipe {σ : L2.St} {vs : List Nat} : wipe (wipe σ vs) vs = wipe σ vs := by
  have at_in : ∀ {us : List Nat} {τ : L2.St} {j : Nat}, j ∈ us → j < τ.length → (wipe τ us)[j]? = some none := by
    intro us
    induction us with
    | nil => intro τ j h; simp at h
    | cons u us ih =>
      intro τ j h hl
      show ((wipe τ us).set u none)[j]? = _
      by_cases e : u = j
      · subst e
        exact List.getElem?_set_self (by rw [wipe_length]; exact hl)
      · rw [List.getElem?_set_ne e]
        rcases List.mem_cons.mp h with h | h
        · exact absurd h.symm e
        · exact ih h hl
  refine List.ext_getElem? fun j => ?_
  by_cases hj : j ∈ vs
  · by_cases hl : j < σ.length
    · rw [at_in hj (by rw [wipe_length]; exact hl), at_in hj hl]
    · rw [List.getElem?_eq_none (by rw [wipe_length, wipe_length]; omega), List.getElem?_eq_none (by rw [wipe_length]; omega)]
  · rw [wipe_get hj]
theorem wipeR_get {r : List Slot} : ∀ {vs : List Nat} {j : Nat} {x : Slot}, (wipeR r vs)[j]? = some x → (j ∉ vs ∧ r[j]? = some x) ∨ (j ∈ vs ∧ x = .none)
  | [], j, x, h => .inl ⟨by simp, h⟩
  | v :: vs, j, x, h => by
    have h : ((wipeR r vs).set v .none)[j]? = some x := h
    by_cases e : v = j
    · subst e
      by_cases hv : v < (wipeR r vs).length
      · rw [List.getElem?_set_self hv] at h
        cases h
        exact .inr ⟨by simp, rfl⟩
      · rw [List.getElem?_eq_none (by simpa using hv)] at h
        cases h
    · rw [List.getElem?_set_ne e] at h
      rcases wipeR_get h with ⟨h1, h2⟩ | ⟨h1, h2⟩
      · exact .inl ⟨by simp only [List.mem_cons, not_or]; exact ⟨fun z => e z.symm, h1⟩, h2⟩
      · exact .inr ⟨List.mem_cons_of_mem _ h1, h2⟩
theorem SI.wiped {F : Fx} {σ : L2.St} {st : Sx} {H : Hp} (I : SI F σ st H) (vs : List Nat) : SI F (wipe σ vs) ⟨wipeR st.r vs, st.g⟩ H := by
  have ow : ∀ {j : Nat} {z : List D} {a : Addr}, (wipeR st.r vs)[j]? = some (.own z) → (wipe σ vs)[j]? = some (some (.ref a)) → st.r[j]? = some (.own z) ∧ σ[j]? = some (some (.ref a)) := by
    intro j z a h1 h2
    rcases wipeR_get h1 with ⟨n, h⟩ | ⟨_, h⟩
    · rw [wipe_get n] at h2
      exact ⟨h, h2⟩
    · cases h
  refine ⟨fun j x h => ?_, fun j k x y a h1 h2 h3 h4 => ?_, fun j x a h1 h2 => ?_, I.keep, I.glen, I.glob, I.gone, I.hid, I.hfr⟩
  · rcases wipeR_get h with ⟨n, h⟩ | ⟨hm, rfl⟩
    · obtain ⟨y, h1, h2⟩ := I.slot j x h
      exact ⟨y, by rw [wipe_get n]; exact h1, h2⟩
    · have : j < (wipeR st.r vs).length := (List.getElem?_eq_some_iff.mp h).1
      have wl : ∀ us : List Nat, (wipeR st.r us).length = st.r.length := by
        intro us
        induction us with
        | nil => rfl
        | cons u us ih => show ((wipeR st.r us).set u .none).length = _; rw [List.length_set, ih]
      rw [wl] at this
      obtain ⟨y, h1, _⟩ := I.slot j _ (List.getElem?_eq_getElem this)
      have hj : j < (wipe σ vs).length := by rw [wipe_length]; exact (List.getElem?_eq_some_iff.mp h1).1
      exact ⟨_, List.getElem?_eq_getElem hj, trivial⟩
  · obtain ⟨a1, b1⟩ := ow h1 h3
    obtain ⟨a2, b2⟩ := ow h2 h4
    exact I.one j k x y a a1 a2 b1 b2
  · obtain ⟨a1, b1⟩ := ow h1 h2
    exact I.fresh j x a a1 b1
/-- a new list is being filled, out of sight of the evaluation within -/
theorem SI.hide {F : Fx} {σ : L2.St} {st : Sx} {H : Hp} {p : Addr} {vs : List V} {ds : List D} (I : SI F σ st H) (hp : H p = none) (r : RepL H ds vs) : SI { F with hid := (p, ds) :: F.hid } σ st (upd H p (.lst vs)) := by
  have sm : Same H (upd H p (.lst vs)) := same_upd hp
  have J := I.same sm
  have f0 : F.H0 p = none := by
    by_cases hm : p ∈ F.l
    · obtain ⟨k, hk, e⟩ := List.getElem_of_mem hm
      have hk' : k < st.g.length := by rw [I.glen]; exact hk
      obtain ⟨kvs, q, _⟩ := I.glob k _ p (List.getElem?_eq_getElem hk') (by rw [List.getElem?_eq_getElem hk, e])
      rw [hp] at q; cases q
    · cases q : F.H0 p with
      | none => rfl
      | some o => have := I.keep p o q hm; rw [hp] at this; cases this
  have nl : p ∉ F.l := fun hm => by
    obtain ⟨k, hk, e⟩ := List.getElem_of_mem hm
    have hk' : k < st.g.length := by rw [I.glen]; exact hk
    obtain ⟨kvs, q, _⟩ := I.glob k _ p (List.getElem?_eq_getElem hk') (by rw [List.getElem?_eq_getElem hk, e])
    rw [hp] at q; cases q
  refine ⟨J.slot, J.one, fun i x a h1 h2 => ?_, J.keep, J.glen, J.glob, J.gone, fun q hq => ?_, fun q hq => ?_⟩
  · obtain ⟨g1, g2, g3⟩ := I.fresh i x a h1 h2
    refine ⟨g1, g2, fun q hq => ?_⟩
    rcases List.mem_cons.mp hq with rfl | hq
    · obtain ⟨b, ws, e1, e2, _⟩ := I.own h1
      rw [h2] at e1
      cases e1
      intro z
      have z : p = a := z
      rw [z, e2] at hp; cases hp
    · exact g3 q hq
  · rcases List.mem_cons.mp hq with rfl | hq
    · exact ⟨vs, upd_same, RepL.pers (Pers.of_same sm) _ _ r⟩
    · exact J.hid q hq
  · rcases List.mem_cons.mp hq with rfl | hq
    · exact ⟨f0, nl⟩
    · exact I.hfr q hq
/-- the list grows by one -/
theorem SI.grow {F : Fx} {σ : L2.St} {st : Sx} {H : Hp} {p : Addr} {vs : List V} {ds : List D} {d : D} {v : V} (I : SI { F with hid := (p, ds) :: F.hid } σ st H) (h : H p = some (.lst vs)) (nd : ∀ q ∈ F.hid, q.1 ≠ p) (rd : Rep H d v) :
    SI { F with hid := (p, ds ++ [d]) :: F.hid } σ st (upd H p (.lst (vs ++ [v]))) := by
  have p1 : Pers H (upd H p (.lst (vs ++ [v]))) := pers_upd h trivial
  obtain ⟨f1, f2⟩ := I.hfr (p, ds) (by simp)
  obtain ⟨ws, w1, w2⟩ := I.hid (p, ds) (by simp)
  rw [h] at w1
  cases w1
  refine ⟨fun i x hx => ?_, I.one, fun i x a h1 h2 => ?_, fun b o h1 h2 => ?_, I.glen, fun k kd b h1 h2 => ?_, I.gone, fun q hq => ?_, fun q hq => ?_⟩
  · obtain ⟨y, h1, h2⟩ := I.slot i x hx
    refine ⟨y, h1, ?_⟩
    cases x with
    | none => trivial
    | val d => obtain ⟨v, e1, e2⟩ := h2; exact ⟨v, e1, Rep.pers p1 _ _ e2⟩
    | own xs =>
      obtain ⟨b, ws, e1, e2, e3⟩ := h2
      have := (I.fresh i xs b hx (by rw [h1, e1])).2.2 (p, ds) (by simp)
      exact ⟨b, ws, e1, by rw [upd_ne (fun z => this z.symm)]; exact e2, RepL.pers p1 _ _ e3⟩
    | glb k => exact h2
  · obtain ⟨g1, g2, g3⟩ := I.fresh i x a h1 h2
    refine ⟨g1, g2, fun q hq => ?_⟩
    rcases List.mem_cons.mp hq with rfl | hq
    · exact g3 (p, ds) (by simp)
    · exact g3 q (List.mem_cons_of_mem _ hq)
  · rw [upd_ne (fun z => by rw [z, f1] at h1; cases h1)]
    exact I.keep b o h1 h2
  · obtain ⟨kvs, q1, q2, q3⟩ := I.glob k kd b h1 h2
    refine ⟨kvs, ?_, q2, RepL.pers p1 _ _ q3⟩
    rw [upd_ne (fun z => f2 (by rw [← z]; exact List.mem_of_getElem? h2))]
    exact q1
  · rcases List.mem_cons.mp hq with rfl | hq
    · exact ⟨_, upd_same, (RepL.pers p1 _ _ w2).append (by simp only [RepL]; exact ⟨v, [], rfl, Rep.pers p1 _ _ rd, rfl⟩)⟩
    · obtain ⟨us, q1, q2⟩ := I.hid q (List.mem_cons_of_mem _ hq)
      exact ⟨us, by rw [upd_ne (nd q hq)]; exact q1, RepL.pers p1 _ _ q2⟩
  · rcases List.mem_cons.mp hq with rfl | hq
    · exact ⟨f1, f2⟩
    · exact I.hfr q (List.mem_cons_of_mem _ hq)
/-- the list is out: the heap without it -/
def off (H : Hp) (p : Addr) : Hp := fun b => if b = p then none else H b
theorem off_ne {H : Hp} {p b : Addr} (h : b ≠ p) : off H p b = H b := by unfold off; rw [if_neg h]
theorem off_same {H : Hp} {p : Addr} : off H p p = none := by unfold off; rw [if_pos rfl]
theorem SI.bare {F : Fx} {σ : L2.St} {st : Sx} {H : Hp} {p : Addr} {ds : List D} (I : SI { F with hid := (p, ds) :: F.hid } σ st H) (nd : ∀ q ∈ F.hid, q.1 ≠ p) : SI F σ st (off H p) := by
  obtain ⟨f1, f2⟩ := I.hfr (p, ds) (by simp)
  obtain ⟨ws, w1, w2⟩ := I.hid (p, ds) (by simp)
  have p1 : Pers H (off H p) := by
    refine ⟨fun b xs q => ?_, fun b o u q => ?_⟩
    · rw [off_ne (fun z => by rw [z, w1] at q; cases q)]; exact q
    · rw [off_ne (fun z => by rw [z, w1] at q; cases q)]; exact q
  refine ⟨fun i x hx => ?_, I.one, fun i x a h1 h2 => ?_, fun b o h1 h2 => ?_, I.glen, fun k kd b h1 h2 => ?_, I.gone, fun q hq => ?_, fun q hq => I.hfr q (List.mem_cons_of_mem _ hq)⟩
  · obtain ⟨y, h1, h2⟩ := I.slot i x hx
    refine ⟨y, h1, ?_⟩
    cases x with
    | none => trivial
    | val d => obtain ⟨v, e1, e2⟩ := h2; exact ⟨v, e1, Rep.pers p1 _ _ e2⟩
    | own xs =>
      obtain ⟨b, ws, e1, e2, e3⟩ := h2
      have := (I.fresh i xs b hx (by rw [h1, e1])).2.2 (p, ds) (by simp)
      exact ⟨b, ws, e1, by rw [off_ne (fun z => this z.symm)]; exact e2, RepL.pers p1 _ _ e3⟩
    | glb k => exact h2
  · obtain ⟨g1, g2, g3⟩ := I.fresh i x a h1 h2
    exact ⟨g1, g2, fun q hq => g3 q (List.mem_cons_of_mem _ hq)⟩
  · rw [off_ne (fun z => by rw [z, f1] at h1; cases h1)]
    exact I.keep b o h1 h2
  · obtain ⟨kvs, q1, q2, q3⟩ := I.glob k kd b h1 h2
    exact ⟨kvs, by rw [off_ne (fun z => f2 (by rw [← z]; exact List.mem_of_getElem? h2))]; exact q1, q2, RepL.pers p1 _ _ q3⟩
  · obtain ⟨us, q1, q2⟩ := I.hid q (List.mem_cons_of_mem _ hq)
    exact ⟨us, by rw [off_ne (nd q hq)]; exact q1, RepL.pers p1 _ _ q2⟩
/-- the names of a comprehension stand again -/
theorem backR_get {r0 r : List Slot} : ∀ {vs : List Nat} {j : Nat} {x : Slot}, (backR r0 vs r)[j]? = some x → (j ∉ vs ∧ r[j]? = some x) ∨ (j ∈ vs ∧ j < r.length ∧ (x = .none ∨ (r0[j]? = some x ∧ ((∃ d, x = .val d) ∨ ∃ k, x = .glb k))))
  | [], j, x, h => .inl ⟨by simp, h⟩
  | v :: vs, j, x, h => by
    have h : ((backR r0 vs r).set v _)[j]? = some x := h
    have bl : ∀ us : List Nat, (backR r0 us r).length = r.length := by
      intro us
      induction us with
      | nil => rfl
      | cons u us ih => show ((backR r0 us r).set u _).length = _; rw [List.length_set, ih]
    by_cases e : v = j
    · subst e
      by_cases hv : v < (backR r0 vs r).length
      · rw [List.getElem?_set_self hv] at h
        refine .inr ⟨by simp, by rw [← bl vs]; exact hv, ?_⟩
        split at h
        · cases h; rename_i d ed; exact .inr ⟨ed, .inl ⟨d, rfl⟩⟩
        · cases h; rename_i d ed; exact .inr ⟨ed, .inr ⟨d, rfl⟩⟩
        · cases h; exact .inl rfl
      · rw [List.getElem?_eq_none (by simpa using hv)] at h
        cases h
    · rw [List.getElem?_set_ne e] at h
      rcases backR_get h with ⟨h1, h2⟩ | ⟨h1, h2⟩
      · exact .inl ⟨by simp only [List.mem_cons, not_or]; exact ⟨fun z => e z.symm, h1⟩, h2⟩
      · exact .inr ⟨List.mem_cons_of_mem _ h1, h2⟩
theorem SI.back {F : Fx} {σ : L2.St} {s0 st : Sx} {H0 H : Hp} {vs : List Nat} (I0 : SI F σ s0 H0) (p : Pers H0 H) (I : SI F (wipe σ vs) ⟨wipeR st.r vs, st.g⟩ H) : SI F σ ⟨backR s0.r vs st.r, st.g⟩ H := by
  have ow : ∀ {j : Nat} {z : List D}, (backR s0.r vs st.r)[j]? = some (.own z) → (wipeR st.r vs)[j]? = some (.own z) ∧ (wipe σ vs)[j]? = σ[j]? := by
    intro j z h1
    rcases backR_get h1 with ⟨n, h⟩ | ⟨_, _, h | ⟨_, ⟨d, h⟩ | ⟨d, h⟩⟩⟩
    · refine ⟨?_, wipe_get n⟩
      have : ∀ us : List Nat, j ∉ us → (wipeR st.r us)[j]? = st.r[j]? := by
        intro us
        induction us with
        | nil => intro _; rfl
        | cons u us ih =>
          intro hu
          simp only [List.mem_cons, not_or] at hu
          show ((wipeR st.r us).set u .none)[j]? = _
          rw [List.getElem?_set_ne (Ne.symm hu.1), ih hu.2]
      rw [this vs n]; exact h
    · cases h
    · cases h
    · cases h
  refine ⟨fun j x h => ?_, fun j k x y a h1 h2 h3 h4 => ?_, fun j x a h1 h2 => ?_, I.keep, I.glen, I.glob, I.gone, I.hid, I.hfr⟩
  · rcases backR_get h with ⟨n, h⟩ | ⟨_, hl, h | ⟨h, hx⟩⟩
    · have : ∀ us : List Nat, j ∉ us → (wipeR st.r us)[j]? = st.r[j]? := by
        intro us
        induction us with
        | nil => intro _; rfl
        | cons u us ih =>
          intro hu
          simp only [List.mem_cons, not_or] at hu
          show ((wipeR st.r us).set u .none)[j]? = _
          rw [List.getElem?_set_ne (Ne.symm hu.1), ih hu.2]
      obtain ⟨y, h1, h2⟩ := I.slot j x (by rw [this vs n]; exact h)
      exact ⟨y, by rw [← wipe_get n]; exact h1, h2⟩
    · subst h
      have wl : ∀ us : List Nat, (wipeR st.r us).length = st.r.length := by
        intro us
        induction us with
        | nil => rfl
        | cons u us ih => show ((wipeR st.r us).set u .none).length = _; rw [List.length_set, ih]
      obtain ⟨y, h1, _⟩ := I.slot j _ (List.getElem?_eq_getElem (by rw [wl]; exact hl))
      have hj : j < σ.length := by rw [← wipe_length σ vs]; exact (List.getElem?_eq_some_iff.mp h1).1
      exact ⟨_, List.getElem?_eq_getElem hj, trivial⟩
    · obtain ⟨y, h1, h2⟩ := I0.slot j x h
      refine ⟨y, h1, ?_⟩
      rcases hx with ⟨d, rfl⟩ | ⟨k, rfl⟩
      · obtain ⟨v, e1, e2⟩ := h2; exact ⟨v, e1, Rep.pers p _ _ e2⟩
      · exact h2
  · obtain ⟨a1, b1⟩ := ow h1
    obtain ⟨a2, b2⟩ := ow h2
    exact I.one j k x y a a1 a2 (by rw [b1]; exact h3) (by rw [b2]; exact h4)
  · obtain ⟨a1, b1⟩ := ow h1
    exact I.fresh j x a a1 (by rw [b1]; exact h2)
end Rf

set_option Elab.async false
set_option linter.all false
set_option maxRecDepth 100000
set_option maxHeartbeats 4000000
namespace Rf
open PySem PySem.Spec PyProof.Rows L2

/-- nothing may be raised -/
abbrev W0 : WX := fun _ _ _ _ => False
def tCs (T : Tbl) (XR : Hp → Nat → List D → Value → Option Addr → Prop) (W : WX) : List E → TT
  | [] => tYes
  | c :: _ => denT T XR W c
section
variable {X : Cx} {T : Tbl} {XR : Hp → Nat → List D → Value → Option Addr → Prop} {W : WX} {a b c m : E} {ea eb ec e : Expr} {pos : Pos}
theorem tCs_go {F : Fx} {σ : L2.St} {H : Hp} {st s2 : Sx} {cs : List E} {t : Bool} {Q : Bool → Hp → Prop} (hc : cs.length ≤ 1) (I : SI F σ st H) (e : evt T cs st = .ok t s2) (k : ∀ H', Pers H H' → SI F σ s2 H' → Q t H') : tCs T XR W0 cs σ H Q := by
  cases cs with
  | nil =>
    simp only [evt] at e
    cases e
    exact k H (Pers.refl H) I
  | cons c cs =>
    cases cs with
    | cons d ds => simp at hc
    | nil =>
      refine ⟨F, st, I, ?_⟩
      simp only [evt] at e
      cases q : ev T c st with
      | bad => rw [q] at e; cases e
      | exc => rw [q] at e; cases e
      | ok d s1 =>
        rw [q] at e
        simp only [Res.bind] at e
        intro H1 p I1
        split at e
        · rename_i z; cases e; exact ⟨true, z, k H1 p I1⟩
        · rename_i z; cases e; exact ⟨false, z, k H1 p I1⟩
        · cases e
theorem n_comp {F : Fx} {elt : E} {pt : Pat} {it : ItK} {src cs : List E} {ws : List Nat} {K : PySem.W.Frag} {σ : L2.St} {H : Hp} {Q : VK} (hc : cs.length ≤ 1) (hv : ∀ i ∈ pt.vars, i ∈ ws) (h : denN T XR W (.comp elt pt it src cs ws) σ H Q) :
    tLc (iD T XR W it src) (patG K pt) (tCs T XR W0 cs) (den T XR W0 elt) ws σ H Q := by
  obtain ⟨F, st, I, h⟩ := h
  simp only [ev] at h
  refine ⟨F, st, I, h.bind fun ds s1 H1 _ p1 I1 q => ?_⟩
  cases ei : it.get ds with
  | none => rw [ei] at q; exact q.elim
  | some its =>
    rw [ei] at q
    simp only at q
    refine ⟨its, rfl, fun J H2 sm wk => ?_⟩
    have I2 := I1.same sm
    cases ec : compL (bindP pt) (evt T cs) (ev T elt) ws its s1 with
    | bad => rw [ec] at q; exact q.elim
    | exc => rw [ec] at q; exact q.elim
    | ok RS S2 =>
      rw [ec] at q
      simp only at q
      split at q
      rotate_left
      · exact q.elim
      rename_i hbig
      intro Dp hD
      have nd : ∀ z ∈ F.hid, z.1 ≠ Dp := fun z hz e => by
        obtain ⟨vs, g, _⟩ := I2.hid z hz
        rw [e, hD] at g; cases g
      let Wv : Nat → Nat → Hp → Prop := fun i mm Hc => mm = its.length - i ∧ i ≤ its.length ∧ Pers H2 Hc ∧ ∃ (sti : Sx) (acc : List D) (rs : List D),
        SI { F with hid := (Dp, acc) :: F.hid } (wipe σ ws) ⟨wipeR sti.r ws, sti.g⟩ Hc ∧ compL (bindP pt) (evt T cs) (ev T elt) ws (its.drop i) sti = .ok rs S2 ∧ RS = acc ++ rs
      refine ⟨Wv, ⟨its.length, by simp, Nat.zero_le _, Pers.of_same (same_upd hD), s1, [], RS, (I2.wiped ws).hide hD (by simp [RepL]), by rw [List.drop_zero]; exact ec, rfl⟩, ?_⟩
      rintro i mm Hc ⟨rfl, hi, pc, sti, acc, rs, Ic, eq, hrs⟩
      by_cases hlt : i < its.length
      · have hx : its[i]? = some its[i] := List.getElem?_eq_getElem hlt
        obtain ⟨go, yld⟩ := wk.go i Hc _ pc hx
        refine .inr ⟨go, fun H' => ∃ m', m' < its.length - i ∧ Wv (i + 1) m' H', fun H' z => z, fun x H' hy => ?_⟩
        obtain ⟨sm2, rx⟩ := yld x H' hy
        have Id := Ic.same sm2
        rw [List.drop_eq_getElem_cons hlt] at eq
        simp only [compL] at eq
        cases eb : bindP pt its[i] (wipeR sti.r ws) with
        | none => rw [eb] at eq; cases eq
        | some r1 =>
          rw [eb] at eq
          simp only at eq
          refine bindP_run pt _ _ r1 x _ _ eb Id rx fun σ2 J2 hw => ⟨by rw [hw ws hv]; exact wipe_wipe, ?_⟩
          cases et : evt T cs ⟨r1, sti.g⟩ with
          | bad => rw [et] at eq; cases eq
          | exc => rw [et] at eq; cases eq
          | ok t s2 =>
            rw [et] at eq
            simp only [Res.bind] at eq
            refine tCs_go hc J2 et fun H3 p3 J3 => ?_
            have hw2 : wipe σ2 ws = wipe σ ws := by rw [hw ws hv]; exact wipe_wipe
            cases t with
            | false =>
              rw [if_neg (by decide)] at eq
              rw [if_neg (by decide)]
              refine ⟨its.length - (i + 1), by omega, rfl, hlt, pc.trans ((Pers.of_same sm2).trans p3), s2, acc, rs, ?_, eq, hrs⟩
              have := J3.wiped ws
              rw [hw2] at this
              exact this
            | true =>
              rw [if_pos rfl] at eq
              rw [if_pos rfl]
              cases ee : ev T elt s2 with
              | bad => rw [ee] at eq; cases eq
              | exc => rw [ee] at eq; cases eq
              | ok d s3 =>
                rw [ee] at eq
                simp only at eq
                cases er : compL (bindP pt) (evt T cs) (ev T elt) ws (its.drop (i + 1)) s3 with
                | bad => rw [er] at eq; cases eq
                | exc => rw [er] at eq; cases eq
                | ok r4 s4 =>
                  rw [er] at eq
                  cases eq
                  refine ⟨_, s2, J3, ?_⟩
                  rw [ee]
                  intro H4 p4 J4 v rv
                  obtain ⟨vs, g1, g2⟩ := J4.hid (Dp, acc) (by simp)
                  refine ⟨vs, g1, ?_, its.length - (i + 1), by omega, rfl, hlt, pc.trans ((Pers.of_same sm2).trans (p3.trans (p4.trans (pers_upd g1 trivial)))), s3, acc ++ [d], r4, ?_, er, by rw [hrs]; simp⟩
                  · rw [sz_big, ← (show acc.length = vs.length from g2.len)]
                    rw [hrs] at hbig
                    simp at hbig
                    omega
                  · have := (J4.wiped ws).grow g1 nd rv
                    rw [hw2] at this
                    exact this
      · have e : i = its.length := by omega
        subst e
        rw [List.drop_length] at eq
        simp only [compL] at eq
        cases eq
        refine .inl ⟨wk.stop Hc pc, ?_⟩
        rw [List.append_nil] at hrs
        subst hrs
        obtain ⟨vs, g1, g2⟩ := Ic.hid (Dp, RS) (by simp)
        have Jb := Ic.bare nd
        have pb : Pers H2 (off Hc Dp) := by
          refine ⟨fun b xs z => ?_, fun b o u z => ?_⟩
          · rw [off_ne (fun y => by rw [y, hD] at z; cases z)]; exact pc.tup _ _ z
          · rw [off_ne (fun y => by rw [y, hD] at z; cases z)]; exact pc.frz _ _ _ z
        have Je := SI.back I2 pb Jb
        refine q (off Hc Dp) ((Pers.of_same sm).trans pb) Je (.ref Dp) Hc (fun b o z => ?_) ⟨Dp, vs, rfl, off_same, g1, g2⟩
        by_cases hb : b = Dp
        · rw [hb, off_same] at z; cases z
        · rw [off_ne hb] at z; exact z
end
end Rf

set_option Elab.async false
set_option linter.all false
set_option maxRecDepth 100000
set_option maxHeartbeats 4000000
namespace Rf
open PySem PySem.Spec PyProof.Rows L2

/-! ### tuple(d.values()) -/
section
variable {prog : Program} {w : World} {A : Around} {E : Value → Shared → Prop} {s : Shared} {T : String} {r d : Addr} {n : Nat} {P : Nat → Value → Prop} {OK : Heap → Prop}
theorem collect_src {Q : List Value → Shared → Prop} (K : PySem.W.KdlSrc prog w T r d n P OK) (hh : A.handled = none) (hok : OK s.heap) (hn : n ≤ sizeLine)
    (hQ : ∀ (h' : Heap) (tk : Nat) (acc : Array Value), (∀ b o, s.heap.get? b = some o → h'.get? b = some o) → ItemsOf P acc n → Q acc.toList { s with heap := h', toks := tk }) :
    wpAny (model prog w) A (collect (.ref r)) Q E s := by
  unfold collect
  refine wpAny_bind (wpAny_runValue (codeAny_builtin F.entry_proto_collect ?_))
  rw [Around.under_plainId F.plain_proto_collect _]
  show wpAny _ A.in1 (newList [] >>= fun l => again (.builtin "list.__iadd__" ⟨[l, .ref r], []⟩)) _ _ s
  refine wpAny_bind (wpAny_newObj_type ?_)
  refine wpAny_pure ⟨plainId_quiet F.plain_list_iadd _, codeAny_builtin F.entry_list_iadd ?_⟩
  rw [Around.under_plainId F.plain_list_iadd _]
  show wpAny _ A.in1 (Builtin.List.listExtendWith (.ref s.heap.objs.size) (.ref r) (.ref s.heap.objs.size)) _ _ _
  have hS : (s.heap.push { cls := .type "list", data := .seq ([] : List Value).toArray }).get? s.heap.objs.size = some { cls := .type "list", data := .seq #[] 0 } := Heap.get?_push_size _ rfl
  have hlt := K.there _ hok
  refine wpAny_mono (PySem.W.kdl_extend (A := A) (R := fun rr s' => rr = .ok (.ret (.ref s.heap.objs.size)) ∧ ∃ (h' : Heap) (tk : Nat) (acc : Array Value) (c' : Nat), s' = { s with heap := h', toks := tk } ∧
      (∀ b o, s.heap.get? b = some o → h'.get? b = some o) ∧ h'.get? s.heap.objs.size = some { cls := .type "list", dict := none, data := .seq acc c', slots := #[] } ∧ ItemsOf P acc n)
    (s := { s with heap := s.heap.push { cls := .type "list", data := .seq ([] : List Value).toArray } }) K hh (K.keep _ _ hok fun b _ o e => Heap.get?_push_of_some _ e) s.heap.objs.size (Nat.ne_of_gt hlt.1) (Nat.ne_of_gt hlt.2) (.ref s.heap.objs.size) 0 hS
    (fun h' tk acc c' hk e hi => ⟨rfl, h', tk, acc, c', rfl, fun b o q => hk b o (Nat.ne_of_lt (Heap.lt_size q)) (Heap.get?_push_of_some _ q), e, hi⟩) hn) (fun fin s' h => ?_) (fun e s' h => ?_)
  · cases fin with
    | done f =>
      obtain ⟨e, h', tk, acc, c', rfl, hk, hS', hi⟩ := h
      cases e
      show wpAny _ A (load s.heap.objs.size >>= _) _ _ _
      exact wpAny_bind (wpAny_load hS' (wpAny_pure (hQ h' tk acc hk hi)))
    | again c' =>
      refine ⟨h.1, codeAny_mono h.2 fun rr s'' hr' => ?_⟩
      obtain ⟨rfl, h', tk, acc, c', rfl, hk, hS', hi⟩ := hr'
      show wpAny _ A (load s.heap.objs.size >>= _) _ _ _
      exact wpAny_bind (wpAny_load hS' (wpAny_pure (hQ h' tk acc hk hi)))
  · exact absurd h.1 (by simp)
theorem code_tuple_src {Q₁ : Value → Shared → Prop} (K : PySem.W.KdlSrc prog w T r d n P OK) (hTT : (Value.type T == Value.type "tuple") = false) (hh : A.handled = none) (hok : OK s.heap) (hn : n ≤ sizeLine)
    (h : ∀ (h' : Heap) (tk : Nat) (acc : Array Value), (∀ b o, s.heap.get? b = some o → h'.get? b = some o) → ItemsOf P acc n →
      Q₁ (.ref h'.objs.size) { s with heap := h'.push { cls := .type "tuple", data := .seq acc }, toks := tk }) :
    codeAny (model prog w) A (.call (.builtin "tuple.__new__") ⟨[.type "tuple", .ref r], []⟩) (wants Q₁ E) s := by
  refine codeAny_of_tree ?_
  show wpAny _ A.in1 (do checkBuiltinCall "tuple.__new__" ⟨[.type "tuple", .ref r], []⟩; again (.builtin "tuple.__new__" ⟨[.type "tuple", .ref r], []⟩)) _ _ s
  refine wpAny_bind (wpAny_of_eq (F.newCall_tuple_1 _) (wpAny_pure ⟨plainId_quiet F.plain_tuple_new _, codeAny_builtin F.entry_tuple_new ?_⟩))
  rw [Around.under_plainId F.plain_tuple_new _]
  have hsub := sub_tuple_self
  have hinit := init_tuple_lookup
  have hmh := madeHere_tuple
  have hTI : s.TypeIs (.ref r) T := K.type s hok
  have hh1 : A.in1.handled = none := hh
  wp_walk using wpAny_typeOf hTI, collect_src (A := A.in1) K hh1 hok hn
  intro h' tk acc hk hacc
  show wpAny _ _ (Builtin.Tuple.tupleExact acc.toList.toArray >>= fun v => ret v) _ _ _
  unfold Builtin.Tuple.tupleExact
  refine wpAny_bind (wpAny_newObj_type ?_ (by show acc.toList.toArray.size ≤ sizeLine; simp only [Array.toArray_toList]; rw [hacc.1]; exact hn))
  refine wpAny_pure ?_
  have e : acc.toList.toArray = acc := by simp
  rw [e]
  exact h h' tk acc hk hacc
theorem call_tuple_src {Q : Value → Shared → Prop} (K : PySem.W.KdlSrc prog w T r d n P OK) (hTT : (Value.type T == Value.type "tuple") = false) (hh : A.handled = none) (hok : OK s.heap) (hn : n ≤ sizeLine)
    (hQ : ∀ (h' : Heap) (tk : Nat) (acc : Array Value), (∀ b o, s.heap.get? b = some o → h'.get? b = some o) → ItemsOf P acc n →
      Q (.ref h'.objs.size) { s with heap := h'.push { cls := .type "tuple", data := .seq acc }, toks := tk }) :
    wpAny (model prog w) A (call (.type "tuple") [.ref r]) Q E s := by
  refine callType_codes (Q₁ := fun obj s₁ => s₁.TypeIs obj "tuple" ∧ Q obj s₁) F.called_tuple (F.typeCall_tuple_1 _) F.entry_object_init
    (code_tuple_src (A := A.in1) K hTT hh hok hn fun h' tk acc hk hacc => ⟨⟨_, Heap.get?_push_size _ rfl, rfl⟩, hQ h' tk acc hk hacc⟩) fun obj s₁ h₁ => ?_
  exact ⟨h₁.1, F.args_object_init_2 obj _, object_init_meets F.called_tuple.init.lookup F.called_tuple.made (by decide) prog w A.in1 _ s₁ ⟨h₁.1, rfl, h₁.2⟩⟩
end

/-- an object that is being made, out of sight -/
def Fx.pin (F : Fx) (p : Addr) (o : HO) : Fx := { F with H0 := fun a => if a = p then some o else F.H0 a }
section
variable {X : Cx} {T : Tbl} {XR : Hp → Nat → List D → Value → Option Addr → Prop} {W : WX} {m : E} {e : Expr} {pos : Pos} {F : Fx} {σ : L2.St} {st : Sx} {H H' : Hp} {p : Addr} {o o' : HO}
theorem SI.free (I : SI F σ st H) (h : H p = none) : F.H0 p = none ∧ p ∉ F.l ∧ (∀ q ∈ F.hid, q.1 ≠ p) := by
  have nl : p ∉ F.l := fun hm => by
    obtain ⟨k, hk, e⟩ := List.getElem_of_mem hm
    have hk' : k < st.g.length := by rw [I.glen]; exact hk
    obtain ⟨kvs, q, _⟩ := I.glob k _ p (List.getElem?_eq_getElem hk') (by rw [List.getElem?_eq_getElem hk, e])
    rw [h] at q; cases q
  refine ⟨?_, nl, fun q hq e => ?_⟩
  · cases q : F.H0 p with
    | none => rfl
    | some u => have := I.keep p u q nl; rw [h] at this; cases this
  · obtain ⟨vs, g, _⟩ := I.hid q hq
    rw [e, h] at g; cases g
theorem SI.pin (I : SI F σ st H) (h : H p = none) : SI (F.pin p o) σ st (upd H p o) := by
  obtain ⟨f0, nl, nh⟩ := I.free h
  have J := I.same (same_upd (o := o) h)
  have ne : ∀ (i : Nat) (x : List D) (a : Addr), st.r[i]? = some (.own x) → σ[i]? = some (some (.ref a)) → a ≠ p := fun i x a h1 h2 e => by
    obtain ⟨b, ws, e1, e2, _⟩ := I.own h1
    rw [h2] at e1
    cases e1
    rw [e, h] at e2; cases e2
  refine ⟨J.slot, J.one, fun i x a h1 h2 => ?_, fun a u h1 h2 => ?_, J.glen, J.glob, J.gone, J.hid, fun q hq => ⟨?_, (I.hfr q hq).2⟩⟩
  · obtain ⟨g1, g2, g3⟩ := I.fresh i x a h1 h2
    exact ⟨(if_neg (ne i x a h1 h2)).trans g1, g2, g3⟩
  · by_cases z : a = p
    · subst z
      have h1 : (if a = a then some o else F.H0 a) = some u := h1
      rw [if_pos rfl] at h1
      cases h1
      exact upd_same
    · have h1 : (if a = p then some o else F.H0 a) = some u := h1
      rw [if_neg z] at h1
      exact J.keep a u h1 h2
  · exact (if_neg (nh q hq)).trans (I.hfr q hq).1
theorem SI.unpin (I : SI (F.pin p o) σ st H) (f0 : F.H0 p = none) : SI F σ st H := by
  have fr : ∀ a, (F.pin p o).H0 a = none → F.H0 a = none := fun a h => by
    by_cases z : a = p
    · rw [z]; exact f0
    · exact (if_neg z).symm.trans h
  refine ⟨I.slot, I.one, fun i x a h1 h2 => ?_, fun a u h1 h2 => I.keep a u ?_ h2, I.glen, I.glob, I.gone, I.hid, fun q hq => ⟨fr _ (I.hfr q hq).1, (I.hfr q hq).2⟩⟩
  · obtain ⟨g1, g2, g3⟩ := I.fresh i x a h1 h2
    exact ⟨fr a g1, g2, g3⟩
  · by_cases z : a = p
    · rw [z, f0] at h1; cases h1
    · exact (if_neg z).trans h1
/-- the object is made -/
theorem SI.poke (I : SI (F.pin p o) σ st H) (f0 : F.H0 p = none) (nl : p ∉ F.l) (pe : Pers H (upd H p o')) : SI F σ st (upd H p o') := by
  have fp : (F.pin p o).H0 p = some o := if_pos rfl
  have J := I.unpin f0
  have ne : ∀ (i : Nat) (x : List D) (a : Addr), st.r[i]? = some (.own x) → σ[i]? = some (some (.ref a)) → a ≠ p := fun i x a h1 h2 e => by
    have := (I.fresh i x a h1 h2).1
    rw [e, fp] at this; cases this
  refine ⟨fun i x hx => ?_, J.one, J.fresh, fun b u h1 h2 => ?_, J.glen, fun k kd b h1 h2 => ?_, J.gone, fun q hq => ?_, J.hfr⟩
  · obtain ⟨y, h1, h2⟩ := J.slot i x hx
    refine ⟨y, h1, ?_⟩
    cases x with
    | none => trivial
    | val d => obtain ⟨v, e1, e2⟩ := h2; exact ⟨v, e1, Rep.pers pe _ _ e2⟩
    | own ds =>
      obtain ⟨b, ws, e1, e2, e3⟩ := h2
      refine ⟨b, ws, e1, ?_, RepL.pers pe _ _ e3⟩
      rw [upd_ne (ne i ds b hx (by rw [h1, e1]))]
      exact e2
    | glb k => exact h2
  · rw [upd_ne (fun z => by rw [z, f0] at h1; cases h1)]
    exact J.keep b u h1 h2
  · obtain ⟨kvs, q1, q2, q3⟩ := J.glob k kd b h1 h2
    refine ⟨kvs, ?_, q2, RepL.pers pe _ _ q3⟩
    rw [upd_ne (fun z => nl (by rw [← z]; exact List.mem_of_getElem? h2))]
    exact q1
  · obtain ⟨ws, q1, q2⟩ := J.hid q hq
    refine ⟨ws, ?_, RepL.pers pe _ _ q2⟩
    rw [upd_ne (fun z => by have := (I.hfr q hq).1; rw [z, fp] at this; cases this)]
    exact q1
/-- the object turns -/
theorem SI.repin (I : SI (F.pin p o) σ st H) (f0 : F.H0 p = none) (nl : p ∉ F.l) (pe : Pers H (upd H p o')) : SI (F.pin p o') σ st (upd H p o') := by
  have fp : (F.pin p o).H0 p = some o := if_pos rfl
  have J := I.poke f0 nl pe
  have ne : ∀ (i : Nat) (x : List D) (a : Addr), st.r[i]? = some (.own x) → σ[i]? = some (some (.ref a)) → a ≠ p := fun i x a h1 h2 e => by
    have := (I.fresh i x a h1 h2).1
    rw [e, fp] at this; cases this
  refine ⟨J.slot, J.one, fun i x a h1 h2 => ?_, fun b u h1 h2 => ?_, J.glen, J.glob, J.gone, J.hid, fun q hq => ⟨?_, (J.hfr q hq).2⟩⟩
  · obtain ⟨g1, g2, g3⟩ := J.fresh i x a h1 h2
    exact ⟨(if_neg (ne i x a h1 h2)).trans g1, g2, g3⟩
  · by_cases z : b = p
    · subst z
      have h1 : (if b = b then some o' else F.H0 b) = some u := h1
      rw [if_pos rfl] at h1
      cases h1
      exact upd_same
    · have h1 : (if b = p then some o' else F.H0 b) = some u := h1
      rw [if_neg z] at h1
      exact J.keep b u h1 h2
  · have := (I.hfr q hq).1
    have nq : q.1 ≠ p := fun z => by rw [z, fp] at this; cases this
    exact (if_neg nq).trans (J.hfr q hq).1
/-- the object is out: the heap without it -/
theorem SI.unmade (I : SI (F.pin p o) σ st H) (f0 : F.H0 p = none) (nl : p ∉ F.l) (mu : Mut (some o)) : SI F σ st (off H p) := by
  have fp : (F.pin p o).H0 p = some o := if_pos rfl
  have hp : H p = some o := I.keep p o fp nl
  have J := I.unpin f0
  have p1 : Pers H (off H p) := by
    refine ⟨fun b xs q => ?_, fun b o' u q => ?_⟩
    · rw [off_ne (fun z => by rw [z, hp] at q; cases q; exact mu)]; exact q
    · rw [off_ne (fun z => by rw [z, hp] at q; cases q; exact mu)]; exact q
  have ne : ∀ (i : Nat) (x : List D) (a : Addr), st.r[i]? = some (.own x) → σ[i]? = some (some (.ref a)) → a ≠ p := fun i x a h1 h2 e => by
    have := (I.fresh i x a h1 h2).1
    rw [e, fp] at this; cases this
  refine ⟨fun i x hx => ?_, J.one, J.fresh, fun b u h1 h2 => ?_, J.glen, fun k kd b h1 h2 => ?_, J.gone, fun q hq => ?_, J.hfr⟩
  · obtain ⟨y, h1, h2⟩ := J.slot i x hx
    refine ⟨y, h1, ?_⟩
    cases x with
    | none => trivial
    | val d => obtain ⟨v, e1, e2⟩ := h2; exact ⟨v, e1, Rep.pers p1 _ _ e2⟩
    | own ds =>
      obtain ⟨b, ws, e1, e2, e3⟩ := h2
      refine ⟨b, ws, e1, ?_, RepL.pers p1 _ _ e3⟩
      rw [off_ne (ne i ds b hx (by rw [h1, e1]))]
      exact e2
    | glb k => exact h2
  · rw [off_ne (fun z => by rw [z, f0] at h1; cases h1)]
    exact J.keep b u h1 h2
  · obtain ⟨kvs, q1, q2, q3⟩ := J.glob k kd b h1 h2
    refine ⟨kvs, ?_, q2, RepL.pers p1 _ _ q3⟩
    rw [off_ne (fun z => nl (by rw [← z]; exact List.mem_of_getElem? h2))]
    exact q1
  · obtain ⟨ws, q1, q2⟩ := J.hid q hq
    refine ⟨ws, ?_, RepL.pers p1 _ _ q2⟩
    rw [off_ne (fun z => by have := (I.hfr q hq).1; rw [z, fp] at this; cases this)]
    exact q1
end
section
variable {X : Cx} {T : Tbl} {XR : Hp → Nat → List D → Value → Option Addr → Prop} {W : WX} {a b c m : E} {ea eb ec e : Expr} {pos : Pos}
theorem trus_tru {K : PySem.W.Frag} {H : Hp} {d : D} {v : V} {k : Bool} (h : truS d = some k) (r : Rep H d v) : TruV K v H k ∧ truth d = some k := by
  cases d <;> simp only [truS] at h <;> try (cases h; done)
  · cases h; cases r; exact ⟨rfl, rfl⟩
  · cases h; cases r; exact ⟨rfl, rfl⟩
  · cases h; cases r; exact ⟨rfl, rfl⟩
theorem trus_truth {d : D} {k : Bool} (h : truS d = some k) : truth d = some k := by
  cases d <;> simp only [truS] at h <;> try (cases h; done)
  all_goals (cases h; rfl)
theorem s_orV (ha : PE X ea (den T XR W a)) (hb : PE X eb (den T XR W b)) : PE X (.BoolOp .Or [ea, eb] pos) (den T XR W (.orV a b)) :=
  peOf (pe_orT ha (s_and1 hb)) fun σ H Q ⟨F, st, I, h⟩ => by
    simp only [ev] at h
    refine ⟨F, st, I, h.bind fun d s1 H1 _ p I1 q v rv => ?_⟩
    cases et : truS d with
    | none => rw [et] at q; exact q.elim
    | some k =>
      rw [et] at q
      obtain ⟨t1, _⟩ := trus_tru (K := X.K) et rv
      refine ⟨k, t1, ?_⟩
      cases k with
      | true => rw [if_pos rfl]; exact q H1 (Pers.refl _) I1 _ rv
      | false => rw [if_neg (by decide)]; exact ⟨F, s1, I1, q⟩
theorem t_orV (ha : PT X ea (denT T XR W a)) (hb : PT X eb (denT T XR W b)) : PT X (.BoolOp .Or [ea, eb] pos) (denT T XR W (.orV a b)) := by
  refine PW.pt ⟨fun wh pins s σ H Q I0 ⟨F, st, I, h⟩ => (pw_or ha (t_and1 hb)).run wh pins s σ H Q I0 ?_⟩
  simp only [ev] at h
  refine ⟨F, st, I, h.bind fun d s1 H1 _ p I1 q => ?_⟩
  cases et : truS d with
  | none => rw [et] at q; exact q.elim
  | some k =>
    rw [et] at q
    have t2 := trus_truth et
    refine ⟨k, t2, ?_⟩
    cases k with
    | true =>
      rw [if_pos rfl]
      obtain ⟨b', e, q'⟩ := q H1 (Pers.refl _) I1
      rw [t2] at e
      cases e
      exact q'
    | false => rw [if_neg (by decide)]; exact ⟨F, s1, I1, q⟩
theorem s_star {es : List E} {xs : List Expr} {k : Nat} {p1 : Pos} (ha : PE X ea (tE T XR W a)) (h : All2 X T XR W es xs) (hn : (es.all fun a => a.isOwn.isNone) = true) : PE X (.Tuple (.Starred ea p1 :: xs) k pos) (den T XR W (.star a es)) := by
  refine peOf (pe_tup (StX.pa_star ha h.pa)) fun σ H Q ⟨F, st, I, w⟩ => ?_
  simp only [ev] at w
  have fin : ∀ {H1 : Hp} {s0 : Sx} {vs : List V} {ys : List D}, SI F σ s0 H1 → RepL H1 ys vs → Post XR W F σ H1 ((evs T es s0).bind fun ds s1 => if ys.length + ds.length ≤ big then .ok (.tup (ys ++ ds)) s1 else .bad) (fun d H' => ∀ v, Rep H' d v → Q v H') →
      tL T XR W es σ H1 fun us H2 => (vs ++ us).length ≤ sizeLine ∧ ∀ p, H2 p = none → Q (.ref p) (upd H2 p (.tup (vs ++ us))) := by
    intro H1 s0 vs ys I1 ry q
    refine args es s0 H1 _ I1 (q.bind fun ds s1 H2 _ p I2 q2 us ru => ?_)
    have r := ru.rep hn
    split at q2
    · rename_i hz
      have l1 := ry.len
      have l2 := r.len
      refine ⟨by rw [sz_big, List.length_append]; omega, fun p3 hp => ?_⟩
      have sm := same_upd (o := .tup (vs ++ us)) hp
      exact q2 _ (Pers.of_same sm) (I2.same sm) _ (by simp only [Rep]; exact ⟨p3, _, rfl, upd_same, RepL.pers (Pers.of_same sm) _ _ (RepL.append (RepL.pers p _ _ ry) r)⟩)
    · exact q2.elim
  show tE T XR W a σ H fun x H1 => ∃ p xs, x = V.ref p ∧ (SqT X.K H1 p xs ∨ SqL X.K H1 p xs) ∧ tL T XR W es σ H1 fun ys H2 => _
  unfold tE
  cases eo : a.isOwn with
  | some i =>
    rw [eo] at w
    simp only at w ⊢
    split at w
    · rename_i ys ey
      obtain ⟨b', us', g1, g2, g3⟩ := I.own ey
      exact ⟨.ref b', g1, b', us', rfl, .inr (.inl (.inl g2)), fin I g3 w⟩
    · exact w.elim
  | none =>
    rw [eo] at w
    simp only at w ⊢
    refine ⟨F, st, I, w.bind fun d s0 H1 _ p I1 q v rv => ?_⟩
    cases d <;> simp only [seqD] at q <;> try (exact q.elim)
    · simp only [Rep] at rv
      obtain ⟨b', vs, rfl, g1, g2⟩ := rv
      exact ⟨b', vs, rfl, .inl (SqT.of g1), fin I1 g2 q⟩
    · simp only [Rep] at rv
      obtain ⟨b', o, vs, rfl, g1, g2⟩ := rv
      exact ⟨b', vs, rfl, .inr (.inl (.inr ⟨o, g1⟩)), fin I1 g2 q⟩
theorem paired_at {α β : Type} {R : α → β → Prop} : ∀ {l₁ : List α} {l₂ : List β} (r : Paired R l₁ l₂) (j : Nat) {x : α} {y : β}, l₁[j]? = some x → l₂[j]? = some y → R x y
  | _, _, .nil, j, x, y, h1, _ => by simp at h1
  | _, _, .cons h t, 0, x, y, h1, h2 => by simp at h1 h2; subst h1 h2; exact h
  | _, _, .cons h t, j + 1, x, y, h1, h2 => paired_at t j (by simpa using h1) (by simpa using h2)
/-- tuple(d.values()) of an open dict -/
theorem pe_tvals {te : TE} {apos cpos p : Pos} (hc : X.calm = true) (hg : Gl X "tuple") (hm : X.mg "tuple" = none) (he : PE X e te) (hbase : attributeBase e "values" X.env (eval e X.env) = eval e X.env) (hline : (apos.endLine == cpos.line) = true) :
    PE X (.Call (.Name "tuple" p) [.Call (.Attribute e "values" apos) [] [] cpos] [] pos) (fun σ H Q => te σ H fun x H1 => ∃ d kvs, x = .ref d ∧ H1 d = some (.dK kvs) ∧ ∀ q, H1 q = none → Q (.ref q) (upd H1 q (.tup (kvs.map (·.2))))) := by
  refine ⟨fun pins s σ H Q I h => ?_⟩
  refine Call_ (ld_blt I hg hm boot_tuple (PyProof.Rows.callWith_type1 ?_ rfl rfl))
  show wpAny _ _ (spliced ((false, eval (.Call (.Attribute e "values" apos) [] [] cpos) X.env) :: backTo pos (starEach [] X.env))) _ _ s
  refine Calls.spliced_cons (wpAny_Call_method (T := "dict") (id := "dict.values") hbase rfl hline F.plainAttrs_dict F.slot_dict_values F.type_dict_values (thn (he.run pins s σ H _ I h) fun u s1 ⟨x, H1, I1, rx, d, kvs, ex, hd, q⟩ => ?_))
  subst ex
  obtain rfl : u = Value.ref d := rx
  obtain ⟨z, lo, vs, rk, hD⟩ := (show ObjOk X.prog X.w H1 s1.heap d (.dK kvs) from I1.hok d _ hd)
  have hm2 := hD
  obtain ⟨ep, hat⟩ := hD.dictAt
  have hl : kvs.length = vs.length := Paired.length rk
  refine ⟨hat.dictOf.typeIs, hat.dictOf.mapOf.noDict, ?_⟩
  have I2 : Inv X pins σ H1 { s1 with heap := s1.heap.push { cls := .type "dict_values", data := .fields #[.ref d] } } := I1.kept (t' := s1.toks) fun b ob q => Heap.get?_push_of_some _ q
  refine method_meetsIn F.slot_dict_values F.entry_dict_values rfl (PySem.evalArgs_none ⟨rfl, hat.dictOf.typeIs, F.args_dict_values_1 _, _, meets_dict_values (mixKind X.prog X.w) d lo, ⟨vs, hat.dictOf⟩, Calls.spliced_nil ?_⟩)
  refine call_tuple_src (PySem.W.kdl_values (knd := mixKind X.prog X.w) (kvs := vs) (ep := ep)) rfl (I1.ok.hd hc) ⟨⟨_, Heap.get?_push_size _ rfl, rfl, rfl⟩, hat.push _⟩ (by rw [← hl]; exact z) fun h' tk acc hk hacc => ?_
  have hgev : ∀ b o, s1.heap.get? b = some o → (h'.push { cls := .type "tuple", data := .seq acc }).get? b = some o := fun b o e => Heap.get?_push_of_some _ (hk b o (Heap.get?_push_of_some _ e))
  have hle : s1.heap.objs.size ≤ h'.objs.size := by
    have := hk _ _ (Heap.get?_push_size s1.heap (o := { cls := .type "dict_values", data := .fields #[.ref d] }) rfl)
    exact Nat.le_of_lt (Heap.lt_size this)
  refine ⟨.ref h'.objs.size, upd H1 h'.objs.size (.tup (kvs.map (·.2))), I1.laid hgev hle (show ObjOk X.prog X.w _ _ _ (.tup (kvs.map (·.2))) from ⟨?_, acc.toList, ?_, ?_⟩), rfl, q _ (I1.hok.fresh hle)⟩
  · rw [List.length_map]; exact z
  · have el : acc.toList.length = acc.size := by simp
    refine vals_of_at (by rw [List.length_map, el, hacc.1, hl]) fun j x w h1 h2 => ?_
    obtain ⟨k, hky⟩ := hacc.2 j w (by rw [← Array.getElem?_toList]; exact h2)
    rw [List.getElem?_map] at h1
    cases hx : kvs[j]? with
    | none => rw [hx] at h1; cases h1
    | some kv =>
      rw [hx] at h1
      cases h1
      exact (paired_at rk j hx hky).2
  · have e : acc.toList.toArray = acc := by simp
    rw [e]
    exact IsTup.new _ _
theorem s_gvals {i : Nat} {x : Str} {p1 apos cpos p : Pos} (hc : X.calm = true) (hg : Gl X "tuple") (hm : X.mg "tuple" = none) (hN : X.N[i]? = some x) (hv : Vis X.env.scope x) (hd : (x == ("__debug__" : Str)) = false) (hcd : (x == ("__classdict__" : Str)) = false) (hline : (apos.endLine == cpos.line) = true) :
    PE X (.Call (.Name "tuple" p) [.Call (.Attribute (.Name x p1) "values" apos) [] [] cpos] [] pos) (den T XR W (.gvals i)) := by
  refine peOf (pe_tvals hc hg hm (pe_var hN hv hd hcd) (base_plain (by rfl) _ _) hline) fun σ H Q ⟨F, st, I, h⟩ => ?_
  simp only [ev] at h
  split at h
  · rename_i j ej
    split at h
    · rename_i kd ekd
      split at h
      · rename_i hz
        obtain ⟨y, h1, h2⟩ := I.slot i _ ej
        obtain ⟨a, rfl, h3⟩ := h2
        obtain ⟨kvs, q1, q2, q3⟩ := I.glob j kd a ekd h3
        refine ⟨.ref a, h1, a, kvs, rfl, q1, fun q hq => ?_⟩
        have sm := same_upd (o := .tup (kvs.map (·.2))) hq
        exact h _ (Pers.of_same sm) (I.same sm) _ (by simp only [Rep]; exact ⟨q, _, rfl, upd_same, RepL.pers (Pers.of_same sm) _ _ q3⟩)
      · exact h.elim
    · exact h.elim
  · exact h.elim
/-! ### comprehensions that make dicts -/
theorem n_dcomp {F : Fx} {ek ew : E} {pt : Pat} {it : ItK} {src cs : List E} {ws : List Nat} {K : PySem.W.Frag} {σ : L2.St} {H : Hp} {Q : VK} (hc : cs.length ≤ 1) (hv : ∀ i ∈ pt.vars, i ∈ ws) (h : denN T XR W (.dcomp ek ew pt it src cs ws) σ H Q) :
    tDc (iD T XR W it src) (patG K pt) (tCs T XR W0 cs) (den T XR W0 ek) (den T XR W0 ew) ws σ H Q := by
  obtain ⟨F, st, I, h⟩ := h
  simp only [ev] at h
  refine ⟨F, st, I, h.bind fun ds s1 H1 _ p1 I1 q => ?_⟩
  cases ei : it.get ds with
  | none => rw [ei] at q; exact q.elim
  | some its =>
    rw [ei] at q
    simp only at q
    refine ⟨its, rfl, fun J H2 sm wk => ?_⟩
    have I2 := I1.same sm
    cases ec : compD (bindP pt) (evt T cs) (ev T ek) (ev T ew) ws its [] s1 with
    | bad => rw [ec] at q; exact q.elim
    | exc => rw [ec] at q; exact q.elim
    | ok RS S2 =>
      rw [ec] at q
      simp only at q
      intro Dp hD
      obtain ⟨f0, nl, nh⟩ := I2.free hD
      let Wv : Nat → Nat → Hp → Prop := fun i mm Hc => mm = its.length - i ∧ i ≤ its.length ∧ Pers H2 Hc ∧ ∃ (sti : Sx) (acc : Gd) (kvs : List (Key × V)),
        SI (F.pin Dp (.dK kvs)) (wipe σ ws) ⟨wipeR sti.r ws, sti.g⟩ Hc ∧ kvs.map (·.1) = acc.map (·.1) ∧ RepL Hc (acc.map (·.2)) (kvs.map (·.2)) ∧ compD (bindP pt) (evt T cs) (ev T ek) (ev T ew) ws (its.drop i) acc sti = .ok RS S2
      refine ⟨Wv, ⟨its.length, by simp, Nat.zero_le _, Pers.of_same (same_upd hD), s1, [], [], (I2.wiped ws).pin hD, rfl, by simp [RepL], by rw [List.drop_zero]; exact ec⟩, ?_⟩
      rintro i mm Hc ⟨rfl, hi, pc, sti, acc, kvs, Ic, hk, hr, eq⟩
      by_cases hlt : i < its.length
      · have hx : its[i]? = some its[i] := List.getElem?_eq_getElem hlt
        obtain ⟨go, yld⟩ := wk.go i Hc _ pc hx
        refine .inr ⟨go, fun H' => ∃ m', m' < its.length - i ∧ Wv (i + 1) m' H', fun H' z => z, fun x H' hy => ?_⟩
        obtain ⟨sm2, rx⟩ := yld x H' hy
        have Id := Ic.same sm2
        rw [List.drop_eq_getElem_cons hlt] at eq
        simp only [compD] at eq
        cases eb : bindP pt its[i] (wipeR sti.r ws) with
        | none => rw [eb] at eq; cases eq
        | some r1 =>
          rw [eb] at eq
          simp only at eq
          refine bindP_run pt _ _ r1 x _ _ eb Id rx fun σ2 J2 hw => ⟨by rw [hw ws hv]; exact wipe_wipe, ?_⟩
          have hw2 : wipe σ2 ws = wipe σ ws := by rw [hw ws hv]; exact wipe_wipe
          cases et : evt T cs ⟨r1, sti.g⟩ with
          | bad => rw [et] at eq; cases eq
          | exc => rw [et] at eq; cases eq
          | ok t s2 =>
            rw [et] at eq
            simp only [Res.bind] at eq
            refine tCs_go hc J2 et fun H3 p3 J3 => ?_
            cases t with
            | false =>
              rw [if_neg (by decide)] at eq
              rw [if_neg (by decide)]
              refine ⟨its.length - (i + 1), by omega, rfl, hlt, pc.trans ((Pers.of_same sm2).trans p3), s2, acc, kvs, ?_, hk, RepL.pers ((Pers.of_same sm2).trans p3) _ _ hr, eq⟩
              have := J3.wiped ws
              rw [hw2] at this
              exact this
            | true =>
              rw [if_pos rfl] at eq
              rw [if_pos rfl]
              cases e1 : ev T ek s2 with
              | bad => rw [e1] at eq; cases eq
              | exc => rw [e1] at eq; cases eq
              | ok dk s3 =>
                rw [e1] at eq
                simp only at eq
                refine ⟨_, s2, J3, ?_⟩
                rw [e1]
                intro H4 p4 J4 y ry
                cases e2 : ev T ew s3 with
                | bad => rw [e2] at eq; cases eq
                | exc => rw [e2] at eq; cases eq
                | ok dv s4 =>
                  rw [e2] at eq
                  simp only at eq
                  refine ⟨_, s3, J4, ?_⟩
                  rw [e2]
                  intro H5 p5 J5 z rz
                  cases e3 : keyD dk with
                  | none => rw [e3] at eq; cases eq
                  | some key =>
                    rw [e3] at eq
                    simp only at eq
                    split at eq
                    rotate_left
                    · cases eq
                    rename_i hb
                    have hk5 : H5 Dp = some (.dK kvs) := J5.keep Dp _ (if_pos rfl) nl
                    have pe : Pers H5 (upd H5 Dp (.dK (putK kvs key z))) := pers_upd hk5 trivial
                    have hr5 := RepL.pers ((Pers.of_same sm2).trans (p3.trans (p4.trans p5))) _ _ hr
                    obtain ⟨z1, z2⟩ := setK_rep (k := key) rz hk hr5
                    have hln : kvs.length = acc.length := by have := congrArg List.length hk; simpa using this
                    refine ⟨kvs, key, key_rd e3 (Rd.of ry), hk5, by rw [sz_big, hln]; exact hb, its.length - (i + 1), by omega, rfl, hlt, pc.trans ((Pers.of_same sm2).trans (p3.trans (p4.trans (p5.trans pe)))), s4, setK acc key dv, putK kvs key z, ?_, z1, RepL.pers pe _ _ z2, eq⟩
                    have := (J5.wiped ws).repin (o' := .dK (putK kvs key z)) f0 nl pe
                    rw [hw2] at this
                    exact this
      · have e : i = its.length := by omega
        subst e
        rw [List.drop_length] at eq
        simp only [compD] at eq
        cases eq
        refine .inl ⟨wk.stop Hc pc, ?_⟩
        have hkc : Hc Dp = some (.dK kvs) := Ic.keep Dp _ (if_pos rfl) nl
        have Jb := Ic.unmade f0 nl trivial
        have pb : Pers H2 (off Hc Dp) := by
          refine ⟨fun b xs z => ?_, fun b o u z => ?_⟩
          · rw [off_ne (fun y => by rw [y, hD] at z; cases z)]; exact pc.tup _ _ z
          · rw [off_ne (fun y => by rw [y, hD] at z; cases z)]; exact pc.frz _ _ _ z
        have Je := SI.back I2 pb Jb
        refine q (off Hc Dp) ((Pers.of_same sm).trans pb) Je (.ref Dp) Hc (fun b o z => ?_) ⟨Dp, kvs, rfl, off_same, hkc, hk, hr⟩
        by_cases hb : b = Dp
        · rw [hb, off_same] at z; cases z
        · rw [off_ne hb] at z; exact z
end
end Rf

set_option Elab.async false
set_option linter.all false
set_option maxRecDepth 100000
set_option maxHeartbeats 4000000
namespace Rf
open PySem PySem.Spec PyProof.Rows L2

/-! ### comprehensions of two clauses -/
theorem wipe_in {σ : L2.St} : ∀ {us : List Nat} {j : Nat}, j ∈ us → j < σ.length → (wipe σ us)[j]? = some none
  | [], j, h, _ => by simp at h
  | u :: us, j, h, hl => by
    show ((wipe σ us).set u none)[j]? = _
    by_cases e : u = j
    · subst e
      exact List.getElem?_set_self (by rw [wipe_length]; exact hl)
    · rw [List.getElem?_set_ne e]
      rcases List.mem_cons.mp h with h | h
      · exact absurd h.symm e
      · exact wipe_in h hl
theorem wipe_sub {σ : L2.St} {us vs : List Nat} (h : ∀ i ∈ us, i ∈ vs) : wipe (wipe σ us) vs = wipe σ vs := by
  refine List.ext_getElem? fun j => ?_
  by_cases hj : j ∈ vs
  · by_cases hl : j < σ.length
    · rw [wipe_in hj (by rw [wipe_length]; exact hl), wipe_in hj hl]
    · rw [List.getElem?_eq_none (by rw [wipe_length, wipe_length]; omega), List.getElem?_eq_none (by rw [wipe_length]; omega)]
  · rw [wipe_get hj, wipe_get hj, wipe_get (fun z => hj (h _ z))]
theorem wipeR_len {r : List Slot} : ∀ (us : List Nat), (wipeR r us).length = r.length
  | [] => rfl
  | u :: us => by show ((wipeR r us).set u .none).length = _; rw [List.length_set, wipeR_len us]
theorem wipeR_out {r : List Slot} : ∀ {us : List Nat} {j : Nat}, j ∉ us → (wipeR r us)[j]? = r[j]?
  | [], j, _ => rfl
  | u :: us, j, h => by
    simp only [List.mem_cons, not_or] at h
    show ((wipeR r us).set u .none)[j]? = _
    rw [List.getElem?_set_ne (Ne.symm h.1)]
    exact wipeR_out h.2
theorem wipeR_in {r : List Slot} : ∀ {us : List Nat} {j : Nat}, j ∈ us → j < r.length → (wipeR r us)[j]? = some .none
  | [], j, h, _ => by simp at h
  | u :: us, j, h, hl => by
    show ((wipeR r us).set u .none)[j]? = _
    by_cases e : u = j
    · subst e
      exact List.getElem?_set_self (by rw [wipeR_len]; exact hl)
    · rw [List.getElem?_set_ne e]
      rcases List.mem_cons.mp h with h | h
      · exact absurd h.symm e
      · exact wipeR_in h hl
theorem wipeR_sub {r : List Slot} {us vs : List Nat} (h : ∀ i ∈ us, i ∈ vs) : wipeR (wipeR r us) vs = wipeR r vs := by
  refine List.ext_getElem? fun j => ?_
  by_cases hj : j ∈ vs
  · by_cases hl : j < r.length
    · rw [wipeR_in hj (by rw [wipeR_len]; exact hl), wipeR_in hj hl]
    · rw [List.getElem?_eq_none (by rw [wipeR_len, wipeR_len]; omega), List.getElem?_eq_none (by rw [wipeR_len]; omega)]
  · rw [wipeR_out hj, wipeR_out hj, wipeR_out (fun z => hj (h _ z))]
section
variable {X : Cx} {T : Tbl} {XR : Hp → Nat → List D → Value → Option Addr → Prop} {W : WX} {a b c m : E} {ea eb ec e : Expr} {pos : Pos}
theorem n_comp2 {F : Fx} {elt : E} {p1 p2 : Pat} {i1 i2 : ItK} {src1 src2 c1 c2 : List E} {ws ws2 : List Nat} {K : PySem.W.Frag} {σ : L2.St} {H : Hp} {Q : VK} (hc1 : c1.length ≤ 1) (hc2 : c2.length ≤ 1) (hv : ∀ i ∈ p1.vars, i ∈ ws) (hv2 : ∀ i ∈ p2.vars, i ∈ ws2) (hs : ∀ i ∈ ws2, i ∈ ws)
    (h : denN T XR W (.comp2 elt p1 i1 src1 c1 p2 i2 src2 c2 ws ws2) σ H Q) :
    tLc2 (iD T XR W i1 src1) (patG K p1) (tCs T XR W0 c1) (iD T XR W0 i2 src2) (patG K p2) (tCs T XR W0 c2) (den T XR W0 elt) ws ws2 σ H Q := by
  obtain ⟨F, st, I, h⟩ := h
  simp only [ev] at h
  refine ⟨F, st, I, h.bind fun ds s1 H1 _ p1' I1 q => ?_⟩
  cases ei : i1.get ds with
  | none => rw [ei] at q; exact q.elim
  | some its =>
    rw [ei] at q
    simp only at q
    refine ⟨its, rfl, fun J H2 sm wk => ?_⟩
    have I2 := I1.same sm
    generalize hinner : (fun s => (evs T src2 s).bind fun es s2 => match i2.get es with
        | some ys => compL (bindP p2) (evt T c2) (ev T elt) ws2 ys s2
        | none => (Res.bad : Res (List D))) = inner at q
    cases ec : compO (bindP p1) (evt T c1) inner ws its s1 with
    | bad => rw [ec] at q; exact q.elim
    | exc => rw [ec] at q; exact q.elim
    | ok RS S2 =>
      rw [ec] at q
      simp only at q
      split at q
      rotate_left
      · exact q.elim
      rename_i hbig
      intro Dp hD
      have nd : ∀ z ∈ F.hid, z.1 ≠ Dp := fun z hz e => by
        obtain ⟨vs, g, _⟩ := I2.hid z hz
        rw [e, hD] at g; cases g
      let Wv : Nat → Nat → Hp → Prop := fun i mm Hc => mm = its.length - i ∧ i ≤ its.length ∧ Pers H2 Hc ∧ ∃ (sti : Sx) (acc : List D) (rs : List D),
        SI { F with hid := (Dp, acc) :: F.hid } (wipe σ ws) ⟨wipeR sti.r ws, sti.g⟩ Hc ∧ compO (bindP p1) (evt T c1) inner ws (its.drop i) sti = .ok rs S2 ∧ RS = acc ++ rs
      refine ⟨Wv, ⟨its.length, by simp, Nat.zero_le _, Pers.of_same (same_upd hD), s1, [], RS, (I2.wiped ws).hide hD (by simp [RepL]), by rw [List.drop_zero]; exact ec, rfl⟩, ?_⟩
      rintro i mm Hc ⟨rfl, hi, pc, sti, acc, rs, Ic, eq, hrs⟩
      by_cases hlt : i < its.length
      · have hx : its[i]? = some its[i] := List.getElem?_eq_getElem hlt
        obtain ⟨go, yld⟩ := wk.go i Hc _ pc hx
        refine .inr ⟨go, fun H' => ∃ m', m' < its.length - i ∧ Wv (i + 1) m' H', fun H' z => z, fun x H' hy => ?_⟩
        obtain ⟨sm2, rx⟩ := yld x H' hy
        have Id := Ic.same sm2
        rw [List.drop_eq_getElem_cons hlt] at eq
        simp only [compO] at eq
        cases eb : bindP p1 its[i] (wipeR sti.r ws) with
        | none => rw [eb] at eq; cases eq
        | some r1 =>
          rw [eb] at eq
          simp only at eq
          refine bindP_run p1 _ _ r1 x _ _ eb Id rx fun σ2 J2 hw => ⟨by rw [hw ws hv]; exact wipe_wipe, ?_⟩
          have hw2 : wipe σ2 ws = wipe σ ws := by rw [hw ws hv]; exact wipe_wipe
          cases et : evt T c1 ⟨r1, sti.g⟩ with
          | bad => rw [et] at eq; cases eq
          | exc => rw [et] at eq; cases eq
          | ok t s2 =>
            rw [et] at eq
            simp only [Res.bind] at eq
            refine tCs_go hc1 J2 et fun H3 p3 J3 => ?_
            cases t with
            | false =>
              rw [if_neg (by decide)] at eq
              rw [if_neg (by decide)]
              refine ⟨its.length - (i + 1), by omega, rfl, hlt, pc.trans ((Pers.of_same sm2).trans p3), s2, acc, rs, ?_, eq, hrs⟩
              have := J3.wiped ws
              rw [hw2] at this
              exact this
            | true =>
              rw [if_pos rfl] at eq
              rw [if_pos rfl]
              cases einn : inner s2 with
              | bad => rw [einn] at eq; cases eq
              | exc => rw [einn] at eq; cases eq
              | ok ds1 s3 =>
                rw [einn] at eq
                simp only at eq
                cases er : compO (bindP p1) (evt T c1) inner ws (its.drop (i + 1)) s3 with
                | bad => rw [er] at eq; cases eq
                | exc => rw [er] at eq; cases eq
                | ok r4 s4 =>
                  rw [er] at eq
                  cases eq
                  rw [← hinner] at einn
                  simp only at einn
                  refine ⟨_, s2, J3, ?_⟩
                  cases es2 : evs T src2 s2 with
                  | bad => rw [es2] at einn; cases einn
                  | exc => rw [es2] at einn; cases einn
                  | ok es st2 =>
                    rw [es2] at einn
                    simp only [Res.bind] at einn
                    intro H4 p4 J4
                    cases ei2 : i2.get es with
                    | none => rw [ei2] at einn; cases einn
                    | some its2 =>
                      rw [ei2] at einn
                      simp only at einn
                      refine ⟨its2, rfl, fun J1 H5 sm5 wk1 => ?_⟩
                      have J5 := J4.same sm5
                      have pc5 : Pers H2 H5 := pc.trans ((Pers.of_same sm2).trans (p3.trans (p4.trans (Pers.of_same sm5))))
                      let Wi : Nat → Nat → Hp → Prop := fun j kk Hd => kk = its2.length - j ∧ j ≤ its2.length ∧ Pers H5 Hd ∧ ∃ (stj : Sx) (acc1 : List D) (rs1 : List D),
                        SI { F with hid := (Dp, acc1) :: F.hid } (wipe σ2 ws2) ⟨wipeR stj.r ws2, stj.g⟩ Hd ∧ compL (bindP p2) (evt T c2) (ev T elt) ws2 (its2.drop j) stj = .ok rs1 s3 ∧ RS = acc1 ++ rs1 ++ r4
                      refine ⟨Wi, ⟨its2.length, by simp, Nat.zero_le _, Pers.refl _, st2, acc, ds1, J5.wiped ws2, by rw [List.drop_zero]; exact einn, by rw [hrs, List.append_assoc]⟩, ?_⟩
                      rintro j kk Hd ⟨rfl, hj, pd, stj, acc1, rs1, Ij, eqj, hrs1⟩
                      by_cases hltj : j < its2.length
                      · have hxj : its2[j]? = some its2[j] := List.getElem?_eq_getElem hltj
                        obtain ⟨go1, yld1⟩ := wk1.go j Hd _ pd hxj
                        refine .inr ⟨go1, fun H' => ∃ m', m' < its2.length - j ∧ Wi (j + 1) m' H', fun H' z => z, fun x1 H6 hy1 => ?_⟩
                        obtain ⟨sm6, rx1⟩ := yld1 x1 H6 hy1
                        have Ij6 := Ij.same sm6
                        rw [List.drop_eq_getElem_cons hltj] at eqj
                        simp only [compL] at eqj
                        cases eb2 : bindP p2 its2[j] (wipeR stj.r ws2) with
                        | none => rw [eb2] at eqj; cases eqj
                        | some r2 =>
                          rw [eb2] at eqj
                          simp only at eqj
                          refine bindP_run p2 _ _ r2 x1 _ _ eb2 Ij6 rx1 fun σ3 K3 hw3 => ⟨by rw [hw3 ws2 hv2]; exact wipe_wipe, ?_⟩
                          have hw4 : wipe σ3 ws2 = wipe σ2 ws2 := by rw [hw3 ws2 hv2]; exact wipe_wipe
                          cases et2 : evt T c2 ⟨r2, stj.g⟩ with
                          | bad => rw [et2] at eqj; cases eqj
                          | exc => rw [et2] at eqj; cases eqj
                          | ok t2 s5 =>
                            rw [et2] at eqj
                            simp only [Res.bind] at eqj
                            refine tCs_go hc2 K3 et2 fun H7 p7 K7 => ?_
                            cases t2 with
                            | false =>
                              rw [if_neg (by decide)] at eqj
                              rw [if_neg (by decide)]
                              refine ⟨its2.length - (j + 1), by omega, rfl, hltj, pd.trans ((Pers.of_same sm6).trans p7), s5, acc1, rs1, ?_, eqj, hrs1⟩
                              have := K7.wiped ws2
                              rw [hw4] at this
                              exact this
                            | true =>
                              rw [if_pos rfl] at eqj
                              rw [if_pos rfl]
                              cases ee : ev T elt s5 with
                              | bad => rw [ee] at eqj; cases eqj
                              | exc => rw [ee] at eqj; cases eqj
                              | ok d s6 =>
                                rw [ee] at eqj
                                simp only at eqj
                                cases er2 : compL (bindP p2) (evt T c2) (ev T elt) ws2 (its2.drop (j + 1)) s6 with
                                | bad => rw [er2] at eqj; cases eqj
                                | exc => rw [er2] at eqj; cases eqj
                                | ok r5 s7 =>
                                  rw [er2] at eqj
                                  cases eqj
                                  refine ⟨_, s5, K7, ?_⟩
                                  rw [ee]
                                  intro H8 p8 K8 v rv
                                  obtain ⟨vs, g1, g2⟩ := K8.hid (Dp, acc1) (by simp)
                                  refine ⟨vs, g1, ?_, its2.length - (j + 1), by omega, rfl, hltj, pd.trans ((Pers.of_same sm6).trans (p7.trans (p8.trans (pers_upd g1 trivial)))), s6, acc1 ++ [d], r5, ?_, er2, by rw [hrs1]; simp⟩
                                  · rw [sz_big, ← (show acc1.length = vs.length from g2.len)]
                                    rw [hrs1] at hbig
                                    simp at hbig
                                    omega
                                  · have := (K8.wiped ws2).grow g1 nd rv
                                    rw [hw4] at this
                                    exact this
                      · have e : j = its2.length := by omega
                        subst e
                        rw [List.drop_length] at eqj
                        simp only [compL] at eqj
                        cases eqj
                        refine .inl ⟨wk1.stop Hd pd, its.length - (i + 1), by omega, rfl, hlt, pc5.trans pd, _, acc1, r4, ?_, er, by rw [hrs1, List.append_nil]⟩
                        have := Ij.wiped ws
                        rw [wipe_sub hs, hw2, wipeR_sub hs] at this
                        exact this
      · have e : i = its.length := by omega
        subst e
        rw [List.drop_length] at eq
        simp only [compO] at eq
        cases eq
        refine .inl ⟨wk.stop Hc pc, ?_⟩
        rw [List.append_nil] at hrs
        subst hrs
        obtain ⟨vs, g1, g2⟩ := Ic.hid (Dp, RS) (by simp)
        have Jb := Ic.bare nd
        have pb : Pers H2 (off Hc Dp) := by
          refine ⟨fun b xs z => ?_, fun b o u z => ?_⟩
          · rw [off_ne (fun y => by rw [y, hD] at z; cases z)]; exact pc.tup _ _ z
          · rw [off_ne (fun y => by rw [y, hD] at z; cases z)]; exact pc.frz _ _ _ z
        have Je := SI.back I2 pb Jb
        refine q (off Hc Dp) ((Pers.of_same sm).trans pb) Je (.ref Dp) Hc (fun b o z => ?_) ⟨Dp, vs, rfl, off_same, g1, g2⟩
        by_cases hb : b = Dp
        · rw [hb, off_same] at z; cases z
        · rw [off_ne hb] at z; exact z
end
end Rf

set_option Elab.async false
set_option linter.all false
set_option maxRecDepth 100000
set_option maxHeartbeats 4000000
namespace Rf
open PySem PySem.Spec PyProof.Rows L2

/-! ### calls with names in any order -/
/-- tn: the names as the call gives them (the first j by place), pm: for each parameter where its value stands -/
structure PmOk (ps : List Str) (j : Nat) (kn : List Str) (pm : List Nat) : Prop where
  len : pm.length = ps.length
  pos : pm.take j = List.range j
  nam : pm.drop j = (pm.drop j).filter fun i => j ≤ i
  get : (pm.drop j).map (fun i => kn[i - j]?) = (ps.drop j).map some
  per : ((pm.drop j).map (· - j)).Perm (List.range kn.length)
  kl : j + kn.length = ps.length
def pmB (ps : List Str) (j : Nat) (kn : List Str) (pm : List Nat) : Bool :=
  decide (pm.length = ps.length) && decide (pm.take j = List.range j) && (pm.drop j).all (fun i => decide (j ≤ i)) && decide ((pm.drop j).map (fun i => kn[i - j]?) = (ps.drop j).map some) && ((pm.drop j).map (· - j)).isPerm (List.range kn.length) && decide (j + kn.length = ps.length)
theorem pm_of {ps : List Str} {j : Nat} {kn : List Str} {pm : List Nat} (h : pmB ps j kn pm = true) : PmOk ps j kn pm := by
  unfold pmB at h
  simp only [Bool.and_eq_true, decide_eq_true_eq, List.all_eq_true] at h
  obtain ⟨⟨⟨⟨⟨h1, h2⟩, h3⟩, h4⟩, h5⟩, h6⟩ := h
  exact ⟨h1, h2, (List.filter_eq_self.mpr fun a ha => by simpa using h3 a ha).symm, h4, List.isPerm_iff.mp h5, h6⟩
def pickL {α : Type} (xs : List α) (d : α) (pm : List Nat) : List α := pm.map fun i => xs.getD i d
theorem pickL_pos {α : Type} {us ws : List α} {d : α} : ∀ (j : Nat), j ≤ us.length → pickL (us ++ ws) d (List.range j) = us.take j := by
  intro j hj
  refine List.ext_getElem? fun i => ?_
  unfold pickL
  rw [List.getElem?_map, List.getElem?_take]
  by_cases h : i < j
  · rw [if_pos h, List.getElem?_range h]
    simp only [Option.map_some]
    rw [List.getD_eq_getElem?_getD, List.getElem?_append_left (by omega), List.getElem?_eq_getElem (by omega : i < us.length)]
    rfl
  · rw [if_neg h, List.getElem?_eq_none (by simp; omega)]
    rfl
theorem pm_split {ps kn : List Str} {j : Nat} {pm : List Nat} {α : Type} {us ws : List α} {d : α} (h : PmOk ps j kn pm) (hu : us.length = j) (hw : ws.length = kn.length) :
    (pickL (us ++ ws) d pm).length = ps.length ∧ (pickL (us ++ ws) d pm).take j = us ∧ (kn.zip ws).Perm ((ps.drop j).zip ((pickL (us ++ ws) d pm).drop j)) := by
  refine ⟨by unfold pickL; rw [List.length_map, h.len], ?_, ?_⟩
  · have : (pickL (us ++ ws) d pm).take j = pickL (us ++ ws) d (pm.take j) := by unfold pickL; rw [List.map_take]
    rw [this, h.pos, pickL_pos j (by omega), List.take_of_length_le (by omega)]
  · have e1 : (pickL (us ++ ws) d pm).drop j = pickL (us ++ ws) d (pm.drop j) := by unfold pickL; rw [List.map_drop]
    have e2 : (ps.drop j).zip (pickL (us ++ ws) d (pm.drop j)) = ((pm.drop j).map (· - j)).filterMap fun i => (kn.zip ws)[i]? := by
      have hn := h.nam
      have hg := h.get
      generalize pm.drop j = qm at hn hg
      generalize ps.drop j = qs at hg
      induction qm generalizing qs with
      | nil =>
        cases qs with
        | nil => rfl
        | cons _ _ => simp at hg
      | cons i qm ih =>
        cases qs with
        | nil => simp at hg
        | cons q qs =>
          simp only [List.map_cons, List.cons.injEq] at hg
          have hij : j ≤ i := by
            by_cases z : j ≤ i
            · exact z
            · rw [List.filter_cons, if_neg (by simpa using z)] at hn
              have := congrArg List.length hn
              have l2 := List.length_filter_le (fun i => decide (j ≤ i)) qm
              simp only [List.length_cons] at this
              omega
          rw [List.filter_cons, if_pos (by simpa using hij)] at hn
          have hn := (List.cons.inj hn).2
          have := ih hn qs hg.2
          have hk : i - j < kn.length := (List.getElem?_eq_some_iff.mp hg.1).1
          have hwi : i - j < ws.length := by omega
          have ez : (kn.zip ws)[i - j]? = some (q, ws[i - j]) := by
            rw [List.getElem?_zip_eq_some]
            exact ⟨hg.1, List.getElem?_eq_getElem hwi⟩
          have eg : (us ++ ws).getD i d = ws[i - j] := by
            rw [List.getD_eq_getElem?_getD, List.getElem?_append_right (by omega), hu, List.getElem?_eq_getElem hwi]
            rfl
          simp only [List.map_cons, List.filterMap_cons, ez]
          unfold pickL at this ⊢
          simp only [List.map_cons, List.zip_cons_cons, eg, this]
    rw [e1, e2]
    have lz : (kn.zip ws).length = kn.length := by rw [List.length_zip]; omega
    have p1 := (h.per.filterMap fun i => (kn.zip ws)[i]?).symm
    refine List.Perm.trans ?_ p1
    have : (List.range kn.length).filterMap (fun i => (kn.zip ws)[i]?) = kn.zip ws := by
      rw [← lz]
      generalize kn.zip ws = l
      induction l with
      | nil => rfl
      | cons y l ih =>
        rw [List.length_cons, List.range_succ_eq_map, List.filterMap_cons]
        simp only [List.getElem?_cons_zero, List.filterMap_map]
        congr 1
    rw [this]
section
variable {X : Cx} {T : Tbl} {XR : Hp → Nat → List D → Value → Option Addr → Prop} {W : WX} {a b c m : E} {ea eb ec e : Expr} {pos : Pos}
theorem SlotReps.get {l : List Addr} {H : Hp} : ∀ {xs : List Slot} {vs : List V} {i : Nat}, SlotReps l H xs vs → i < xs.length → ∃ x v, xs[i]? = some x ∧ vs[i]? = some v ∧ ∃ r, SlotReps l H [x] [v] ∧ r = ()
  | [], vs, i, _, h => by simp at h
  | x :: xs, vs, 0, h, _ => by
    obtain ⟨v, r, rfl, h1, h2⟩ := h
    exact ⟨x, v, rfl, rfl, (), ⟨v, [], rfl, h1, rfl⟩, rfl⟩
  | x :: xs, vs, i + 1, h, hl => by
    obtain ⟨v, r, rfl, h1, h2⟩ := h
    obtain ⟨y, u, q1, q2, q3⟩ := SlotReps.get (i := i) h2 (by simpa using hl)
    exact ⟨y, u, by simpa using q1, by simpa using q2, q3⟩
theorem SlotReps.pick {l : List Addr} {H : Hp} {xs : List Slot} {vs : List V} (h : SlotReps l H xs vs) : ∀ {pm : List Nat}, (∀ i ∈ pm, i < xs.length) → SlotReps l H (Rf.pick xs pm) (pickL vs .non pm)
  | [], _ => rfl
  | i :: pm, hp => by
    obtain ⟨x, v, q1, q2, _, q3, _⟩ := h.get (hp i (by simp))
    obtain ⟨v', r, e, h1, h2⟩ := q3
    cases e
    have ih := SlotReps.pick h (pm := pm) fun k hk => hp k (List.mem_cons_of_mem _ hk)
    have e1 : xs.getD i .none = x := by rw [List.getD_eq_getElem?_getD, q1]; rfl
    have e2 : vs.getD i .non = v := by rw [List.getD_eq_getElem?_getD, q2]; rfl
    refine ⟨v, pickL vs .non pm, by unfold pickL; rw [List.map_cons, e2], ?_, ih⟩
    show (match xs.getD i .none with | .val d => Rep H d v | .glb k => ∃ a, v = V.ref a ∧ l[k]? = some a | _ => False)
    rw [e1]
    exact h1
theorem vals_pickL {vs : List V} {us : List Value} (h : Vals vs us) : ∀ {pm : List Nat}, (∀ i ∈ pm, i < vs.length) → Vals (pickL vs .non pm) (pickL us .none pm)
  | [], _ => .nil
  | i :: pm, hp => by
    have hi := hp i (by simp)
    have hl := h.length
    obtain ⟨u, q1, q2⟩ := h.get (List.getElem?_eq_getElem hi)
    have e1 : vs.getD i .non = vs[i] := by rw [List.getD_eq_getElem?_getD, List.getElem?_eq_getElem hi]; rfl
    have e2 : us.getD i .none = u := by rw [List.getD_eq_getElem?_getD, q1]; rfl
    have ih := vals_pickL h (pm := pm) fun k hk => hp k (List.mem_cons_of_mem _ hk)
    unfold pickL at ih ⊢
    simp only [List.map_cons, e1, e2]
    exact .cons q2 ih
theorem pm_lt {ps kn : List Str} {j : Nat} {pm : List Nat} (h : PmOk ps j kn pm) : ∀ i ∈ pm, i < ps.length := by
  intro i hi
  rw [← List.take_append_drop j pm] at hi
  rcases List.mem_append.mp hi with hi | hi
  · rw [h.pos] at hi
    have := List.mem_range.mp hi
    have := h.kl
    omega
  · have h1 : i - j ∈ (pm.drop j).map (· - j) := List.mem_map_of_mem hi
    have h2 := List.mem_range.mp (h.per.mem_iff.mp h1)
    have := h.kl
    omega
theorem s_callP {k : Nat} {x : Str} {pp : Pos} {ps : List Str} {as : List E} {es : List Expr} {kws : List Keyword} {kn : List Str} {pm : List Nat} (Fa : FnAt XR (T k) X x ps) (gd : X.A.guards = some []) (tk : Takes X W) (hg : Gl X x) (hdb : (x == ("__debug__" : Str)) = false) (h : All3 X T XR W as (es ++ kws.map (·.value)))
    (hkw : kws.map (·.arg) = kn.map some) (hp : PmOk ps es.length kn pm) (hk0 : kws ≠ []) : PE X (.Call (.Name x pp) es kws pos) (den T XR W (.callP k as pm)) := by
  obtain ⟨lv, f, fd, G, room, hm, hk, hb, ar⟩ := Fa.ok
  obtain ⟨a1, a2, rfl, l1, l2, h1, h2⟩ := h.split
  have lk : kws.length = kn.length := by have := congrArg List.length hkw; simpa using this
  refine ⟨fun pins s σ H Q I0 ⟨F, st, I, w⟩ => ?_⟩
  simp only [ev] at w
  have go : tCL T XR W (a1 ++ a2) σ H fun vs H1 => ∃ xs st1, SI F σ st1 H1 ∧ SlotReps F.l H1 xs vs ∧ Post XR W F σ H1 (match T k (Rf.pick xs pm) st1.g with
      | .ret d g => .ok d ⟨st1.r, g⟩
      | .exc c fs g => .exc c fs ⟨st1.r, g⟩
      | _ => .bad) (fun d H' => ∀ v, Rep H' d v → Q v H') :=
    argsC _ st H _ I (w.bind fun xs s1 H1 _ p I1 q vs rv => ⟨xs, s1, I1, rv, q⟩)
  have go := tCL_app go
  have nz : ∀ {us ws : List Value} {s1 : Shared} {H1 : Hp} {vs zs : List V} {pr : (∃ xs st1, SI F σ st1 H1 ∧ SlotReps F.l H1 xs (vs ++ zs) ∧ Post XR W F σ H1 (match T k (Rf.pick xs pm) st1.g with
      | .ret d g => .ok d ⟨st1.r, g⟩
      | .exc c fs g => .exc c fs ⟨st1.r, g⟩
      | _ => .bad) (fun d H' => ∀ v, Rep H' d v → Q v H'))}, Inv X pins σ H1 s1 → Vals vs us → Vals zs ws → us.length = es.length → ws.length = kn.length →
      wpAny (model X.prog X.w) X.A (call (.ref f) us (kn.zip ws)) (EP X pins σ Q) X.xe s1 := by
    rintro us ws s1 H1 vs zs ⟨xs, st1, J, r, q⟩ I1 r1 r2 lu lw
    obtain ⟨z1, z2, z3⟩ := pm_split (us := us) (ws := ws) (d := Value.none) hp lu lw
    have rr := r1.append r2
    have lx : xs.length = ps.length := by
      have := r.len
      have := rr.length
      have := hp.kl
      simp only [List.length_append] at *
      omega
    have plt := pm_lt hp
    have hbt : BindsTo s1 fd ⟨us, kn.zip ws⟩ (ps.zip (pickL (us ++ ws) .none pm)) := by
      have := hb s1 (pickL (us ++ ws) .none pm) es.length (kn.zip ws) I1.kIn z1 (by have := hp.kl; omega) z3
      rwa [z2] at this
    refine runG (args := ⟨us, kn.zip ws⟩) G room gd tk hbt I1 (vals_pickL rr fun i hi => by rw [r.len, lx]; exact plt i hi) ⟨F.l, Rf.pick xs pm, st1.g, r.pick (fun i hi => by rw [lx]; exact plt i hi), J.gr, by unfold Rf.pick; rw [List.length_map, hp.len], ?_⟩
    cases e : T k (Rf.pick xs pm) st1.g with
    | ret d g =>
      rw [e] at q
      exact fun v H' ch pe gr rr => q H' pe (J.called ch pe gr) v rr
    | retG kd g => rw [e] at q; exact q.elim
    | exc c fs g =>
      rw [e] at q
      exact fun cls dd H' ch pe gr x => q cls dd H' pe (J.called ch pe gr) x
    | bad => rw [e] at q; exact q
  obtain ⟨k1, k2, k3⟩ := kw_some (env := X.env) (pos := pos) hkw
  cases kws with
  | nil => exact absurd rfl hk0
  | cons kw kws =>
    have pk := h2.pk
    cases h1 with
    | nil =>
      refine wpAny_Call_Name_kw (ld_glob I0 hg hm ?_ hdb)
      refine PySem.W.callWith_KW0 I0.ok.mod.kin hk k1 (thn (pk.run pos pins s σ H _ I0 go.2) fun ws s2 ⟨zs, H2, I2, rz, zl, q2⟩ => ⟨I2.kIn, ?_⟩) (by rw [k3]; rfl)
      rw [k2]
      exact nz (us := []) (ws := ws) (vs := []) (zs := zs) (pr := q2) I2 .nil rz rfl (by rw [← rz.length, zl, l2, List.length_map, lk])
    | cons g1 g2 g3 =>
      have hpl := (All3.cons g1 g2 g3).plain
      rw [List.all_cons, Bool.and_eq_true] at hpl
      refine wpAny_Call_Name_kw (ld_glob I0 hg hm ?_ hdb)
      refine PySem.W.callWith_KW (h₀ := X.base) I0.ok.mod.kin hk k1 (thn ((All3.cons g1 g2 g3).pa.run pos pins s σ H _ I0 go) fun us s1 ⟨vs, H1, I1, rv, ql, q⟩ => ?_) (by rw [star_cons hpl.1]; simp only [backTo, List.map_cons, List.any_cons, Bool.false_or]; rw [k3, Bool.or_false]; exact star_none hpl.2) (star_cons hpl.1 _ _)
      have lu : us.length = _ := rv.length.symm.trans (ql.trans l1)
      refine thn (pk.run pos pins s1 σ H1 _ I1 q) fun ws s2 ⟨zs, H2, I2, rz, zl, q2⟩ => ⟨I2.kIn, ?_⟩
      rw [k2]
      exact nz (us := us) (ws := ws) (vs := vs) (zs := zs) (pr := q2) I2 rv rz lu (by rw [← rz.length, zl, l2, List.length_map, lk])
variable {F : Fx} {σ : L2.St} {st : Sx} {H H' : Hp} {p : Addr} {o o' : HO}
theorem mergeK_nodup : ∀ (more kvs : List (Key × V)), ((kvs ++ more).map (·.1)).Nodup → mergeK kvs more = kvs ++ more
  | [], kvs, _ => by simp [mergeK]
  | q :: more, kvs, nd => by
    have hn : valV kvs q.1 = none := by
      cases z : valV kvs q.1 with
      | none => rfl
      | some v =>
        exfalso
        unfold valV at z
        cases w : kvs.find? (fun kv => decide (kv.1 = q.1)) with
        | none => rw [w] at z; cases z
        | some y =>
          have h1 := List.mem_of_find?_eq_some w
          have h2 := List.find?_some w
          simp only [decide_eq_true_eq] at h2
          rw [List.map_append, List.nodup_append] at nd
          exact nd.2.2 y.1 (List.mem_map_of_mem h1) q.1 (by simp) h2
    show mergeK (putK kvs q.1 q.2) more = _
    rw [putK_new _ hn, mergeK_nodup more (kvs ++ [(q.1, q.2)]) (by simpa using nd)]
    simp
def tPs (T : Tbl) (XR : Hp → Nat → List D → Value → Option Addr → Prop) (W : WX) : List Key → List E → List (TE × TE)
  | k :: ks, a :: as => (tC (kV k), tE T XR W a) :: tPs T XR W ks as
  | _, _ => []
theorem tPs_mono : ∀ {ks : List Key} {as : List E} {H : Hp} {Q Q' : List (V × V) → Hp → Prop}, tPairs (tPs T XR W ks as) σ H Q → (∀ ps H, Q ps H → Q' ps H) → tPairs (tPs T XR W ks as) σ H Q'
  | [], _, _, _, _, h, k => k _ _ h
  | _ :: _, [], _, _, _, h, k => k _ _ h
  | q :: ks, a :: as, H, Q, Q', h, k => by
    have h : tE T XR W a σ H fun y H2 => tPairs (tPs T XR W ks as) σ H2 fun ps H3 => Q ((kV q, y) :: ps) H3 := h
    exact tE_mono h fun y H2 z => tPs_mono z fun ps H3 z => k _ _ z
theorem tL_len : ∀ {as : List E} {H : Hp} {Q : List V → Hp → Prop}, tL T XR W as σ H Q → tL T XR W as σ H fun xs H1 => xs.length = as.length ∧ Q xs H1
  | [], H, Q, h => ⟨rfl, h⟩
  | a :: as, H, Q, h => by
    have h : tE T XR W a σ H fun x H1 => tL T XR W as σ H1 fun xs H2 => Q (x :: xs) H2 := h
    exact tE_mono h fun v H1 q => tL_mono (tL_len q) fun xs H2 q => ⟨by simp [q.1], q.2⟩
theorem pairsGo : ∀ (ks : List Key) (as : List E) (vs : List V → Hp → Prop) (H : Hp), ks.length = as.length → tL T XR W as σ H vs → tPairs (tPs T XR W ks as) σ H fun ps H2 => ∃ us, us.length = ks.length ∧ ps = (ks.zip us).map (fun kv => (kV kv.1, kv.2)) ∧ vs us H2
  | [], [], Q, H, _, h => ⟨[], rfl, rfl, h⟩
  | [], _ :: _, _, _, h, _ => by simp at h
  | _ :: _, [], _, _, h, _ => by simp at h
  | k :: ks, a :: as, Q, H, hl, h => by
    have h : tE T XR W a σ H fun x H1 => tL T XR W as σ H1 fun xs H2 => Q (x :: xs) H2 := h
    show tE T XR W a σ H fun y H2 => tPairs (tPs T XR W ks as) σ H2 fun ps H3 => _
    refine tE_mono h fun x H1 q => ?_
    have := pairsGo ks as _ H1 (by simpa using hl) q
    refine tPs_mono this ?_
    rintro ps H2 ⟨us, hu, rfl, q2⟩
    exact ⟨x :: us, by simp [hu], rfl, q2⟩
theorem RepL.keys {ks : List Key} {ds : List D} {vs : List V} (h1 : ks.length = ds.length) (r : RepL H ds vs) : ((ks.zip vs).map (·.1)) = ((ks.zip ds).map (·.1)) ∧ RepL H ((ks.zip ds).map (·.2)) ((ks.zip vs).map (·.2)) := by
  have h2 := r.len
  refine ⟨by rw [List.map_fst_zip (by omega), List.map_fst_zip (by omega)], ?_⟩
  rw [List.map_snd_zip (by omega), List.map_snd_zip (by omega)]
  exact r
/-- a dict displayed -/
theorem n_dic {ks : List Key} {es : List E} {keys : List (Option Expr)} {values : List Expr} (hp : PPs X pos keys values (tPs T XR W ks es)) (hall : keys.all (·.isSome) = true) (hl : keys.length = values.length) (h0 : keys ≠ []) (h15 : keys.length ≤ 15)
    (hk : ks.length = es.length) (no : (es.all fun a => a.isOwn.isNone) = true) : PE X (.Dict keys values pos) (denN T XR W (.dic ks es)) := by
  refine peOf (pe_disp hp hall hl h0 h15) fun σ H Q ⟨F, st, I, h⟩ => ?_
  simp only [ev] at h
  show tDisp (tPs T XR W ks es) σ H Q
  intro p hpn
  obtain ⟨f0, nl, nh⟩ := I.free hpn
  have sm := same_upd (o := .dK []) hpn
  have h : Post XR W (F.pin p (.dK [])) σ (upd H p (.dK [])) (evs T es st) fun ds H1 => ∀ vs, RX H1 es ds vs → ∃ ds s1, RepL H1 ds vs ∧ SI (F.pin p (.dK [])) σ s1 H1 ∧ Pers H (off H1 p) ∧ Post XR W F σ H (if ks.length = ds.length ∧ ks.length ≤ 15 ∧ ks.Nodup then .ok (.dct ks ds) s1 else .bad) (fun d H1 => ∀ v H', Same H1 H' → New H1 H' d v → Q v H') := by
    cases q : evs T es st with
    | bad => rw [q] at h; exact h
    | exc c fs s1 =>
      rw [q] at h
      exact fun cls dd H' pe I' x => h cls dd H' ((Pers.of_same sm).trans pe) (I'.unpin f0) x
    | ok ds s1 =>
      rw [q] at h
      refine fun H1 pe I1 vs rv => ⟨ds, s1, rv.rep no, I1, ⟨fun b xs z => ?_, fun b o u z => ?_⟩, h⟩
      · rw [off_ne (fun y => by rw [y, hpn] at z; cases z)]
        exact pe.tup _ _ (by rw [upd_ne (fun y => by rw [y, hpn] at z; cases z)]; exact z)
      · rw [off_ne (fun y => by rw [y, hpn] at z; cases z)]
        exact pe.frz _ _ _ (by rw [upd_ne (fun y => by rw [y, hpn] at z; cases z)]; exact z)
  have h := args es st _ _ (I.pin hpn) h
  refine tPs_mono (pairsGo ks es _ _ hk h) ?_
  rintro ps H2 ⟨us, hu, rfl, ds, s1, rp, I1, p3, q⟩
  split at q
  rotate_left
  · exact q.elim
  rename_i hc
  obtain ⟨c1, c2, c3⟩ := hc
  have hp2 : H2 p = some (.dK []) := I1.keep p _ (if_pos rfl) nl
  have nd : ((([] : List (Key × V)) ++ ks.zip us).map (·.1)).Nodup := by
    rw [List.nil_append, List.map_fst_zip (by omega)]
    exact c3
  refine ⟨hp2, ks.zip us, rfl, ?_, ?_⟩
  · rw [List.length_zip]; omega
  rw [mergeK_nodup _ _ nd, List.nil_append]
  have pe : Pers H2 (upd H2 p (.dK (ks.zip us))) := pers_upd hp2 trivial
  have Ju := I1.unmade f0 nl trivial
  refine q (off H2 p) p3 Ju (.ref p) _ (fun b o z => ?_) ⟨p, ks.zip us, rfl, off_same, upd_same, ?_, ?_⟩
  · by_cases hb : b = p
    · rw [hb, off_same] at z; cases z
    · rw [off_ne hb] at z
      rw [upd_ne hb]; exact z
  · rw [List.map_fst_zip (by omega)]
  · rw [List.map_snd_zip (by omega)]
    exact RepL.pers pe _ _ rp
theorem n_dic0 : PE X (.Dict [] [] pos) (denN T XR W (.dic [] [])) := by
  refine peOf pe_dnewK fun σ H Q ⟨F, st, I, h⟩ => ?_
  simp only [ev, evs, Res.bind] at h
  intro p hp
  rw [if_pos (by simp)] at h
  exact h H (Pers.refl _) I (.ref p) _ (same_upd hp) ⟨p, [], rfl, hp, upd_same, rfl, by simp [RepL]⟩
end
end Rf

set_option Elab.async false
set_option linter.all false
set_option maxRecDepth 100000
set_option maxHeartbeats 4000000
namespace Rf
open PySem PySem.Spec PyProof.Rows L2

/-! ### the small text against the Python text -/
structure Cfg where
  fns : List (Str × List Str)
  cs : List (Str × D)
def nameOk (x : Str) : Bool := !(x == ("__debug__" : Str)) && !(x == ("__classdict__" : Str)) && !(x == ("__name__" : Str))
def visB (sc : Scope) (x : Str) : Bool := match sc.names.lookup x with
  | some .local => true
  | some .cell => true
  | some .free => true
  | _ => false
def glB (sc : Scope) (x : Str) : Bool := match sc.names.lookup x with
  | some .globalImplicit => true
  | _ => false
def scalEq : D → D → Bool
  | .non, .non => true
  | .bl a, .bl b => a == b
  | .int a, .int b => a == b
  | .str a, .str b => a == b
  | _, _ => false
theorem scalEq_eq {a b : D} (h : scalEq a b = true) : a = b := by
  cases a <;> cases b <;> simp_all [scalEq]
def chkName (N : List Str) (sc : Scope) (i : Nat) : Expr → Bool
  | .Name x _ => decide (N[i]? = some x) && visB sc x && nameOk x
  | _ => false
def binP : P → Option Operator
  | .add => some .Add
  | .sub => some .Sub
  | .mul => some .Mult
  | .fdiv => some .FloorDiv
  | .mod => some .Mod
  | .pow => some .Pow
  | _ => none
def cmpP : P → Option CmpOp
  | .eq => some .Eq
  | .ne => some .NotEq
  | .lt => some .Lt
  | .le => some .LtE
  | .gt => some .Gt
  | .ge => some .GtE
  | .isin => some .In
  | .notin => some .NotIn
  | _ => none
def biP : P → Option String
  | .len => some "len"
  | .all => some "all"
  | .any => some "any"
  | .ord => some "ord"
  | .repr => some "repr"
  | .sorted => some "sorted"
  | .min => some "min"
  | .max => some "max"
  | .abs => some "abs"
  | .sum => some "sum"
  | _ => none
def tyP : P → Option String
  | .int => some "int"
  | .tuple => some "tuple"
  | .list => some "list"
  | .str => some "str"
  | .dict => some "dict"
  | _ => none
def mthP : P → Option (String × String)
  | .get => some ("get", "dict.get")
  | .index => some ("index", "list.index")
  | .upper => some ("upper", "str.upper")
  | _ => none
def isNone : Expr → Bool
  | .Constant .none _ _ => true
  | _ => false
mutual
def chkPat (N : List Str) (ok : Str → Bool) : Pat → Expr → Bool
  | .nm i, e => match e with
    | .Name x _ => decide (N[i]? = some x) && ok x
    | _ => false
  | .tp ps, e => match e with
    | .Tuple es _ _ => chkPats N ok ps es
    | _ => false
def chkPats (N : List Str) (ok : Str → Bool) : List Pat → List Expr → Bool
  | [], [] => true
  | p :: ps, e :: es => plainE e && chkPat N ok p e && chkPats N ok ps es
  | _, _ => false
end
def okDef (sc : Scope) (x : Str) : Bool := match sc.names.lookup x with
  | some .local => true
  | some .cell => true
  | _ => false
def ownOf (N : List Str) (ws : List Nat) : List (Str × Nat) := ws.map fun i => (N.getD i default, i)
def mutP : MutK → Str × String
  | .append => ("append", "list.append")
  | .extend => ("extend", "list.extend")
  | .pop => ("pop", "list.pop")
  | .popLast => ("pop", "list.pop")
def keyE (k : Key) : Expr → Bool
  | .Constant (.str x) _ _ => decide (k = .inr x)
  | .Constant (.int i) _ _ => decide (k = .inl i)
  | _ => false
def isTupE : Expr → Bool
  | .Tuple .. => true
  | _ => false
/-- the targets that a walked thing wants -/
def itTg : ItK → Expr → Bool
  | .enum, tg => isTupE tg
  | .zip, tg => isTupE tg
  | _, _ => true
def callPB (C : Cfg) (sc : Scope) (k : Nat) (f : Str) (args : List Expr) (kws : List Keyword) (pm : List Nat) : Bool := glB sc f && nameOk f && !kws.isEmpty && decide (kws.map (·.arg) = (kws.filterMap (·.arg)).map some) && (match C.fns[k]? with
  | some (g, ps) => g == f && pmB ps args.length (kws.filterMap (·.arg)) pm
  | none => false)
/-- a def's name, and how its arguments are given -/
def callB (C : Cfg) (sc : Scope) (k : Nat) (f : Str) (args : List Expr) (kws : List Keyword) : Bool := glB sc f && nameOk f && (match C.fns[k]? with
  | some (g, ps) => g == f && decide (kws.map (·.arg) = ((ps.drop args.length).take kws.length).map some) && (kws.isEmpty || decide (args.length + kws.length = ps.length))
  | none => false)
def keysB : List Key → List (Option Expr) → Bool
  | [], [] => true
  | k :: ks, some e :: es => keyE k e && keysB ks es
  | _, _ => false
mutual
def chk (C : Cfg) (N : List Str) : Scope → E → Expr → Bool
  | sc, .var i, e => chkName N sc i e
  | _, .own _, _ => false
  | _, .gv _, _ => false
  | _, .take _, _ => false
  | _, .kint i, e => match e with
    | .Constant (.int j) _ _ => i == j
    | _ => false
  | _, .kstr x, e => match e with
    | .Constant (.str y) _ _ => y.cps.toList == x && decide (x.length ≤ big)
    | _ => false
  | _, .kbl b, e => match e with
    | .Constant (.bool c) _ _ => b == c
    | _ => false
  | _, .knon, e => isNone e
  | sc, .glo x d, e => match e with
    | .Name y _ => y == x && glB sc x && nameOk x && C.cs.any fun p => p.1 == x && scalEq p.2 d
    | _ => false
  | sc, .and a b, e => match e with
    | .BoolOp .And (ea :: rest) pos => chk C N sc a ea && (match rest with
      | [] => false
      | [eb] => chk C N sc b eb
      | _ :: _ :: _ => (match b with | .and _ _ => true | _ => false) && chk C N sc b (.BoolOp .And rest pos))
    | _ => false
  | sc, .or a b, e => match e with
    | .BoolOp .Or (ea :: rest) pos => chk C N sc a ea && (match rest with
      | [] => false
      | [eb] => chk C N sc b eb
      | _ :: _ :: _ => (match b with | .or _ _ => true | _ => false) && chk C N sc b (.BoolOp .Or rest pos))
    | _ => false
  | sc, .not a, e => match e with
    | .UnaryOp .Not ea _ => chk C N sc a ea
    | _ => false
  | sc, .ite c a b, e => match e with
    | .IfExp ec ea eb _ => chk C N sc c ec && chk C N sc a ea && chk C N sc b eb
    | _ => false
  | sc, .prim p es, e => match e with
    | .BinOp l op r _ => decide (binP p = some op) && chks C N sc es [l, r]
    | .UnaryOp .USub x _ => decide (p = .neg) && chks C N sc es [x]
    | .Compare l [op] [r] _ => match p with
      | .isNone => decide (op = .Is) && isNone r && chks C N sc es [l]
      | .notNone => decide (op = .IsNot) && isNone r && chks C N sc es [l]
      | _ => decide (cmpP p = some op) && chks C N sc es [l, r]
    | .Subscript v s _ => decide (p = .ix) && chks C N sc es [v, s]
    | .Call (.Name f _) args [] _ => glB sc f && nameOk f && (match p with
      | .isa t => f == ("isinstance" : Str) && (match args with
        | [ea, .Name ty _] => ty == Str.ofString t.name && glB sc ty && chks C N sc es [ea]
        | _ => false)
      | _ => ((match biP p with | some x => f == Str.ofString x | none => false) || (match tyP p with | some x => f == Str.ofString x | none => false)) && !args.isEmpty && chks C N sc es args)
    | _ => false
  | sc, .chain p q a b c, e => match e with
    | .Compare ea [o1, o2] [eb, ec] _ => decide (cmpP p = some o1) && decide (cmpP q = some o2) && plainE ec && chk C N sc a ea && chk C N sc b eb && chk C N sc c ec
    | _ => false
  | sc, .cut a lo hi, e => match e with
    | .Subscript ea (.Slice elo ehi none _) _ => plainE ea && (match a.isOwn with | some i => chkName N sc i ea | none => chk C N sc a ea) && chko C N sc lo elo && chko C N sc hi ehi
    | _ => false
  | sc, .stp a lo k, e => match e with
    | .Subscript ea (.Slice elo none (some es) _) _ => plainE ea && (match a.isOwn with | some i => chkName N sc i ea | none => chk C N sc a ea) && chko C N sc lo elo && stepE k es
    | _ => false
  | sc, .tup es, e => match e with
    | .Tuple xs _ _ => (es.all fun a => a.isOwn.isNone) && chks C N sc es xs
    | _ => false
  | sc, .lst es, e => match e with
    | .List xs _ => (es.all fun a => a.isOwn.isNone) && chks C N sc es xs
    | _ => false
  | sc, .dic ks es, e => match e with
    | .Dict keys values _ => (match keys, values, ks, es with
      | [], [], [], [] => true
      | _, _, _, _ => !keys.isEmpty && decide (keys.length ≤ 15) && decide (ks.length = es.length) && (es.all fun a => a.isOwn.isNone) && keysB ks keys && chks C N sc es values)
    | _ => false
  | sc, .call k es, e => match e with
    | .Call (.Name f _) args kws _ => callB C sc k f args kws && chkc C N sc es (args ++ kws.map (·.value))
    | _ => false
  | sc, .mth p a es, e => match e with
    | .Call (.Attribute o name apos) args [] cpos => a.isOwn.isNone && recvE o && chk C N sc a o && (match mthP p with | some x => name == Str.ofString x.1 | none => false) && (apos.endLine == cpos.line) && (es.all fun a => a.isOwn.isNone) && decide (args.length < 30) && chks C N sc es args
    | _ => false
  | sc, .gget i k, e => match e with
    | .Subscript v s _ => chkName N sc i v && keyE k s
    | _ => false
  | sc, .comp elt pt it src cs ws, e => match e with
    | .ListComp ee [⟨tg, iter, ifs, 0⟩] scope _ => decide (cs.length ≤ 1) && (pt.vars.all fun i => ws.contains i) && blkC N sc scope (ownOf N ws) && chkPat N (okDef scope) pt tg && chkl C N (relS scope sc) cs ifs && chk C N (relS scope sc) elt ee && chki C N sc it src iter && itTg it tg
    | _ => false
  | sc, .mutl m i es, e => match e with
    | .Call (.Attribute o name apos) args [] cpos => chkName N sc i o && name == (mutP m).1 && (apos.endLine == cpos.line) && (es.all fun a => a.isOwn.isNone) && decide (args.length < 30) && chks C N sc es args
    | _ => false
  | _, .stuck, _ => true
  | sc, .orV a b, e => match e with
    | .BoolOp .Or [ea, eb] _ => chk C N sc a ea && chk C N sc b eb
    | _ => false
  | sc, .star a es, e => match e with
    | .Tuple (.Starred ea _ :: xs) _ _ => (match a.isOwn with | some i => chkName N sc i ea | none => chk C N sc a ea) && (es.all fun a => a.isOwn.isNone) && chks C N sc es xs
    | _ => false
  | sc, .dcomp k v pt it src cs ws, e => match e with
    | .DictComp ek ew [⟨tg, iter, ifs, 0⟩] scope _ => decide (cs.length ≤ 1) && (pt.vars.all fun i => ws.contains i) && blkC N sc scope (ownOf N ws) && chkPat N (okDef scope) pt tg && chkl C N (relS scope sc) cs ifs && chk C N (relS scope sc) k ek && chk C N (relS scope sc) v ew && chki C N sc it src iter && itTg it tg
    | _ => false
  | sc, .comp2 elt p1 i1 s1 c1 p2 i2 s2 c2 ws ws2, e => match e with
    | .ListComp ee [⟨tg, iter, ifs, 0⟩, ⟨tg2, iter2, ifs2, 0⟩] scope _ => decide (c1.length ≤ 1) && decide (c2.length ≤ 1) && (p1.vars.all fun i => ws.contains i) && (p2.vars.all fun i => ws2.contains i) && (ws2.all fun i => ws.contains i) && blkC N sc scope (ownOf N ws) &&
        chkPat N (okDef scope) p1 tg && chkPat N (okDef scope) p2 tg2 && chkl C N (relS scope sc) c1 ifs && chkl C N (relS scope sc) c2 ifs2 && chk C N (relS scope sc) elt ee && chki C N sc i1 s1 iter && chki C N (relS scope sc) i2 s2 iter2 && itTg i1 tg && itTg i2 tg2
    | _ => false
  | sc, .callP k es pm, e => match e with
    | .Call (.Name f _) args kws _ => callPB C sc k f args kws pm && chkc C N sc es (args ++ kws.map (·.value))
    | _ => false
  | sc, .gvals i, e => match e with
    | .Call (.Name f _) [.Call (.Attribute (.Name x p1) name apos) [] [] cpos] [] _ => f == ("tuple" : Str) && glB sc f && chkName N sc i (.Name x p1) && name == ("values" : Str) && (apos.endLine == cpos.line)
    | _ => false
  | _, .nxt _ _ _ _ _ _ _, _ => false
def chks (C : Cfg) (N : List Str) : Scope → List E → List Expr → Bool
  | _, [], [] => true
  | sc, a :: as, e :: es => plainE e && (match a.isOwn with | some i => chkName N sc i e | none => chk C N sc a e) && chks C N sc as es
  | _, _, _ => false
def chkl (C : Cfg) (N : List Str) : Scope → List E → List Expr → Bool
  | _, [], [] => true
  | sc, a :: as, e :: es => chk C N sc a e && chkl C N sc as es
  | _, _, _ => false
def chkc (C : Cfg) (N : List Str) : Scope → List E → List Expr → Bool
  | _, [], [] => true
  | sc, a :: as, e :: es => plainE e && (match a.isGv with | some i => chkName N sc i e | none => chk C N sc a e) && chkc C N sc as es
  | _, _, _ => false
def chko (C : Cfg) (N : List Str) : Scope → List E → Option Expr → Bool
  | _, [], none => true
  | sc, a :: as, some e => as.isEmpty && chk C N sc a e
  | _, _, _ => false
def chki (C : Cfg) (N : List Str) : Scope → ItK → List E → Expr → Bool
  | sc, .seq, a :: as, e => as.isEmpty && a.isOwn.isNone && plainE e && chk C N sc a e
  | sc, .str, a :: as, e => as.isEmpty && a.isOwn.isNone && plainE e && chk C N sc a e
  | sc, .rng, a :: as, e => match e with
    | .Call (.Name f _) args [] _ => f == ("range" : Str) && glB sc f && (match args with
      | [x] => as.isEmpty && a.isOwn.isNone && plainE x && chk C N sc a x
      | [x, y] => a.isOwn.isNone && plainE x && chk C N sc a x && (as.all fun b => b.isOwn.isNone && plainE y) && chkl C N sc as [y]
      | [x, y, z] => a.isOwn.isNone && plainE x && chk C N sc a x && (as.all fun b => b.isOwn.isNone && plainE y && plainE z) && chkl C N sc as [y, z]
      | _ => false)
    | _ => false
  | sc, .enum, a :: as, e => match e with
    | .Call (.Name f _) [x] [] _ => f == ("enumerate" : Str) && glB sc f && as.isEmpty && a.isOwn.isNone && plainE x && chk C N sc a x
    | _ => false
  | sc, .zip, a :: as, e => match e with
    | .Call (.Name f _) [x, y] [] _ => f == ("zip" : Str) && glB sc f && a.isOwn.isNone && plainE x && chk C N sc a x && (as.all fun b => b.isOwn.isNone && plainE y) && chkl C N sc as [y]
    | _ => false
  | _, _, _, _ => false
end
end Rf

set_option Elab.async false
set_option linter.all false
set_option maxRecDepth 100000
set_option maxHeartbeats 4000000
namespace Rf
open PySem PySem.Spec PyProof.Rows L2

def bltNames : List Str := ["len", "all", "any", "ord", "isinstance", "range", "int", "bool", "str", "tuple", "list", "dict", "sorted", "repr", "min", "max", "sum", "abs", "enumerate", "zip", "set", "next"]
structure Cok (T : Tbl) (XR : Hp → Nat → List D → Value → Option Addr → Prop) (C : Cfg) (N : List Str) (sc : Scope) (W : WX) (X : Cx) : Prop where
  n : X.N = N
  sc : X.env.scope = sc
  nd : X.N.Nodup
  calm : X.calm = true
  gd : X.A.guards = some []
  un : X.A.units + 100 < cLine
  tk : Takes X W
  fns : ∀ k x, C.fns[k]? = some x → FnAt XR (T k) X x.1 x.2
  cs : ∀ p ∈ C.cs, ∃ u v, X.mg p.1 = some u ∧ scalV p.2 = some v ∧ RelV v u
  bl : ∀ x ∈ bltNames, X.mg x = none
theorem takes_false {X : Cx} : Takes X W0 := fun u s' h => by
  obtain ⟨_, _, _, _, _, _, _, _, _, _, _, _, _, _, _, _, z⟩ := h
  exact z.elim
theorem Cok.blk {T : Tbl} {XR : Hp → Nat → List D → Value → Option Addr → Prop} {C : Cfg} {N : List Str} {sc : Scope} {W : WX} {X : Cx} (c : Cok T XR C N sc W X) (s : Shared) (H : Hp) (scope : Scope) (Cc : Addr) (cl : List (Str × Addr)) (fp : List Addr) :
    Cok T XR C N (relS scope sc) W0 (X.blk s H scope (compEnvC scope cl Cc X.env) fp) := by
  refine ⟨c.n, ?_, c.nd, c.calm, c.gd, c.un, takes_false, fun k x e => ?_, c.cs, c.bl⟩
  · rw [← c.sc]; rfl
  · obtain ⟨lv, f, fd, h⟩ := (c.fns k x e).ok
    exact ⟨lv, f, fd, h⟩
def newP (p : P) : Bool := (binP p).isSome || (biP p).isSome || (tyP p).isSome
def fresh : E → Bool
  | .lst _ => true
  | .comp .. => true
  | .comp2 .. => true
  | .dcomp .. => true
  | .dic .. => true
  | .cut .. => true
  | .stp .. => true
  | .prim p _ => newP p
  | _ => false
structure Snd (T : Tbl) (XR : Hp → Nat → List D → Value → Option Addr → Prop) (W : WX) (X : Cx) (m : E) (e : Expr) : Prop where
  pe : PE X e (den T XR W m)
  pt : PT X e (denT T XR W m)
  pn : fresh m = true → PE X e (denN T XR W m)
/-- tests with a form of their own -/
def testE : Expr → Bool
  | .UnaryOp .Not _ _ => true
  | .BoolOp .. => true
  | .IfExp .. => true
  | .Compare .. => true
  | _ => false
theorem plain_test {e : Expr} {env : Env} (h : testE e = false) : ∀ whole, isTrue e env whole = (do let v ← whole; standAt e.pos; holding [v] (truthy v)) := by
  intro whole
  cases e with
  | UnaryOp op x p => cases op <;> first | rfl | (simp [testE] at h)
  | BoolOp => simp [testE] at h
  | IfExp => simp [testE] at h
  | Compare => simp [testE] at h
  | _ => rfl
section
variable {X : Cx} {T : Tbl} {XR : Hp → Nat → List D → Value → Option Addr → Prop} {W : WX} {C : Cfg} {N : List Str} {sc : Scope}
theorem Snd.mk1 {m : E} {e : Expr} (h : PE X e (den T XR W m)) (t : testE e = false) (n : fresh m = false) : Snd T XR W X m e := ⟨h, t_plain h (plain_test t), fun z => by rw [n] at z; cases z⟩
theorem Snd.mkN {m : E} {e : Expr} (h : PE X e (denN T XR W m)) (t : testE e = false) : Snd T XR W X m e := ⟨n_froze h, t_plain (n_froze h) (plain_test t), fun _ => h⟩
theorem nameOk_1 {x : Str} (h : nameOk x = true) : (x == ("__debug__" : Str)) = false ∧ (x == ("__classdict__" : Str)) = false ∧ x ≠ "__name__" := by
  unfold nameOk at h
  simp only [Bool.and_eq_true, Bool.not_eq_true'] at h
  refine ⟨h.1.1, h.1.2, fun z => ?_⟩
  rw [z] at h
  simp at h
theorem vis_of {x : Str} (c : X.env.scope = sc) (h : visB sc x = true) : Vis X.env.scope x := by
  rw [c]
  unfold visB at h
  split at h
  · rename_i e; exact .inl e
  · rename_i e; exact .inr (.inl e)
  · rename_i e; exact .inr (.inr e)
  · cases h
theorem gl_of {x : Str} (c : X.env.scope = sc) (h : glB sc x = true) : Gl X x := by
  unfold glB at h
  split at h
  · rename_i e
    show X.env.kindOf x = _
    unfold Env.kindOf
    rw [c]; exact e
  · cases h
theorem name_pe (c : Cok T XR C N sc W X) {i : Nat} {e : Expr} (h : chkName N sc i e = true) : ∃ x pos, e = .Name x pos ∧ X.N[i]? = some x ∧ Vis X.env.scope x ∧ (x == ("__debug__" : Str)) = false ∧ (x == ("__classdict__" : Str)) = false := by
  unfold chkName at h
  split at h
  · rename_i x pos
    simp only [Bool.and_eq_true, decide_eq_true_eq] at h
    obtain ⟨h1, h2, _⟩ := nameOk_1 h.2
    exact ⟨x, pos, rfl, by rw [c.n]; exact h.1.1, vis_of c.sc h.1.2, h1, h2⟩
  · cases h
theorem own_pe (c : Cok T XR C N sc W X) {i : Nat} {e : Expr} (h : chkName N sc i e = true) : PE X e (tVar i) := by
  obtain ⟨x, pos, rfl, h1, h2, h3, h4⟩ := name_pe c h
  exact pe_var h1 h2 h3 h4
theorem bl_of' (c : Cok T XR C N sc W X) {x : Str} (h : x ∈ bltNames) : X.mg x = none := c.bl x h
/-- the rule of a comparison -/
theorem cmp_rule (c : Cok T XR C N sc W X) {p : P} {op : CmpOp} (h : cmpP p = some op) : OpR X (compareOp op) (r2 New p) ∧ p.bl = true := by
  have u1 : X.A.units + 64 < cLine := by have := c.un; omega
  have u2 : X.A.units + 65 < cLine := by have := c.un; omega
  cases p <;> simp only [cmpP] at h <;> cases h
  · exact ⟨o_eq u1, rfl⟩
  · exact ⟨o_ne u1, rfl⟩
  · exact ⟨o_lt u1, rfl⟩
  · exact ⟨o_le, rfl⟩
  · exact ⟨o_gt, rfl⟩
  · exact ⟨o_ge, rfl⟩
  · exact ⟨o_in u2, rfl⟩
  · exact ⟨o_notin u2, rfl⟩
theorem bin_rule {p : P} {op : Operator} (h : binP p = some op) : OpR X (binaryOp op) (r2 New p) := by
  cases p <;> simp only [binP] at h <;> cases h
  · exact o_add
  · exact o_sub
  · exact o_mul
  · exact o_fdiv
  · exact o_mod
  · exact o_pow
theorem bi_rule (c : Cok T XR C N sc W X) {p : P} {x : String} (h : biP p = some x) : CallR X (.builtin x) (rc New p) ∧ bootBuiltins (Str.ofString x) = some (.builtin x) ∧ Str.ofString x ∈ bltNames := by
  cases p <;> simp only [biP] at h <;> cases h
  · exact ⟨c_len, by decide +kernel, by decide +kernel⟩
  · exact ⟨c_repr c.un c.gd, by decide +kernel, by decide +kernel⟩
  · exact ⟨c_all c.calm, by decide +kernel, by decide +kernel⟩
  · exact ⟨c_any c.calm, by decide +kernel, by decide +kernel⟩
  · exact ⟨c_ord, by decide +kernel, by decide +kernel⟩
  · exact ⟨c_min c.calm, by decide +kernel, by decide +kernel⟩
  · exact ⟨c_max c.calm, by decide +kernel, by decide +kernel⟩
  · exact ⟨c_sum c.calm, by decide +kernel, by decide +kernel⟩
  · exact ⟨c_sorted c.un, by decide +kernel, by decide +kernel⟩
  · exact ⟨c_abs, by decide +kernel, by decide +kernel⟩
theorem ty_rule (c : Cok T XR C N sc W X) {p : P} {x : String} (h : tyP p = some x) : CallR X (.type x) (rc New p) ∧ bootBuiltins (Str.ofString x) = some (.type x) ∧ Str.ofString x ∈ bltNames := by
  cases p <;> simp only [tyP] at h <;> cases h
  · exact ⟨c_int, by decide +kernel, by decide +kernel⟩
  · exact ⟨c_str, by decide +kernel, by decide +kernel⟩
  · exact ⟨c_tuple, by decide +kernel, by decide +kernel⟩
  · exact ⟨c_list c.calm, by decide +kernel, by decide +kernel⟩
  · exact ⟨c_dict c.calm, by decide +kernel, by decide +kernel⟩
theorem mth_rule (c : Cok T XR C N sc W X) {p : P} {x : String × String} (h : mthP p = some x) : MtR X x.2 (rm Old p) ∧ PySem.Slot (tyP2 p) (Str.ofString x.1) x.2 ∧ typeOf (.builtin x.2) = pure (.type "method_descriptor") ∧ PlainAttrs (tyP2 p) := by
  have un := c.un
  cases p <;> simp only [mthP] at h <;> cases h
  · exact ⟨q_index (by omega), PySem.F.slot_list_index, PySem.F.type_list_index, PySem.F.plainAttrs_list⟩
  · exact ⟨q_get (by omega), PySem.F.slot_dict_get, PySem.F.type_dict_get, PySem.F.plainAttrs_dict⟩
  · exact ⟨q_upper, PySem.F.slot_str_upper, PySem.F.type_str_upper, PySem.F.plainAttrs_str⟩
theorem ty_boot (t : Ty) : bootBuiltins (Str.ofString t.name) = some (.type t.name) ∧ Str.ofString t.name ∈ bltNames := by
  cases t <;> exact ⟨by decide +kernel, by decide +kernel⟩
theorem mut_rule (m : MutK) : MtR X (mutP m).2 (rMut m) ∧ PySem.Slot "list" (mutP m).1 (mutP m).2 ∧ typeOf (.builtin (mutP m).2) = pure (.type "method_descriptor") := by
  cases m
  · exact ⟨m_append, PySem.F.slot_list_append, PySem.F.type_list_append⟩
  · exact ⟨m_extend, PySem.F.slot_list_extend, PySem.F.type_list_extend⟩
  · exact ⟨m_pop, PySem.F.slot_list_pop, PySem.F.type_list_pop⟩
  · exact ⟨m_popLast, PySem.F.slot_list_pop, PySem.F.type_list_pop⟩
theorem isNone_eq {e : Expr} (h : isNone e = true) : ∃ j p, e = .Constant .none j p := by
  unfold isNone at h
  split at h
  · exact ⟨_, _, rfl⟩
  · cases h
theorem all2_of (c : Cok T XR C N sc W X) : ∀ {es : List E} {xs : List Expr}, (∀ a ∈ es, ∀ e, chk C N sc a e = true → Snd T XR W X a e) → chks C N sc es xs = true → All2 X T XR W es xs
  | [], [], _, _ => .nil
  | [], _ :: _, _, h => by simp [chks] at h
  | _ :: _, [], _, h => by simp [chks] at h
  | a :: as, e :: xs, ih, h => by
    simp only [chks, Bool.and_eq_true] at h
    refine .cons ?_ h.1.1 (all2_of c (fun b hb => ih b (List.mem_cons_of_mem _ hb)) h.2)
    unfold tE
    cases q : a.isOwn with
    | some i => have h2 := h.1.2; rw [q] at h2; exact own_pe c h2
    | none => have h2 := h.1.2; rw [q] at h2; exact (ih a (by simp) e h2).pe
theorem all3_of (c : Cok T XR C N sc W X) : ∀ {es : List E} {xs : List Expr}, (∀ a ∈ es, ∀ e, chk C N sc a e = true → Snd T XR W X a e) → chkc C N sc es xs = true → All3 X T XR W es xs
  | [], [], _, _ => .nil
  | [], _ :: _, _, h => by simp [chkc] at h
  | _ :: _, [], _, h => by simp [chkc] at h
  | a :: as, e :: xs, ih, h => by
    simp only [chkc, Bool.and_eq_true] at h
    refine .cons ?_ h.1.1 (all3_of c (fun b hb => ih b (List.mem_cons_of_mem _ hb)) h.2)
    unfold tC1
    cases q : a.isGv with
    | some i => have h2 := h.1.2; rw [q] at h2; exact own_pe c h2
    | none => have h2 := h.1.2; rw [q] at h2; exact (ih a (by simp) e h2).pe
mutual
theorem pat_pg {N : List Str} {ok : Str → Bool} (hn : X.N = N) (nd : X.N.Nodup) (hc : X.calm = true) (hok : ∀ x, ok x = true → Loc X.env.scope x ∧ (X.fn x = true ∨ X.env.scope.names.lookup x = some .local)) : ∀ (p : Pat) (e : Expr), chkPat N ok p e = true → PG X e (patG X.K p)
  | .nm i, e, h => by
    simp only [chkPat] at h
    split at h
    · rename_i x pos
      simp only [Bool.and_eq_true, decide_eq_true_eq] at h
      obtain ⟨h1, h2⟩ := hok x h.2
      exact pg_name nd (by rw [hn]; exact h.1) h1 h2
    · cases h
  | .tp ps, e, h => by
    simp only [chkPat] at h
    split at h
    · rename_i es k pos
      obtain ⟨h1, h2, h3⟩ := pats_pg hn nd hc hok ps es h
      exact pg_tup hc h1 (by rw [asg_len, h2]) (asg_none h3)
    · cases h
theorem pats_pg {N : List Str} {ok : Str → Bool} (hn : X.N = N) (nd : X.N.Nodup) (hc : X.calm = true) (hok : ∀ x, ok x = true → Loc X.env.scope x ∧ (X.fn x = true ∨ X.env.scope.names.lookup x = some .local)) : ∀ (ps : List Pat) (es : List Expr), chkPats N ok ps es = true → PGs X es (patGs X.K ps) ∧ es.length = ps.length ∧ es.all plainE = true
  | [], [], _ => ⟨pgs_nil, rfl, rfl⟩
  | [], _ :: _, h => by simp [chkPats] at h
  | _ :: _, [], h => by simp [chkPats] at h
  | p :: ps, e :: es, h => by
    simp only [chkPats, Bool.and_eq_true] at h
    obtain ⟨h1, h2, h3⟩ := pats_pg hn nd hc hok ps es h.2
    exact ⟨pgs_cons (pat_pg hn nd hc hok p e h.1.2) h1 (by rw [asg_plain h.1.1]; rfl), by simp [h2], by rw [List.all_cons, h.1.1, h3]; rfl⟩
end
end
end Rf

set_option Elab.async false
set_option linter.all false
set_option maxRecDepth 100000
set_option maxHeartbeats 8000000
namespace Rf
open PySem PySem.Spec PyProof.Rows L2

theorem relS_loc {N : List Str} {sc scope : Scope} {x : Str} (h : okDef scope x = true) : Loc (relS scope sc) x ∧ ((scope.names.lookup x == some NameKind.cell) = true ∨ (relS scope sc).names.lookup x = some .local) := by
  unfold okDef at h
  split at h
  · rename_i e
    have := lookup_relS_keep (sc := sc) (k := .local) (by decide) e
    exact ⟨.inl this, .inr this⟩
  · rename_i e
    have := lookup_relS_keep (sc := sc) (k := .cell) (by decide) e
    exact ⟨.inr this, .inl (by rw [e]; rfl)⟩
  · cases h
section
variable {X : Cx} {T : Tbl} {XR : Hp → Nat → List D → Value → Option Addr → Prop} {W : WX} {C : Cfg} {N : List Str} {sc : Scope}
theorem den_own {a : E} {e : Expr} (c : Cok T XR C N sc W X) (hs : ∀ e, chk C N sc a e = true → Snd T XR W X a e) (h : (match a.isOwn with | some i => chkName N sc i e | none => chk C N sc a e) = true) : PE X e (tE T XR W a) := by
  unfold tE
  cases q : a.isOwn with
  | some i => rw [q] at h; exact own_pe c h
  | none => rw [q] at h; exact (hs e h).pe
theorem po_of {lo : List E} {e : Option Expr} (hs : ∀ a ∈ lo, ∀ e, chk C N sc a e = true → Snd T XR W X a e) (h : chko C N sc lo e = true) : PO X e (tP T XR W lo) := by
  cases lo with
  | nil => cases e with
    | none => exact po_none
    | some e => simp [chko] at h
  | cons a as => cases e with
    | none => simp [chko] at h
    | some e =>
      simp only [chko, Bool.and_eq_true] at h
      exact po_some (hs a (by simp) e h.2).pe
theorem pw_of {op : BoolOp} {vs : List Expr} {pos : Pos} {t : TT} (h : PT X (.BoolOp op vs pos) t) : PW X (.BoolOp op vs pos) t := ⟨fun wh pins s σ H Q I w => h.run pins s σ H Q I w⟩
theorem tBl {m : E} {σ : L2.St} {H : Hp} {Q : Bool → Hp → Prop} (hb : ∀ st d st', ev T m st = .ok d st' → ∃ k, d = .bl k) (h : denT T XR W m σ H Q) : den T XR W m σ H fun v H' => ∃ k, v = .bl k ∧ Q k H' := by
  obtain ⟨F, st, I, h⟩ := h
  refine ⟨F, st, I, ?_⟩
  cases q : ev T m st with
  | bad => rw [q] at h; exact h
  | exc => rw [q] at h; exact h
  | ok d s1 =>
    rw [q] at h
    obtain ⟨k, rfl⟩ := hb _ _ _ q
    intro H1 p1 I1 v rv
    obtain ⟨k', e', q'⟩ := h H1 p1 I1
    cases e'
    exact ⟨k, rv, q'⟩
theorem chain_bl {p q : P} {a b d : E} (hq : q.bl = true) : ∀ st r st', ev T (.chain p q a b d) st = .ok r st' → ∃ k, r = .bl k := by
  intro st r st' h
  simp only [ev] at h
  cases e1 : ev T a st with
  | bad => rw [e1] at h; cases h
  | exc => rw [e1] at h; cases h
  | ok x s1 =>
    rw [e1] at h
    simp only [Res.bind] at h
    cases e2 : ev T b s1 with
    | bad => rw [e2] at h; cases h
    | exc => rw [e2] at h; cases h
    | ok y s2 =>
      rw [e2] at h
      simp only at h
      split at h
      · cases e3 : ev T d s2 with
        | bad => rw [e3] at h; cases h
        | exc => rw [e3] at h; cases h
        | ok z s3 =>
          rw [e3] at h
          simp only [ofOpt] at h
          split at h
          · rename_i e4
            cases h
            exact bl_bl hq _ _ e4
          · cases h
      · cases h; exact ⟨false, rfl⟩
      · cases h
theorem t_chain {p q : P} {o1 o2 : CmpOp} {a b d : E} {ea eb ec : Expr} {pos : Pos} (hq : q.bl = true) (h1 : OpR X (compareOp o1) (r2 New p)) (h2 : OpR X (compareOp o2) (r2 New q)) (ha : PE X ea (den T XR W a)) (hb : PE X eb (den T XR W b)) (hc : PE X ec (den T XR W d)) (hp : plainE ec = true) :
    PT X (.Compare ea [o1, o2] [eb, ec] pos) (denT T XR W (.chain p q a b d)) := by
  refine ptOf (pt_chain (OpR.froze h1) (OpR.froze h2) ha hb hc (by show behindInMarks o2 ec = false; exact mark_plain hp _)) fun σ H Q w => ?_
  exact chainGo (tBl (chain_bl hq) w)
theorem key_pe {k : Key} {e : Expr} (h : keyE k e = true) : PE X e (tC (kV k)) ∧ plainE e = true := by
  unfold keyE at h
  split at h
  · simp only [decide_eq_true_eq] at h; subst h; exact ⟨pe_str, rfl⟩
  · simp only [decide_eq_true_eq] at h; subst h; exact ⟨pe_int, rfl⟩
  · cases h
theorem isTup_of {e : Expr} (h : isTupE e = true) : ∃ es k p, e = .Tuple es k p := by
  cases e <;> first | exact ⟨_, _, _, rfl⟩ | (simp [isTupE] at h)
theorem pi_of {it : ItK} {src : List E} {tg e : Expr} (c : Cok T XR C N sc W X) (hs : ∀ a ∈ src, ∀ e, chk C N sc a e = true → Snd T XR W X a e) (h : chki C N sc it src e = true) (ht : itTg it tg = true) : PI X tg e (iD T XR W it src) := by
  cases src with
  | nil => cases it <;> simp [chki] at h
  | cons a as =>
    cases it with
    | seq =>
      simp only [chki, Bool.and_eq_true, List.isEmpty_iff, Option.isNone_iff_eq_none] at h
      obtain ⟨⟨⟨rfl, h2⟩, h3⟩, h4⟩ := h
      exact it_seq h2 (hs a (by simp) e h4).pe
    | str =>
      simp only [chki, Bool.and_eq_true, List.isEmpty_iff, Option.isNone_iff_eq_none] at h
      obtain ⟨⟨⟨rfl, h2⟩, h3⟩, h4⟩ := h
      exact it_str h2 (hs a (by simp) e h4).pe
    | rng =>
      simp only [chki] at h
      split at h
      · simp only [Bool.and_eq_true] at h
        obtain ⟨⟨h1, h2⟩, h3⟩ := h
        obtain rfl := eq_of_beq h1
        have gl := gl_of c.sc h2
        have mg := c.bl "range" (by decide +kernel)
        split at h3
        · simp only [Bool.and_eq_true, List.isEmpty_iff, Option.isNone_iff_eq_none] at h3
          obtain ⟨⟨⟨rfl, q2⟩, q3⟩, q4⟩ := h3
          exact it_rng1 gl mg q3 q2 (hs a (by simp) _ q4).pe
        · simp only [Bool.and_eq_true, List.all_eq_true, Option.isNone_iff_eq_none] at h3
          obtain ⟨⟨⟨⟨q1, q2⟩, q3⟩, q4⟩, q5⟩ := h3
          cases as with
          | nil => simp [chkl] at q5
          | cons b as =>
            cases as with
            | cons b2 as => simp [chkl] at q5
            | nil =>
              simp only [chkl, Bool.and_eq_true] at q5
              obtain ⟨z1, z2⟩ := q4 b (by simp)
              exact it_rng2 gl mg q2 z2 q1 z1 (hs a (by simp) _ q3).pe (hs b (by simp) _ q5.1).pe
        · simp only [Bool.and_eq_true, List.all_eq_true, Option.isNone_iff_eq_none] at h3
          obtain ⟨⟨⟨⟨q1, q2⟩, q3⟩, q4⟩, q5⟩ := h3
          cases as with
          | nil => simp [chkl] at q5
          | cons b as =>
            cases as with
            | nil => simp [chkl] at q5
            | cons b2 as =>
              cases as with
              | cons b3 as => simp [chkl] at q5
              | nil =>
                simp only [chkl, Bool.and_eq_true] at q5
                obtain ⟨⟨z1, z2⟩, z3⟩ := q4 b (by simp)
                obtain ⟨⟨z4, _⟩, _⟩ := q4 b2 (by simp)
                exact it_rng3 gl mg q2 z2 z3 q1 z1 z4 (hs a (by simp) _ q3).pe (hs b (by simp) _ q5.1).pe (hs b2 (by simp) _ q5.2.1).pe
        · cases h3
      · cases h
    | enum =>
      obtain ⟨els, kk, tp, rfl⟩ := isTup_of (show isTupE tg = true from ht)
      simp only [chki] at h
      split at h
      · simp only [Bool.and_eq_true, List.isEmpty_iff, Option.isNone_iff_eq_none] at h
        obtain ⟨⟨⟨⟨⟨h1, h2⟩, rfl⟩, h4⟩, h5⟩, h6⟩ := h
        obtain rfl := eq_of_beq h1
        exact it_enum (gl_of c.sc h2) (c.bl "enumerate" (by decide +kernel)) h5 h4 (hs a (by simp) _ h6).pe
      · cases h
    | zip =>
      obtain ⟨els, kk, tp, rfl⟩ := isTup_of (show isTupE tg = true from ht)
      simp only [chki] at h
      split at h
      · simp only [Bool.and_eq_true, List.all_eq_true, Option.isNone_iff_eq_none] at h
        obtain ⟨⟨⟨⟨⟨⟨h1, h2⟩, h3⟩, h4⟩, h5⟩, h6⟩, h7⟩ := h
        obtain rfl := eq_of_beq h1
        cases as with
        | nil => simp [chkl] at h7
        | cons b as =>
          cases as with
          | cons b2 as => simp [chkl] at h7
          | nil =>
            simp only [chkl, Bool.and_eq_true] at h7
            obtain ⟨z1, z2⟩ := h6 b (by simp)
            exact it_zip (gl_of c.sc h2) (c.bl "zip" (by decide +kernel)) h4 z2 h3 z1 (hs a (by simp) _ h5).pe (hs b (by simp) _ h7.1).pe
      · cases h
    | itms => simp [chki] at h
theorem pts_of {cs : List E} {ifs : List Expr} (c : Cok T XR C N sc W0 X) (h1 : cs.length ≤ 1) (hs : ∀ a ∈ cs, ∀ e, chk C N sc a e = true → Snd T XR W0 X a e) (h : chkl C N sc cs ifs = true) : PTs X ifs (tCs T XR W0 cs) := by
  cases cs with
  | nil => cases ifs with
    | nil => exact pts_nil
    | cons e es => simp [chkl] at h
  | cons a as =>
    cases as with
    | cons b bs => simp at h1
    | nil =>
      cases ifs with
      | nil => simp [chkl] at h
      | cons e es =>
        cases es with
        | cons _ _ => simp [chkl] at h
        | nil =>
          simp only [chkl, Bool.and_eq_true] at h
          exact pts_one (hs a (by simp) e h.1).pt
theorem set_plain {e : Expr} {env : Env} (h : plainE e = true) : ∀ x, foldedSetIterable e env x = pure x := by
  intro x
  cases e <;> first | rfl | (simp [plainE] at h)
theorem set_it {it : ItK} {src : List E} {e : Expr} {env : Env} (h : chki C N sc it src e = true) : ∀ x, foldedSetIterable e env x = pure x := by
  cases src with
  | nil => cases it <;> simp [chki] at h
  | cons a as =>
    cases it with
    | seq => simp only [chki, Bool.and_eq_true] at h; exact set_plain h.1.2
    | str => simp only [chki, Bool.and_eq_true] at h; exact set_plain h.1.2
    | rng =>
      simp only [chki] at h
      split at h
      · exact set_plain rfl
      · cases h
    | enum =>
      simp only [chki] at h
      split at h
      · exact set_plain rfl
      · cases h
    | zip =>
      simp only [chki] at h
      split at h
      · exact set_plain rfl
      · cases h
    | itms => simp [chki] at h
theorem callPB_of (c : Cok T XR C N sc W X) {k : Nat} {f : Str} {args : List Expr} {kws : List Keyword} {pm : List Nat} (h : callPB C sc k f args kws pm = true) :
    ∃ ps, FnAt XR (T k) X f ps ∧ Gl X f ∧ (f == ("__debug__" : Str)) = false ∧ kws.map (·.arg) = (kws.filterMap (·.arg)).map some ∧ PmOk ps args.length (kws.filterMap (·.arg)) pm ∧ kws ≠ [] := by
  unfold callPB at h
  simp only [Bool.and_eq_true, Bool.not_eq_true', decide_eq_true_eq] at h
  obtain ⟨⟨⟨⟨h1, h2⟩, h3⟩, h4⟩, h5⟩ := h
  split at h5
  · rename_i g ps e
    simp only [Bool.and_eq_true] at h5
    obtain ⟨q1, q2⟩ := h5
    obtain rfl := eq_of_beq q1
    exact ⟨ps, c.fns _ _ e, gl_of c.sc h1, (nameOk_1 h2).1, h4, pm_of q2, fun z => by rw [z] at h3; cases h3⟩
  · cases h5
theorem callB_of (c : Cok T XR C N sc W X) {k : Nat} {f : Str} {args : List Expr} {kws : List Keyword} (h : callB C sc k f args kws = true) :
    ∃ ps, FnAt XR (T k) X f ps ∧ Gl X f ∧ (f == ("__debug__" : Str)) = false ∧ kws.map (·.arg) = ((ps.drop args.length).take kws.length).map some ∧ (kws = [] ∨ args.length + kws.length = ps.length) := by
  unfold callB at h
  simp only [Bool.and_eq_true] at h
  obtain ⟨⟨h1, h2⟩, h3⟩ := h
  split at h3
  · rename_i g ps e
    simp only [Bool.and_eq_true, Bool.or_eq_true, decide_eq_true_eq] at h3
    obtain ⟨⟨q1, q2⟩, q3⟩ := h3
    obtain rfl := eq_of_beq q1
    exact ⟨ps, c.fns _ _ e, gl_of c.sc h1, (nameOk_1 h2).1, q2, by simpa using q3⟩
  · cases h3
theorem keys_pps {ks : List Key} {pos : Pos} : ∀ {ks : List Key} {es : List E} {keys : List (Option Expr)} {values : List Expr}, keysB ks keys = true → ks.length = es.length → All2 X T XR W es values →
    PPs X pos keys values (tPs T XR W ks es) ∧ keys.all (·.isSome) = true ∧ keys.length = values.length
  | [], [], [], _, _, _, h => by cases h; exact ⟨pps_nil, rfl, rfl⟩
  | [], [], _ :: _, _, h, _, _ => by simp [keysB] at h
  | [], _ :: _, _, _, _, h, _ => by simp at h
  | _ :: _, [], _, _, _, h, _ => by simp at h
  | _ :: _, _ :: _, [], _, h, _, _ => by simp [keysB] at h
  | _ :: _, _ :: _, none :: _, _, h, _, _ => by simp [keysB] at h
  | k :: ks, a :: as, some e :: es, _, h, hl, A => by
    cases A with
    | cons a1 pl A =>
      simp only [keysB, Bool.and_eq_true] at h
      obtain ⟨q1, q2, q3⟩ := keys_pps (ks := ks) (pos := pos) h.2 (by simpa using hl) A
      exact ⟨pps_cons (key_pe (X := X) h.1).1 a1 q1, by rw [List.all_cons, q2]; rfl, by simp [q3]⟩
/-- the small text says what the Python text does -/
theorem sound : ∀ (n : Nat) (m : E), sizeOf m < n → ∀ (sc : Scope) (W : WX) (X : Cx) (e : Expr), Cok T XR C N sc W X → chk C N sc m e = true → Snd T XR W X m e
  | 0, m, h => by omega
  | n + 1, m, hm => fun sc W X e c h => by
    have ih := sound n
    have il : ∀ {es : List E}, sizeOf es < n → ∀ a ∈ es, ∀ e, chk C N sc a e = true → Snd T XR W X a e := fun {es} hl a ha e he => ih a (by have := List.sizeOf_lt_of_mem ha; omega) sc W X e c he
    cases m with
    | var i =>
      simp only [chk] at h
      obtain ⟨x, pos, rfl, h1, h2, h3, h4⟩ := name_pe c h
      exact .mk1 (s_var h1 h2 h3 h4) rfl rfl
    | own i => simp [chk] at h
    | gv i => simp [chk] at h
    | take i => simp [chk] at h
    | kint i =>
      simp only [chk] at h
      split at h
      · obtain rfl := eq_of_beq h
        exact .mk1 s_int rfl rfl
      · cases h
    | kstr x =>
      simp only [chk] at h
      split at h
      · simp only [Bool.and_eq_true, decide_eq_true_eq] at h
        exact .mk1 (s_str (eq_of_beq h.1) h.2) rfl rfl
      · cases h
    | kbl b =>
      simp only [chk] at h
      split at h
      · obtain rfl := eq_of_beq h
        exact .mk1 s_bl rfl rfl
      · cases h
    | knon =>
      simp only [chk] at h
      obtain ⟨j, p, rfl⟩ := isNone_eq h
      exact .mk1 s_non rfl rfl
    | glo x d =>
      simp only [chk] at h
      split at h
      · simp only [Bool.and_eq_true, List.any_eq_true] at h
        obtain ⟨⟨⟨h1, h2⟩, h3⟩, p, hp, h4, h5⟩ := h
        obtain rfl := eq_of_beq h1
        obtain ⟨u, v, q1, q2, q3⟩ := c.cs p hp
        rw [eq_of_beq h4] at q1
        rw [scalEq_eq h5] at q2
        exact .mk1 (s_glo (gl_of c.sc h2) q1 q2 q3 (nameOk_1 h3).1) rfl rfl
      · cases h
    | and a b =>
      have sa : sizeOf a < n := by simp at hm; omega
      have sb : sizeOf b < n := by simp at hm; omega
      simp only [chk] at h
      split at h
      · rename_i ea rest pos
        simp only [Bool.and_eq_true] at h
        have A := ih a sa sc W X ea c h.1
        cases rest with
        | nil => simp at h
        | cons eb rest =>
          cases rest with
          | nil =>
            have B := ih b sb sc W X eb c h.2
            exact ⟨s_and A.pe (s_and1 B.pe), (t_and A.pt (t_and1 B.pt)).pt, fun z => by cases z⟩
          | cons e3 rest =>
            have h2 := h.2
            simp only [Bool.and_eq_true] at h2
            have B := ih b sb sc W X (.BoolOp .And (eb :: e3 :: rest) pos) c h2.2
            exact ⟨s_and A.pe B.pe, (t_and A.pt (pw_of B.pt)).pt, fun z => by cases z⟩
      · cases h
    | or a b =>
      have sa : sizeOf a < n := by simp at hm; omega
      have sb : sizeOf b < n := by simp at hm; omega
      simp only [chk] at h
      split at h
      · rename_i ea rest pos
        simp only [Bool.and_eq_true] at h
        have A := ih a sa sc W X ea c h.1
        cases rest with
        | nil => simp at h
        | cons eb rest =>
          cases rest with
          | nil =>
            have B := ih b sb sc W X eb c h.2
            exact ⟨s_or A.pe (s_and1 B.pe), (t_or A.pt (t_and1 B.pt)).pt, fun z => by cases z⟩
          | cons e3 rest =>
            have h2 := h.2
            simp only [Bool.and_eq_true] at h2
            have B := ih b sb sc W X (.BoolOp .Or (eb :: e3 :: rest) pos) c h2.2
            exact ⟨s_or A.pe B.pe, (t_or A.pt (pw_of B.pt)).pt, fun z => by cases z⟩
      · cases h
    | not a =>
      have sa : sizeOf a < n := by simp at hm; omega
      simp only [chk] at h
      split at h
      · rename_i ea pos
        have A := ih a sa sc W X ea c h
        exact ⟨s_not A.pe, t_not A.pt, fun z => by cases z⟩
      · cases h
    | ite a b d =>
      have sa : sizeOf a < n := by simp at hm; omega
      have sb : sizeOf b < n := by simp at hm; omega
      have sd : sizeOf d < n := by simp at hm; omega
      simp only [chk] at h
      split at h
      · simp only [Bool.and_eq_true] at h
        have A := ih a sa sc W X _ c h.1.1
        have B := ih b sb sc W X _ c h.1.2
        have Dd := ih d sd sc W X _ c h.2
        exact ⟨s_ite A.pt B.pe Dd.pe, t_ite A.pt B.pt Dd.pt, fun z => by cases z⟩
      · cases h
    | prim p es =>
      have se : sizeOf es < n := by simp at hm; omega
      have al := fun {xs : List Expr} (w : chks C N sc es xs = true) => all2_of c (il se) w
      simp only [chk] at h
      split at h
      · rename_i l op r pos
        simp only [Bool.and_eq_true, decide_eq_true_eq] at h
        have A := al h.2
        cases A with
        | cons a1 _ A => cases A with
          | cons a2 _ A => cases A; exact .mkN (n_bin (bin_rule h.1) a1 a2) rfl
      · rename_i x pos
        simp only [Bool.and_eq_true, decide_eq_true_eq] at h
        obtain ⟨rfl, h2⟩ := h
        have A := al h2
        cases A with
        | cons a1 _ A => cases A; exact .mk1 (s_neg a1) rfl rfl
      · rename_i l op r pos
        have isN : ∀ {q : P}, p = q → (q = .isNone ∨ q = .notNone) → fresh (.prim p es) = false := by rintro q rfl (rfl | rfl) <;> rfl
        by_cases hn : p = .isNone
        · subst hn
          simp only [Bool.and_eq_true, decide_eq_true_eq] at h
          obtain ⟨⟨rfl, h2⟩, h3⟩ := h
          obtain ⟨j, pp, rfl⟩ := isNone_eq h2
          have A := al h3
          cases A with
          | cons a1 _ A => cases A; exact ⟨s_isN a1, t_isN a1, fun z => by cases z⟩
        · by_cases hn2 : p = .notNone
          · subst hn2
            simp only [Bool.and_eq_true, decide_eq_true_eq] at h
            obtain ⟨⟨rfl, h2⟩, h3⟩ := h
            obtain ⟨j, pp, rfl⟩ := isNone_eq h2
            have A := al h3
            cases A with
            | cons a1 _ A => cases A; exact ⟨s_notN a1, t_notN a1, fun z => by cases z⟩
          · have h : (decide (cmpP p = some op) && chks C N sc es [l, r]) = true := by
              cases p <;> first | exact h | exact absurd rfl hn | exact absurd rfl hn2
            simp only [Bool.and_eq_true, decide_eq_true_eq] at h
            obtain ⟨r1, r2⟩ := cmp_rule c h.1
            have A := al h.2
            cases A with
            | cons a1 _ A => cases A with
              | cons a2 pl A =>
                cases A
                refine ⟨s_cmp r1 a1 a2 (mark_plain pl _), t_cmp (bl_bl r2) r1 a1 a2 (mark_plain pl _), fun z => ?_⟩
                cases p <;> simp [P.bl] at r2 <;> cases z
      · rename_i v s2 pos
        simp only [Bool.and_eq_true, decide_eq_true_eq] at h
        obtain ⟨rfl, h2⟩ := h
        have A := al h2
        cases A with
        | cons a1 _ A => cases A with
          | cons a2 pl A => cases A; exact .mk1 (s_ix (by have := c.un; omega) a1 a2 pl) rfl rfl
      · rename_i f pp args pos
        simp only [Bool.and_eq_true] at h
        obtain ⟨⟨h1, h2⟩, h3⟩ := h
        obtain ⟨d1, d2, d3⟩ := nameOk_1 h2
        have gl := gl_of c.sc h1
        have gen : (((match biP p with | some x => f == Str.ofString x | none => false) || (match tyP p with | some x => f == Str.ofString x | none => false)) && !args.isEmpty && chks C N sc es args) = true → Snd T XR W X (.prim p es) (.Call (.Name f pp) args [] pos) := by
          intro h
          simp only [Bool.and_eq_true, Bool.or_eq_true] at h
          obtain ⟨⟨g1, g2⟩, g3⟩ := h
          have A := al g3
          cases A with
          | nil => simp at g2
          | cons a1 pl A =>
            rcases g1 with g1 | g1
            · split at g1
              · rename_i x ex
                obtain rfl := eq_of_beq g1
                obtain ⟨r1, r2, r3⟩ := bi_rule c ex
                exact .mkN (n_callB r1 gl (c.bl _ r3) r2 d3 d1 (.cons a1 pl A)) rfl
              · cases g1
            · split at g1
              · rename_i x ex
                obtain rfl := eq_of_beq g1
                obtain ⟨r1, r2, r3⟩ := ty_rule c ex
                exact .mkN (n_callTy r1 gl (c.bl _ r3) r2 d3 d1 (.cons a1 pl A)) rfl
              · cases g1
        split at h3
        · rename_i t
          simp only [Bool.and_eq_true] at h3
          obtain ⟨h3, h4⟩ := h3
          obtain rfl := eq_of_beq h3
          split at h4
          · rename_i ea ty p2
            simp only [Bool.and_eq_true] at h4
            obtain ⟨⟨h5, h6⟩, h7⟩ := h4
            obtain rfl := eq_of_beq h5
            obtain ⟨t1, t2⟩ := ty_boot t
            have A := al h7
            cases A with
            | cons a1 pl A =>
              cases A
              exact .mk1 (s_isa gl (c.bl _ (by decide +kernel)) boot_isinstance d3 d1 (gl_of c.sc h6) (c.bl _ t2) t1 (by cases t <;> decide +kernel) (by cases t <;> decide +kernel) a1 pl) rfl rfl
          · cases h4
        · exact gen h3
      · cases h
    | chain p q a b d =>
      have sa : sizeOf a < n := by simp at hm; omega
      have sb : sizeOf b < n := by simp at hm; omega
      have sd : sizeOf d < n := by simp at hm; omega
      simp only [chk] at h
      split at h
      · simp only [Bool.and_eq_true, decide_eq_true_eq] at h
        obtain ⟨⟨⟨⟨⟨h1, h2⟩, h3⟩, h4⟩, h5⟩, h6⟩ := h
        obtain ⟨r1, _⟩ := cmp_rule c h1
        obtain ⟨r2, b2⟩ := cmp_rule c h2
        have A := ih a sa sc W X _ c h4
        have B := ih b sb sc W X _ c h5
        have Dd := ih d sd sc W X _ c h6
        exact ⟨s_chain r1 r2 A.pe B.pe Dd.pe h3, t_chain b2 r1 r2 A.pe B.pe Dd.pe h3, fun z => by cases z⟩
      · cases h
    | cut a lo hi =>
      have sa : sizeOf a < n := by simp at hm; omega
      have sl : sizeOf lo < n := by simp at hm; omega
      have sh : sizeOf hi < n := by simp at hm; omega
      simp only [chk] at h
      split at h
      · simp only [Bool.and_eq_true] at h
        obtain ⟨⟨⟨h1, h2⟩, h3⟩, h4⟩ := h
        exact .mkN (n_cut (den_own c (fun e he => ih a sa sc W X e c he) h2) (po_of (il sl) h3) (po_of (il sh) h4)) rfl
      · cases h
    | stp a lo k =>
      have sa : sizeOf a < n := by simp at hm; omega
      have sl : sizeOf lo < n := by simp at hm; omega
      simp only [chk] at h
      split at h
      · simp only [Bool.and_eq_true] at h
        obtain ⟨⟨⟨h1, h2⟩, h3⟩, h4⟩ := h
        exact .mkN (n_stp (den_own c (fun e he => ih a sa sc W X e c he) h2) (po_of (il sl) h3) h4) rfl
      · cases h
    | mth p a es =>
      have sa : sizeOf a < n := by simp at hm; omega
      have se : sizeOf es < n := by simp at hm; omega
      simp only [chk] at h
      split at h
      · rename_i o name apos args cpos
        simp only [Bool.and_eq_true, decide_eq_true_eq] at h
        obtain ⟨⟨⟨⟨⟨⟨⟨h1, h2⟩, h3⟩, h4⟩, h5⟩, h6⟩, h7⟩, h8⟩ := h
        split at h4
        · rename_i x ex
          obtain rfl := eq_of_beq h4
          obtain ⟨r1, r2, r3, r4⟩ := mth_rule c ex
          exact .mk1 (s_mth r1 r4 r2 r3 (ih a sa sc W X o c h3).pe h2 h6 (all2_of c (il se) h8) h5 h7) rfl rfl
        · cases h4
      · cases h
    | tup es =>
      have se : sizeOf es < n := by simp at hm; omega
      simp only [chk] at h
      split at h
      · simp only [Bool.and_eq_true] at h
        exact .mk1 (s_tup (all2_of c (il se) h.2) h.1) rfl rfl
      · cases h
    | lst es =>
      have se : sizeOf es < n := by simp at hm; omega
      simp only [chk] at h
      split at h
      · simp only [Bool.and_eq_true] at h
        exact .mkN (n_lst (all2_of c (il se) h.2) h.1) rfl
      · cases h
    | dic ks es =>
      have se : sizeOf es < n := by simp at hm; omega
      simp only [chk] at h
      split at h
      · rename_i keys values pos
        split at h
        · exact .mkN n_dic0 rfl
        · simp only [Bool.and_eq_true, decide_eq_true_eq, Bool.not_eq_true'] at h
          obtain ⟨⟨⟨⟨⟨h1, h2⟩, h3⟩, h4⟩, h5⟩, h6⟩ := h
          obtain ⟨q1, q2, q3⟩ := keys_pps (ks := ks) h5 h3 (all2_of c (il se) h6)
          exact .mkN (n_dic q1 q2 q3 (fun z => by rw [z] at h1; cases h1) h2 h3 h4) rfl
      · cases h
    | call k es =>
      have se : sizeOf es < n := by simp at hm; omega
      simp only [chk] at h
      split at h
      · rename_i f pp args kws pos
        rw [Bool.and_eq_true] at h
        obtain ⟨ps, g1, g2, g3, g4, g5⟩ := callB_of c h.1
        exact .mk1 (s_call (x := f) (ps := ps) g1 c.gd c.tk g2 g3 (all3_of c (il se) h.2) g4 g5) rfl rfl
      · cases h
    | gget i k =>
      simp only [chk] at h
      split at h
      · simp only [Bool.and_eq_true] at h
        obtain ⟨x, pos, rfl, h1, h2, h3, h4⟩ := name_pe c h.1
        obtain ⟨k1, k2⟩ := key_pe (X := X) h.2
        exact .mk1 (s_gget h1 h2 h3 h4 (by have := c.un; omega) k1 k2) rfl rfl
      · cases h
    | comp elt pt it src cs ws =>
      have se : sizeOf elt < n := by simp at hm; omega
      have ss : sizeOf src < n := by simp at hm; omega
      have scs : sizeOf cs < n := by simp at hm; omega
      simp only [chk] at h
      split at h
      · rename_i ee tg iter ifs scope pos
        simp only [Bool.and_eq_true, decide_eq_true_eq, List.all_eq_true] at h
        obtain ⟨⟨⟨⟨⟨⟨⟨h1, h2⟩, h3⟩, h4⟩, h5⟩, h6⟩, h7⟩, h8⟩ := h
        have bo : BlkOk X.N X.env.scope scope (ownOf N ws) := by
          have := blkOk_by h3
          rw [c.n, c.sc]
          exact this
        have wo : (ownOf N ws).map (·.2) = ws := by
          unfold ownOf
          rw [List.map_map]
          exact List.map_id' _
        have pg : ∀ (s : Shared) (H : Hp) (Cc : Addr) (cl : List (Str × Addr)) (fp : List Addr), PG (X.blk s H scope (compEnvC scope cl Cc X.env) fp) tg (patG X.K pt) := fun s H Cc cl fp =>
          pat_pg (X := X.blk s H scope (compEnvC scope cl Cc X.env) fp) (N := N) (ok := okDef scope) c.n c.nd c.calm (fun x hx => by
            obtain ⟨q1, q2⟩ := relS_loc (N := N) (sc := X.env.scope) hx
            exact ⟨q1, q2⟩) pt tg h4
        have lc := pe_lc (pos := pos) (iter := iter) (tt := tCs T XR W0 cs) (te := den T XR W0 elt) (wi := iD T XR W it src) c.calm c.nd (pi_of c (il ss) h7 h8) bo pg (fun s H Cc cl fp => pts_of (c.blk s H scope Cc cl fp) h1 (fun a ha e he => ih a (by have := List.sizeOf_lt_of_mem ha; omega) _ W0 _ e (c.blk s H scope Cc cl fp) he) h5)
          (fun s H Cc cl fp => (ih elt se _ W0 _ ee (c.blk s H scope Cc cl fp) h6).pe) (set_it h7)
        rw [wo] at lc
        exact .mkN (peOf lc fun σ H Q w => n_comp (F := ⟨[], H, []⟩) h1 (fun i hi => by simpa using h2 i hi) w) rfl
      · cases h
    | mutl mk i es =>
      have se : sizeOf es < n := by simp at hm; omega
      simp only [chk] at h
      split at h
      · simp only [Bool.and_eq_true, decide_eq_true_eq] at h
        obtain ⟨⟨⟨⟨⟨h1, h2⟩, h3⟩, h4⟩, h5⟩, h6⟩ := h
        obtain ⟨x, pos, rfl, g1, g2, g3, g4⟩ := name_pe c h1
        obtain ⟨m1, m2, m3⟩ := mut_rule (X := X) mk
        obtain rfl := eq_of_beq h2
        exact .mk1 (s_mut m1 PySem.F.plainAttrs_list m2 m3 g1 g2 g3 g4 h4 (all2_of c (il se) h6) h3 h5) rfl rfl
      · cases h
    | stuck => exact ⟨⟨fun pins s σ H Q I0 ⟨F, st, I, w⟩ => False.elim (by simp only [ev] at w; exact w)⟩, ⟨fun pins s σ H Q I0 ⟨F, st, I, w⟩ => False.elim (by simp only [ev] at w; exact w)⟩, fun z => by cases z⟩
    | orV a b =>
      have sa : sizeOf a < n := by simp at hm; omega
      have sb : sizeOf b < n := by simp at hm; omega
      simp only [chk] at h
      split at h
      · simp only [Bool.and_eq_true] at h
        have A := ih a sa sc W X _ c h.1
        have B := ih b sb sc W X _ c h.2
        exact ⟨s_orV A.pe B.pe, t_orV A.pt B.pt, fun z => by cases z⟩
      · cases h
    | star a es =>
      have sa : sizeOf a < n := by simp at hm; omega
      have se : sizeOf es < n := by simp at hm; omega
      simp only [chk] at h
      split at h
      · simp only [Bool.and_eq_true] at h
        obtain ⟨⟨h1, h2⟩, h3⟩ := h
        exact .mk1 (s_star (den_own c (fun e he => ih a sa sc W X e c he) h1) (all2_of c (il se) h3) h2) rfl rfl
      · cases h
    | dcomp k v pt it src cs ws =>
      have sk : sizeOf k < n := by simp at hm; omega
      have sv : sizeOf v < n := by simp at hm; omega
      have ss : sizeOf src < n := by simp at hm; omega
      have scs : sizeOf cs < n := by simp at hm; omega
      simp only [chk] at h
      split at h
      · rename_i ek ew tg iter ifs scope pos
        simp only [Bool.and_eq_true, decide_eq_true_eq, List.all_eq_true] at h
        obtain ⟨⟨⟨⟨⟨⟨⟨⟨h1, h2⟩, h3⟩, h4⟩, h5⟩, h6⟩, h6'⟩, h7⟩, h8⟩ := h
        have bo : BlkOk X.N X.env.scope scope (ownOf N ws) := by
          have := blkOk_by h3
          rw [c.n, c.sc]
          exact this
        have wo : (ownOf N ws).map (·.2) = ws := by
          unfold ownOf
          rw [List.map_map]
          exact List.map_id' _
        have pg : ∀ (s : Shared) (H : Hp) (Cc : Addr) (cl : List (Str × Addr)) (fp : List Addr), PG (X.blk s H scope (compEnvC scope cl Cc X.env) fp) tg (patG X.K pt) := fun s H Cc cl fp =>
          pat_pg (X := X.blk s H scope (compEnvC scope cl Cc X.env) fp) (N := N) (ok := okDef scope) c.n c.nd c.calm (fun x hx => by
            obtain ⟨q1, q2⟩ := relS_loc (N := N) (sc := X.env.scope) hx
            exact ⟨q1, q2⟩) pt tg h4
        have lc := pe_dc (pos := pos) (iter := iter) (tt := tCs T XR W0 cs) (tk := den T XR W0 k) (tv := den T XR W0 v) (wi := iD T XR W it src) c.calm c.nd (pi_of c (il ss) h7 h8) bo pg (fun s H Cc cl fp => pts_of (c.blk s H scope Cc cl fp) h1 (fun a ha e he => ih a (by have := List.sizeOf_lt_of_mem ha; omega) _ W0 _ e (c.blk s H scope Cc cl fp) he) h5)
          (fun s H Cc cl fp => (ih k sk _ W0 _ ek (c.blk s H scope Cc cl fp) h6).pe) (fun s H Cc cl fp => (ih v sv _ W0 _ ew (c.blk s H scope Cc cl fp) h6').pe) (set_it h7)
        rw [wo] at lc
        exact .mkN (peOf lc fun σ H Q w => n_dcomp (F := ⟨[], H, []⟩) h1 (fun i hi => by simpa using h2 i hi) w) rfl
      · cases h
    | comp2 elt p1 i1 s1 c1 p2 i2 s2 c2 ws ws2 =>
      have se : sizeOf elt < n := by simp at hm; omega
      have ss1 : sizeOf s1 < n := by simp at hm; omega
      have ss2 : sizeOf s2 < n := by simp at hm; omega
      have sc1 : sizeOf c1 < n := by simp at hm; omega
      have sc2 : sizeOf c2 < n := by simp at hm; omega
      simp only [chk] at h
      split at h
      · rename_i ee tg iter ifs tg2 iter2 ifs2 scope pos
        simp only [Bool.and_eq_true, decide_eq_true_eq, List.all_eq_true] at h
        obtain ⟨⟨⟨⟨⟨⟨⟨⟨⟨⟨⟨⟨⟨⟨h1, h2⟩, h3⟩, h4⟩, h5⟩, h6⟩, h7⟩, h8⟩, h9⟩, h10⟩, h11⟩, h12⟩, h13⟩, h14⟩, h15⟩ := h
        have bo : BlkOk X.N X.env.scope scope (ownOf N ws) := by
          have := blkOk_by h6
          rw [c.n, c.sc]
          exact this
        have wo : (ownOf N ws).map (·.2) = ws := by
          unfold ownOf
          rw [List.map_map]
          exact List.map_id' _
        have pg : ∀ (pt : Pat) (tg : Expr), chkPat N (okDef scope) pt tg = true → ∀ (s : Shared) (H : Hp) (Cc : Addr) (cl : List (Str × Addr)) (fp : List Addr), PG (X.blk s H scope (compEnvC scope cl Cc X.env) fp) tg (patG X.K pt) := fun pt tg h4 s H Cc cl fp =>
          pat_pg (X := X.blk s H scope (compEnvC scope cl Cc X.env) fp) (N := N) (ok := okDef scope) c.n c.nd c.calm (fun x hx => by
            obtain ⟨q1, q2⟩ := relS_loc (N := N) (sc := X.env.scope) hx
            exact ⟨q1, q2⟩) pt tg h4
        have lc := pe_lc2 (pos := pos) (iter := iter) (iter1 := iter2) (tt := tCs T XR W0 c1) (tt1 := tCs T XR W0 c2) (te := den T XR W0 elt) (wi := iD T XR W i1 s1) (wi1 := iD T XR W0 i2 s2) (vs1 := ws2) c.calm c.nd (pi_of c (il ss1) h12 h14) bo (fun i hi => by rw [wo]; simpa using h5 i hi) (pg p1 tg h7)
          (fun s H Cc cl fp => pts_of (c.blk s H scope Cc cl fp) h1 (fun a ha e he => ih a (by have := List.sizeOf_lt_of_mem ha; omega) _ W0 _ e (c.blk s H scope Cc cl fp) he) h9)
          (fun s H Cc cl fp => pi_of (c.blk s H scope Cc cl fp) (fun a ha e he => ih a (by have := List.sizeOf_lt_of_mem ha; omega) _ W0 _ e (c.blk s H scope Cc cl fp) he) h13 h15)
          (pg p2 tg2 h8) (fun s H Cc cl fp => pts_of (c.blk s H scope Cc cl fp) h2 (fun a ha e he => ih a (by have := List.sizeOf_lt_of_mem ha; omega) _ W0 _ e (c.blk s H scope Cc cl fp) he) h10)
          (fun s H Cc cl fp => (ih elt se _ W0 _ ee (c.blk s H scope Cc cl fp) h11).pe) (set_it h12) (fun env => set_it h13)
        rw [wo] at lc
        exact .mkN (peOf lc fun σ H Q w => n_comp2 (F := ⟨[], H, []⟩) h1 h2 (fun i hi => by simpa using h3 i hi) (fun i hi => by simpa using h4 i hi) (fun i hi => by simpa using h5 i hi) w) rfl
      · cases h
    | callP k es pm =>
      have se : sizeOf es < n := by simp at hm; omega
      simp only [chk] at h
      split at h
      · rename_i f pp args kws pos
        rw [Bool.and_eq_true] at h
        obtain ⟨ps, g1, g2, g3, g4, g5, g6⟩ := callPB_of c h.1
        exact .mk1 (s_callP (x := f) (ps := ps) g1 c.gd c.tk g2 g3 (all3_of c (il se) h.2) g4 g5 g6) rfl rfl
      · cases h
    | gvals i =>
      simp only [chk] at h
      split at h
      · simp only [Bool.and_eq_true] at h
        obtain ⟨⟨⟨⟨h1, h2⟩, h3⟩, h4⟩, h5⟩ := h
        obtain rfl := eq_of_beq h1
        obtain rfl := eq_of_beq h4
        obtain ⟨x, pos, e, q1, q2, q3, q4⟩ := name_pe c h3
        cases e
        exact .mk1 (s_gvals c.calm (gl_of c.sc h2) (c.bl "tuple" (by decide +kernel)) q1 q2 q3 q4 h5) rfl rfl
      · cases h
    | nxt _ _ _ _ _ _ _ => simp [chk] at h
end
end Rf

set_option Elab.async false
set_option linter.all false
set_option maxRecDepth 100000
set_option maxHeartbeats 4000000
namespace Rf
open PySem PySem.Spec PyProof.Rows L2

/-! ### statements -/
inductive S where
  | set (p : Pat) (m : E)
  | setOwn (i : Nat) (m : E)
  | par (i j : Nat) (oi oj : Bool) (a b : E)
  | gset (i : Nat) (k : Key) (m : E)
  | drop (m : E)
  | ret (m : E) | retN
  | ifS (c : E) (a b : List S)
  | forS (p : Pat) (it : ItK) (src : List E) (body : List S)
  | matchS (m : E) (cs : List S)
  | caseK (k : List Nat) (b : List S) | caseD (b : List S)
  | freeze (i : Nat)
  | aug (i : Nat) (p : P) (m : E)
  | retDic (ks : List Key) (es : List E) | gcall (i k : Nat) (es : List E)
  | brk | cont | pass
  | stuck
  | gnew (i : Nat) (m : E)
  | gput (i : Nat) (k m : E)
  | gaug (i : Nat) (k : E) (p : P) (m : E)
  | whileS (n : Nat) (c : E) (b : List S)
inductive SRes where
  | nx (s : Sx) | ret (d : D) (s : Sx) | retG (kd : Gd) (s : Sx) | bk (s : Sx) | ct (s : Sx) | exc (c : Nat) (fs : List D) (s : Sx) | bad
def onE {α : Type} (r : Res α) (f : α → Sx → SRes) : SRes := match r with
  | .ok d s => f d s
  | .exc c fs s => .exc c fs s
  | .bad => .bad
def loopS (b : D → List Slot → Option (List Slot)) (f : Sx → SRes) : List D → Sx → SRes
  | [], st => .nx st
  | x :: xs, st => match b x st.r with
    | none => .bad
    | some r1 => match f ⟨r1, st.g⟩ with
      | .nx s => loopS b f xs s
      | .ct s => loopS b f xs s
      | .bk s => .nx s
      | r => r
/-- a while loop of at most so many turns -/
def whileL (c : Sx → Res Bool) (f : Sx → SRes) : Nat → Sx → SRes
  | 0, _ => .bad
  | n + 1, st => onE (c st) fun t s => if t then (match f s with
      | .nx s2 => whileL c f n s2
      | .ct s2 => whileL c f n s2
      | .bk s2 => .nx s2
      | r => r) else .nx s
def augI : P → Int → Int → Option Int
  | .add, x, y => some (x + y)
  | .sub, x, y => some (x - y)
  | _, _, _ => none
/-- a list or a datum put into a slot -/
def putS (own : Bool) (i : Nat) (d : D) (r : List Slot) : Option (List Slot) := if i < r.length then (match own, d with
  | true, .lst xs => some (r.set i (.own xs))
  | true, _ => none
  | false, d => some (r.set i (.val d))) else none
mutual
def run (T : Tbl) : S → Sx → SRes
  | .set p m, st => onE (ev T m st) fun d s => match bindP p d s.r with
    | some r => .nx ⟨r, s.g⟩
    | none => .bad
  | .setOwn i m, st => onE (ev T m st) fun d s => match putS true i d s.r with
    | some r => .nx ⟨r, s.g⟩
    | none => .bad
  | .par i j oi oj a b, st => onE (ev T a st) fun d s => onE (ev T b s) fun e s2 => match putS oi i d s2.r with
    | some r => match putS oj j e r with
      | some r => .nx ⟨r, s2.g⟩
      | none => .bad
    | none => .bad
  | .gset i k m, st => onE (ev T m st) fun d s => match s.r[i]? with
    | some (.glb j) => match s.g[j]? with
      | some kd => if kd.length < big then .nx ⟨s.r, s.g.set j (setK kd k d)⟩ else .bad
      | none => .bad
    | _ => .bad
  | .drop m, st => onE (ev T m st) fun _ s => .nx s
  | .ret m, st => onE (ev T m st) fun d s => .ret d s
  | .retN, st => .ret .non st
  | .ifS c a b, st => onE (ev T c st) fun d s => match truth d with
    | some true => runs T a s
    | some false => runs T b s
    | none => .bad
  | .forS p it src body, st => onE (evs T src st) fun ds s => match it.get ds with
    | some xs => loopS (bindP p) (runs T body) xs s
    | none => .bad
  | .matchS m cs, st => onE (ev T m st) fun d s => match d with
    | .str x => runm T x cs s
    | _ => .bad
  | .freeze i, st => match st.r[i]? with
    | some (.own xs) => .nx ⟨st.r.set i (.val (.lst xs)), st.g⟩
    | _ => .bad
  | .aug i p m, st => match st.r[i]? with
    | some (.val (.int x)) => onE (ev T m st) fun d s => match d, p with
      | .int y, .add => if i < s.r.length then .nx ⟨s.r.set i (.val (.int (x + y))), s.g⟩ else .bad
      | .int y, .sub => if i < s.r.length then .nx ⟨s.r.set i (.val (.int (x - y))), s.g⟩ else .bad
      | _, _ => .bad
    | _ => .bad
  | .retDic ks es, st => onE (evs T es st) fun ds s => if ks.length = ds.length ∧ ks.length ≤ 15 ∧ ks.Nodup then .retG (ks.zip ds) s else .bad
  | .gcall i k es, st => onE (evc T es st) fun xs s => match T k xs s.g with
    | .retG kd g => if i < s.r.length then .nx ⟨s.r.set i (.glb g.length), g ++ [kd]⟩ else .bad
    | .exc c fs g => .exc c fs ⟨s.r, g⟩
    | _ => .bad
  | .brk, st => .bk st
  | .cont, st => .ct st
  | .pass, st => .nx st
  | .stuck, _ => .bad
  | .gnew i m, st => onE (ev T m st) fun d s => match d with
    | .dct ks ds => if i < s.r.length ∧ ks.length = ds.length then .nx ⟨s.r.set i (.glb s.g.length), s.g ++ [ks.zip ds]⟩ else .bad
    | _ => .bad
  | .gput i k m, st => onE (ev T m st) fun v s => match s.r[i]? with
    | some (.glb j) => onE (ev T k s) fun kk s2 => match s2.g[j]? with
      | some kd => match keyD kk with
        | some key => if kd.length < big then .nx ⟨s2.r, s2.g.set j (setK kd key v)⟩ else .bad
        | none => .bad
      | none => .bad
    | _ => .bad
  | .gaug i k p m, st => match st.r[i]? with
    | some (.glb j) => onE (ev T k st) fun kk s => match s.g[j]? with
      | some kd => match keyD kk with
        | some key => match getK kd key with
          | some (.int x) => onE (ev T m s) fun d s2 => match d with
            | .int y => match s2.g[j]? with
              | some kd2 => match augI p x y with
                | some z => if kd2.length < big then .nx ⟨s2.r, s2.g.set j (setK kd2 key (.int z))⟩ else .bad
                | none => .bad
              | none => .bad
            | _ => .bad
          | _ => .bad
        | none => .bad
      | none => .bad
    | _ => .bad
  | .whileS n c b, st => whileL (evt T [c]) (runs T b) n st
  | .caseK _ _, _ => .bad
  | .caseD _, _ => .bad
def runs (T : Tbl) : List S → Sx → SRes
  | [], st => .nx st
  | s :: ss, st => match run T s st with
    | .nx s1 => runs T ss s1
    | r => r
def runm (T : Tbl) (x : List Nat) : List S → Sx → SRes
  | [], st => .nx st
  | .caseK k b :: cs, st => if x = k then runs T b st else runm T x cs st
  | .caseD b :: _, st => runs T b st
  | _ :: _, _ => .bad
end

/-- the shared dicts may have grown in number -/
structure Grown (F F' : Fx) : Prop where
  h0 : F'.H0 = F.H0
  hid : F'.hid = F.hid
  more : ∃ m, F'.l = F.l ++ m ∧ ∀ a ∈ m, F.H0 a = none
theorem Grown.refl (F : Fx) : Grown F F := ⟨rfl, rfl, [], by simp, by simp⟩
theorem Grown.trans {F F1 F2 : Fx} (a : Grown F F1) (b : Grown F1 F2) : Grown F F2 := by
  obtain ⟨m1, e1, n1⟩ := a.more
  obtain ⟨m2, e2, n2⟩ := b.more
  refine ⟨b.h0.trans a.h0, b.hid.trans a.hid, m1 ++ m2, by rw [e2, e1, List.append_assoc], fun x hx => ?_⟩
  rcases List.mem_append.mp hx with h | h
  · exact n1 x h
  · rw [← a.h0]; exact n2 x h
def PostS (XR : Hp → Nat → List D → Value → Option Addr → Prop) (W : WX) (F : Fx) (H : Hp) (r : SRes) (D : Ends) : Prop := match r with
  | .nx st => ∀ F' σ' H', Grown F F' → Pers H H' → SI F' σ' st H' → D.nx σ' H'
  | .ret d st => ∀ F' v σ' H', Grown F F' → Pers H H' → SI F' σ' st H' → Rep H' d v → D.rt v H'
  | .retG kd st => ∀ F' σ' H' a, Grown F F' → Pers H H' → SI F' σ' st H' → F'.H0 a = none → a ∉ F'.l → GRep H' kd a → D.rt (.ref a) H'
  | .bk st => ∀ F' σ' H', Grown F F' → Pers H H' → SI F' σ' st H' → D.bk σ' H'
  | .ct st => ∀ F' σ' H', Grown F F' → Pers H H' → SI F' σ' st H' → D.ct σ' H'
  | .exc c fs st => ∀ F' cls dd σ' H', Grown F F' → Pers H H' → SI F' σ' st H' → XR H' c fs cls dd → W cls dd σ' H'
  | .bad => False
section
variable {T : Tbl} {XR : Hp → Nat → List D → Value → Option Addr → Prop} {W : WX} {F F1 : Fx} {σ : L2.St} {H H1 : Hp} {r : SRes} {Dd : Ends}
theorem PostS.weak (g : Grown F F1) (p : Pers H H1) (h : PostS XR W F H r Dd) : PostS XR W F1 H1 r Dd := by
  cases r with
  | nx st => exact fun F' σ' H' g' q I => h F' σ' H' (g.trans g') (p.trans q) I
  | ret d st => exact fun F' v σ' H' g' q I rr => h F' v σ' H' (g.trans g') (p.trans q) I rr
  | retG kd st => exact fun F' σ' H' a g' q I => h F' σ' H' a (g.trans g') (p.trans q) I
  | bk st => exact fun F' σ' H' g' q I => h F' σ' H' (g.trans g') (p.trans q) I
  | ct st => exact fun F' σ' H' g' q I => h F' σ' H' (g.trans g') (p.trans q) I
  | exc c fs st => exact fun F' cls dd σ' H' g' q I x => h F' cls dd σ' H' (g.trans g') (p.trans q) I x
  | bad => exact h
/-- an evaluation, then the rest -/
theorem PostS.onE {α : Type} {q : Res α} {f : α → Sx → SRes} {R : α → Hp → Prop} (h : PostS XR W F H (onE q f) Dd) (k : ∀ a st H', q = .ok a st → Pers H H' → SI F σ st H' → PostS XR W F H' (f a st) Dd → R a H') : Post XR W F σ H q R := by
  cases q with
  | ok a st => exact fun H' p I => k a st H' rfl p I (PostS.weak (Grown.refl F) p h)
  | exc c fs st => exact fun cls dd H' p I x => h F cls dd σ H' (Grown.refl F) p I x
  | bad => exact h
def denS (T : Tbl) (XR : Hp → Nat → List D → Value → Option Addr → Prop) (W : WX) (s : S) : TS := fun D σ H => ∃ F st, SI F σ st H ∧ PostS XR W F H (run T s st) D
def denSs (T : Tbl) (XR : Hp → Nat → List D → Value → Option Addr → Prop) (W : WX) (ss : List S) : TS := fun D σ H => ∃ F st, SI F σ st H ∧ PostS XR W F H (runs T ss st) D
theorem psOf {X : Cx} {e : Stmt} {t t' : TS} (h : PS X e t) (i : ∀ σ H D, t' D σ H → t D σ H) : PS X e t' := ⟨fun pins s σ H D I w => h.run pins s σ H D I (i σ H D w)⟩
theorem pssOf {X : Cx} {e : List Stmt} {t t' : TS} (h : PSs X e t) (i : ∀ σ H D, t' D σ H → t D σ H) : PSs X e t' := ⟨fun pins s σ H D I w => h.run pins s σ H D I (i σ H D w)⟩

/-! ### states that change -/
theorem SI.hide2 {st : Sx} {H H' : Hp} {p : Addr} {vs : List V} {ds : List D} (I : SI F σ st H) (sm : Same H H') (hp : H p = none) (h : H' p = some (.lst vs)) (r : RepL H' ds vs) : SI { F with hid := (p, ds) :: F.hid } σ st H' := by
  have J := I.same sm
  have nl : p ∉ F.l := fun hm => by
    obtain ⟨k, hk, e⟩ := List.getElem_of_mem hm
    have hk' : k < st.g.length := by rw [I.glen]; exact hk
    obtain ⟨kvs, q, _⟩ := I.glob k _ p (List.getElem?_eq_getElem hk') (by rw [List.getElem?_eq_getElem hk, e])
    rw [hp] at q; cases q
  have f0 : F.H0 p = none := by
    cases q : F.H0 p with
    | none => rfl
    | some o => have := I.keep p o q nl; rw [hp] at this; cases this
  refine ⟨J.slot, J.one, fun i x a h1 h2 => ?_, J.keep, J.glen, J.glob, J.gone, fun q hq => ?_, fun q hq => ?_⟩
  · obtain ⟨g1, g2, g3⟩ := I.fresh i x a h1 h2
    refine ⟨g1, g2, fun q hq => ?_⟩
    rcases List.mem_cons.mp hq with rfl | hq
    · obtain ⟨b, ws, e1, e2, _⟩ := I.own h1
      rw [h2] at e1
      cases e1
      intro z
      have z : p = a := z
      rw [z, e2] at hp; cases hp
    · exact g3 q hq
  · rcases List.mem_cons.mp hq with rfl | hq
    · exact ⟨vs, h, r⟩
    · exact J.hid q hq
  · rcases List.mem_cons.mp hq with rfl | hq
    · exact ⟨f0, nl⟩
    · exact I.hfr q hq
theorem hid_ne {st : Sx} {H : Hp} {p : Addr} (I : SI F σ st H) (hp : H p = none) : ∀ q ∈ F.hid, q.1 ≠ p := fun q hq e => by
  obtain ⟨vs, g, _⟩ := I.hid q hq
  rw [e, hp] at g; cases g
/-- a list that was being filled comes into a slot -/
theorem SI.adopt {st : Sx} {H : Hp} {p : Addr} {ds : List D} {i : Nat} (I : SI { F with hid := (p, ds) :: F.hid } σ st H) (nd : ∀ q ∈ F.hid, q.1 ≠ p) (hi : i < st.r.length) : SI F (σ.set i (some (.ref p))) ⟨st.r.set i (.own ds), st.g⟩ H := by
  have hσ : i < σ.length := by
    obtain ⟨y, h, _⟩ := I.slot i _ (List.getElem?_eq_getElem hi)
    exact (List.getElem?_eq_some_iff.mp h).1
  obtain ⟨f1, f2⟩ := I.hfr (p, ds) (by simp)
  obtain ⟨ws, w1, w2⟩ := I.hid (p, ds) (by simp)
  have ow : ∀ {j : Nat} {z : List D} {a : Addr}, (st.r.set i (.own ds))[j]? = some (.own z) → (σ.set i (some (.ref p)))[j]? = some (some (.ref a)) → (j = i ∧ a = p) ∨ (j ≠ i ∧ st.r[j]? = some (.own z) ∧ σ[j]? = some (some (.ref a))) := by
    intro j z a h1 h2
    by_cases e : i = j
    · subst e
      rw [List.getElem?_set_self hσ] at h2
      cases h2
      exact .inl ⟨rfl, rfl⟩
    · rw [List.getElem?_set_ne e] at h1 h2
      exact .inr ⟨Ne.symm e, h1, h2⟩
  refine ⟨fun j x hx => ?_, fun j k x y a h1 h2 h3 h4 => ?_, fun j x a h1 h2 => ?_, I.keep, I.glen, I.glob, I.gone, fun q hq => I.hid q (List.mem_cons_of_mem _ hq), fun q hq => I.hfr q (List.mem_cons_of_mem _ hq)⟩
  · by_cases e : i = j
    · subst e
      rw [List.getElem?_set_self hi] at hx
      cases hx
      exact ⟨_, List.getElem?_set_self hσ, p, ws, rfl, w1, w2⟩
    · rw [List.getElem?_set_ne e] at hx ⊢
      exact I.slot j x hx
  · rcases ow h1 h3 with ⟨e1, e2⟩ | ⟨n1, g1, g2⟩
    · rcases ow h2 h4 with ⟨e3, e4⟩ | ⟨n3, g3, g4⟩
      · rw [e1, e3]
      · exact absurd e2.symm ((I.fresh k y a g3 g4).2.2 (p, ds) (by simp))
    · rcases ow h2 h4 with ⟨e3, e4⟩ | ⟨n3, g3, g4⟩
      · exact absurd e4.symm ((I.fresh j x a g1 g2).2.2 (p, ds) (by simp))
      · exact I.one j k x y a g1 g3 g2 g4
  · rcases ow h1 h2 with ⟨e1, e2⟩ | ⟨n1, g1, g2⟩
    · rw [e2]
      exact ⟨f1, f2, nd⟩
    · obtain ⟨q1, q2, q3⟩ := I.fresh j x a g1 g2
      exact ⟨q1, q2, fun q hq => q3 q (List.mem_cons_of_mem _ hq)⟩
theorem putS_val {i : Nat} {d : D} {rr r' : List Slot} (e : putS false i d rr = some r') : i < rr.length ∧ r' = rr.set i (.val d) := by
  unfold putS at e
  split at e
  · rename_i h; cases e; exact ⟨h, rfl⟩
  · cases e
theorem putS_own {i : Nat} {d : D} {rr r' : List Slot} (e : putS true i d rr = some r') : ∃ xs, d = .lst xs ∧ i < rr.length ∧ r' = rr.set i (.own xs) := by
  unfold putS at e
  split at e
  · rename_i h
    cases d <;> simp only at e <;> cases e
    exact ⟨_, rfl, h, rfl⟩
  · cases e
theorem SI.put1 {st : Sx} {H : Hp} {i : Nat} {d : D} {v : V} {r' : List Slot} (I : SI F σ st H) (e : putS false i d st.r = some r') (rv : Rep H d v) : SI F (σ.set i (some v)) ⟨r', st.g⟩ H := by
  obtain ⟨hi, rfl⟩ := putS_val e
  exact I.put hi ⟨v, rfl, rv⟩ (fun z q => by cases q)
/-- a new list comes into a slot -/
theorem SI.put2 {st : Sx} {H H' : Hp} {i : Nat} {d : D} {v : V} {r' : List Slot} (I : SI F σ st H) (sm : Same H H') (e : putS true i d st.r = some r') (n : New H H' d v) : SI F (σ.set i (some v)) ⟨r', st.g⟩ H' := by
  obtain ⟨xs, rfl, hi, rfl⟩ := putS_own e
  obtain ⟨a, vs, rfl, h1, h2, h3⟩ := n
  exact (I.hide2 sm h1 h2 h3).adopt (hid_ne I h1) hi
end
end Rf

set_option Elab.async false
set_option linter.all false
set_option maxRecDepth 100000
set_option maxHeartbeats 4000000
namespace Rf
open PySem PySem.Spec PyProof.Rows L2

section
variable {X : Cx} {T : Tbl} {XR : Hp → Nat → List D → Value → Option Addr → Prop} {W : WX} {m : E} {e : Expr} {pos : Pos}
/-- no comprehension: its value is stored as any other -/
def noComp : Expr → Bool
  | .ListComp .. => false
  | .SetComp .. => false
  | .DictComp .. => false
  | _ => true
theorem sw_none {t : Option Expr} {l : Nat} {env : Env} (h : noComp e = true) : swapsWith e t l env = pure false := by
  cases e <;> first | rfl | (simp [noComp] at h)
theorem r_set {i : Nat} {x : Str} {p1 : Pos} (nd : X.N.Nodup) (hi : X.N[i]? = some x) (hx : Loc X.env.scope x) (fn : X.fn x = true) (he : PE X e (den T XR W m)) (hs : noComp e = true) : PS X (.Assign [.Name x p1] e pos) (denS T XR W (.set (.nm i) m)) := by
  refine psOf (ps_set nd hi hx he (sw_none hs) (.inl fn)) fun σ H Dd ⟨F, st, I, h⟩ => ?_
  simp only [run] at h
  refine ⟨F, st, I, PostS.onE h fun d s H1 _ p I1 q v rv => ?_⟩
  simp only [bindP] at q
  split at q
  · rename_i r er
    split at er
    · rename_i hl
      cases er
      exact q F _ H1 (Grown.refl F) (Pers.refl _) (I1.put hl ⟨v, rfl, rv⟩ (fun z q => by cases q))
    · cases er
  · exact q.elim
theorem r_setP {ps : List Pat} {es : List Expr} {k : Nat} {p1 : Pos} (he : PE X e (den T XR W m)) (hg : PG X (.Tuple es k p1) (patG X.K (.tp ps))) (hs : noComp e = true) (hw : swappedStores [.Tuple es k p1] e X.env = pure none) :
    PS X (.Assign [.Tuple es k p1] e pos) (denS T XR W (.set (.tp ps) m)) := by
  refine psOf (ps_asg he hg (sw_none (t := some (.Tuple es k p1)) (l := pos.line) (env := X.env) hs) hw rfl) fun σ H Dd ⟨F, st, I, h⟩ => ?_
  simp only [run] at h
  refine ⟨F, st, I, PostS.onE h fun d s H1 _ p I1 q v rv => ?_⟩
  split at q
  · rename_i r er
    exact bindP_run _ d s.r r v σ _ er I1 rv fun σ' J _ => q F σ' H1 (Grown.refl F) (Pers.refl _) J
  · exact q.elim
theorem setOwnGo {i : Nat} {σ : L2.St} {H : Hp} {Dd : Ends} (h : denS T XR W (.setOwn i m) Dd σ H) : denN T XR W m σ H fun v H1 => Dd.nx (σ.set i (some v)) H1 := by
  obtain ⟨F, st, I, h⟩ := h
  simp only [run] at h
  refine ⟨F, st, I, PostS.onE h fun d s H1 _ p I1 q v H' sm n => ?_⟩
  split at q
  · rename_i r er
    exact q F _ H' (Grown.refl F) (Pers.of_same sm) (I1.put2 sm er n)
  · exact q.elim
theorem r_setOwn {i : Nat} {x : Str} {p1 : Pos} (nd : X.N.Nodup) (hi : X.N[i]? = some x) (hx : Loc X.env.scope x) (fn : X.fn x = true) (he : PE X e (denN T XR W m)) (hs : swapsWith e (some (.Name x p1)) pos.line X.env = pure false) : PS X (.Assign [.Name x p1] e pos) (denS T XR W (.setOwn i m)) :=
  psOf (ps_set nd hi hx he hs (.inl fn)) fun σ H Dd h => setOwnGo h
theorem SI.forget {F : Fx} {σ : L2.St} {st : Sx} {H : Hp} {q : Addr × List D} (I : SI { F with hid := q :: F.hid } σ st H) : SI F σ st H :=
  ⟨I.slot, I.one, fun i x a h1 h2 => let ⟨g1, g2, g3⟩ := I.fresh i x a h1 h2; ⟨g1, g2, fun z hz => g3 z (List.mem_cons_of_mem _ hz)⟩, I.keep, I.glen, I.glob, I.gone, fun z hz => I.hid z (List.mem_cons_of_mem _ hz), fun z hz => I.hfr z (List.mem_cons_of_mem _ hz)⟩
/-- an evaluation while a list that was made is out of sight -/
theorem PostS.onE2 {F : Fx} {σ : L2.St} {H : Hp} {Dd : Ends} {hq : Addr × List D} {α : Type} {q : Res α} {f : α → Sx → SRes} {R : α → Hp → Prop} (h : PostS XR W F H (Rf.onE q f) Dd)
    (k : ∀ a st H', q = .ok a st → Pers H H' → SI { F with hid := hq :: F.hid } σ st H' → PostS XR W F H' (f a st) Dd → R a H') : Post XR W { F with hid := hq :: F.hid } σ H q R := by
  cases q with
  | ok a st => exact fun H' p I => k a st H' rfl p I (PostS.weak (Grown.refl F) p h)
  | exc c fs st => exact fun cls dd H' p I x => h F cls dd σ H' (Grown.refl F) p I.forget x
  | bad => exact h
theorem put_end {F : Fx} {j : Nat} {oj : Bool} {e : D} {σ : L2.St} {st : Sx} {r : List Slot} {H H' : Hp} {w : V} {Dd : Ends} (I : SI F σ ⟨r, st.g⟩ H) (sm : Same H H') (hn : if oj then New H H' e w else Rep H' e w)
    (q : PostS XR W F H (match putS oj j e r with | some r => .nx ⟨r, st.g⟩ | none => .bad) Dd) : ∀ H'', Same H' H'' → Dd.nx (σ.set j (some w)) H'' := by
  intro H'' s2
  split at q
  · rename_i r' er
    cases oj with
    | false => exact q F _ H'' (Grown.refl F) (Pers.of_same (sm.trans s2)) (((I.same sm).put1 er hn).same s2)
    | true => exact q F _ H'' (Grown.refl F) (Pers.of_same (sm.trans s2)) ((I.put2 sm er hn).same s2)
  · exact q.elim
theorem parGo {F : Fx} {i j : Nat} {oi oj : Bool} {a b : E} {σ : L2.St} {st : Sx} {H : Hp} {Dd : Ends} (I : SI F σ st H) (h : PostS XR W F H (run T (.par i j oi oj a b) st) Dd) :
    (if oi then denN T XR W a else den T XR W a) σ H fun v H1 => (if oj then denN T XR W b else den T XR W b) σ H1 fun w H2 => ∀ H3, Same H2 H3 → Dd.nx ((σ.set i (some v)).set j (some w)) H3 := by
  simp only [run] at h
  cases oi with
  | false =>
    rw [if_neg (by decide)]
    refine ⟨F, st, I, PostS.onE h fun d s H1 _ p I1 q v rv => ?_⟩
    have fin : ∀ {e : D} {s2 : Sx} {H2 H3 : Hp} {w : V}, Pers H1 H2 → SI F σ s2 H2 → Same H2 H3 → (if oj then New H2 H3 e w else Rep H3 e w) →
        PostS XR W F H2 (match putS false i d s2.r with | some r => (match putS oj j e r with | some r => .nx ⟨r, s2.g⟩ | none => .bad) | none => .bad) Dd → ∀ H4, Same H3 H4 → Dd.nx ((σ.set i (some v)).set j (some w)) H4 := by
      intro e s2 H2 H3 w p2 I2 sm hn q2
      split at q2
      · rename_i r er
        exact put_end (st := ⟨r, s2.g⟩) (I2.put1 er (Rep.pers p2 _ _ rv)) sm hn q2
      · exact q2.elim
    cases oj with
    | false =>
      rw [if_neg (by decide)]
      exact ⟨F, s, I1, PostS.onE q fun e s2 H2 _ p2 I2 q2 w rw' => fin p2 I2 (Same.refl _) rw' q2⟩
    | true =>
      rw [if_pos rfl]
      exact ⟨F, s, I1, PostS.onE q fun e s2 H2 _ p2 I2 q2 w H3 sm n => fin p2 I2 sm n q2⟩
  | true =>
    rw [if_pos rfl]
    refine ⟨F, st, I, PostS.onE h fun d s H1 _ p I1 q v H1' sm0 n0 => ?_⟩
    cases d with
    | lst xs =>
      obtain ⟨pa, vs, rfl, g1, g2, g3⟩ := n0
      have J1 := I1.hide2 sm0 g1 g2 g3
      have nd := hid_ne I1 g1
      have q := PostS.weak (Grown.refl F) (Pers.of_same sm0) q
      have fin : ∀ {e : D} {s2 : Sx} {H2 H3 : Hp} {w : V}, SI { F with hid := (pa, xs) :: F.hid } σ s2 H2 → Same H2 H3 → (if oj then New H2 H3 e w else Rep H3 e w) →
          PostS XR W F H2 (match putS true i (.lst xs) s2.r with | some r => (match putS oj j e r with | some r => .nx ⟨r, s2.g⟩ | none => .bad) | none => .bad) Dd → ∀ H4, Same H3 H4 → Dd.nx ((σ.set i (some (.ref pa))).set j (some w)) H4 := by
        intro e s2 H2 H3 w I2 sm hn q2
        split at q2
        · rename_i r er
          obtain ⟨ys, ey, hi, rfl⟩ := putS_own er
          cases ey
          exact put_end (st := ⟨s2.r.set i (.own xs), s2.g⟩) (I2.adopt nd hi) sm hn q2
        · exact q2.elim
      cases oj with
      | false =>
        rw [if_neg (by decide)]
        exact ⟨_, s, J1, PostS.onE2 q fun e s2 H2 _ p2 I2 q2 w rw' => fin I2 (Same.refl _) rw' q2⟩
      | true =>
        rw [if_pos rfl]
        exact ⟨_, s, J1, PostS.onE2 q fun e s2 H2 _ p2 I2 q2 w H3 sm n => fin I2 sm n q2⟩
    | _ =>
      all_goals
        have J1 := I1.same sm0
        have q := PostS.weak (Grown.refl F) (Pers.of_same sm0) q
        cases oj with
        | false =>
          rw [if_neg (by decide)]
          refine ⟨F, s, J1, PostS.onE q fun e s2 H2 _ p2 I2 q2 w rw' => ?_⟩
          split at q2
          · rename_i r er
            obtain ⟨ys, ey, _⟩ := putS_own er
            cases ey
          · exact q2.elim
        | true =>
          rw [if_pos rfl]
          refine ⟨F, s, J1, PostS.onE q fun e s2 H2 _ p2 I2 q2 w H3 sm n => ?_⟩
          split at q2
          · rename_i r er
            obtain ⟨ys, ey, _⟩ := putS_own er
            cases ey
          · exact q2.elim
/-- a shared dict turned -/
theorem SI.gput {F : Fx} {σ : L2.St} {st : Sx} {H : Hp} {j : Nat} {kd : Gd} {a : Addr} {kvs : List (Key × V)} {k : Key} {d : D} {v : V} (I : SI F σ st H) (e : st.g[j]? = some kd) (ea : F.l[j]? = some a)
    (h : H a = some (.dK kvs)) (h1 : kvs.map (·.1) = kd.map (·.1)) (h2 : RepL H (kd.map (·.2)) (kvs.map (·.2))) (rv : Rep H d v) : SI F σ ⟨st.r, st.g.set j (setK kd k d)⟩ (upd H a (.dK (putK kvs k v))) := by
  have pe : Pers H (upd H a (.dK (putK kvs k v))) := pers_upd h trivial
  have mem : a ∈ F.l := List.mem_of_getElem? ea
  refine ⟨fun i x hx => ?_, I.one, I.fresh, fun b o g1 g2 => ?_, by rw [List.length_set]; exact I.glen, fun k' kd' b g1 g2 => ?_, I.gone, fun q hq => ?_, I.hfr⟩
  · obtain ⟨y, g1, g2⟩ := I.slot i x hx
    refine ⟨y, g1, ?_⟩
    cases x with
    | none => trivial
    | val d => obtain ⟨w, e1, e2⟩ := g2; exact ⟨w, e1, Rep.pers pe _ _ e2⟩
    | own zs =>
      obtain ⟨b, ws, e1, e2, e3⟩ := g2
      refine ⟨b, ws, e1, ?_, RepL.pers pe _ _ e3⟩
      rw [upd_ne (fun z => (I.fresh i zs b hx (by rw [g1, e1])).2.1 (by rw [z]; exact mem))]
      exact e2
    | glb k => exact g2
  · rw [upd_ne (fun z => g2 (by rw [z]; exact mem))]
    exact I.keep b o g1 g2
  · by_cases z : j = k'
    · subst z
      rw [ea] at g2
      cases g2
      rw [List.getElem?_set_self (List.getElem?_eq_some_iff.mp e).1] at g1
      cases g1
      obtain ⟨z1, z2⟩ := setK_rep (k := k) rv h1 h2
      exact ⟨_, upd_same, z1, RepL.pers pe _ _ z2⟩
    · rw [List.getElem?_set_ne z] at g1
      obtain ⟨us, y1, y2, y3⟩ := I.glob k' kd' b g1 g2
      refine ⟨us, ?_, y2, RepL.pers pe _ _ y3⟩
      rw [upd_ne (fun w => z (I.gone j k' a ea (by rw [g2, w])))]
      exact y1
  · obtain ⟨ws, z1, z2⟩ := I.hid q hq
    refine ⟨ws, ?_, RepL.pers pe _ _ z2⟩
    rw [upd_ne (fun w => (I.hfr q hq).2 (by rw [w]; exact mem))]
    exact z1
theorem r_gset {i : Nat} {k : Key} {x : Str} {p1 p2 : Pos} {ek : Expr} (hN : X.N[i]? = some x) (hv : Vis X.env.scope x) (hd : (x == ("__debug__" : Str)) = false) (hcd : (x == ("__classdict__" : Str)) = false) (hu : X.A.units + 1 < cLine)
    (hk : PE X ek (tC (kV k))) (he : PE X e (den T XR W m)) (hs : noComp e = true) : PS X (.Assign [.Subscript (.Name x p1) ek p2] e pos) (denS T XR W (.gset i k m)) := by
  refine psOf (ps_dput hu (pe_var hN hv hd hcd) hk he (sw_none hs)) fun σ H Dd ⟨F, st, I, h⟩ => ?_
  simp only [run] at h
  refine ⟨F, st, I, PostS.onE h fun d s H1 _ p I1 q v rv => ?_⟩
  cases ex : s.r[i]? with
  | none => rw [ex] at q; exact q.elim
  | some y =>
    cases y with
    | glb j =>
      rw [ex] at q
      simp only at q
      split at q
      · rename_i kd ekd
        split at q
        · rename_i hl
          obtain ⟨y, g1, b, rfl, g3⟩ := I1.slot i _ ex
          obtain ⟨kvs, z1, z2, z3⟩ := I1.glob j kd b ekd g3
          refine ⟨.ref b, g1, b, _, rfl, DPut.k z1 ?_, q F σ _ (Grown.refl F) (pers_upd z1 trivial) (I1.gput ekd g3 z1 z2 z3 rv)⟩
          have := congrArg List.length z2
          rw [List.length_map, List.length_map] at this
          rw [sz_big, this]
          exact hl
        · exact q.elim
      · exact q.elim
    | _ => rw [ex] at q; exact q.elim
theorem r_drop (he : PE X e (den T XR W m)) (hs : noComp e = true) : PS X (.Expr e pos) (denS T XR W (.drop m)) := by
  refine psOf (ps_expr he (sw_none hs)) fun σ H Dd ⟨F, st, I, h⟩ => ?_
  simp only [run] at h
  exact ⟨F, st, I, PostS.onE h fun d s H1 _ p I1 q v rv => q F σ H1 (Grown.refl F) (Pers.refl _) I1⟩
theorem r_ret (he : PE X e (den T XR W m)) : PS X (.Return (some e) pos) (denS T XR W (.ret m)) := by
  refine psOf (ps_ret he) fun σ H Dd ⟨F, st, I, h⟩ => ?_
  simp only [run] at h
  exact ⟨F, st, I, PostS.onE h fun d s H1 _ p I1 q v rv => q F v σ H1 (Grown.refl F) (Pers.refl _) I1 rv⟩
theorem r_retN : PS X (.Return none pos) (denS T XR W .retN) :=
  psOf ps_retN fun σ H Dd ⟨F, st, I, h⟩ => h F .non σ H (Grown.refl F) (Pers.refl _) I rfl
theorem r_pass : PS X (.Pass pos) (denS T XR W .pass) := psOf ps_pass fun σ H Dd ⟨F, st, I, h⟩ => h F σ H (Grown.refl F) (Pers.refl _) I
theorem r_brk : PS X (.Break pos) (denS T XR W .brk) := psOf ps_break fun σ H Dd ⟨F, st, I, h⟩ => h F σ H (Grown.refl F) (Pers.refl _) I
theorem r_cont : PS X (.Continue pos) (denS T XR W .cont) := psOf ps_continue fun σ H Dd ⟨F, st, I, h⟩ => h F σ H (Grown.refl F) (Pers.refl _) I
theorem r_if {c : E} {a b : List S} {ec : Expr} {ba bb : List Stmt} (hc : PT X ec (denT T XR W c)) (ha : PSs X ba (denSs T XR W a)) (hb : PSs X bb (denSs T XR W b)) : PS X (.If ec ba bb pos) (denS T XR W (.ifS c a b)) := by
  refine psOf (ps_if hc ha hb) fun σ H Dd ⟨F, st, I, h⟩ => ?_
  simp only [run] at h
  refine ⟨F, st, I, PostS.onE h fun d s H1 _ p I1 q => ?_⟩
  split at q
  · rename_i ed; exact ⟨true, ed, by dsimp only; rw [if_pos rfl]; exact ⟨F, s, I1, q⟩⟩
  · rename_i ed; exact ⟨false, ed, by dsimp only; rw [if_neg (by decide)]; exact ⟨F, s, I1, q⟩⟩
  · exact q.elim
theorem rs_nil : PSs X [] (denSs T XR W []) := pssOf pss_nil fun σ H Dd ⟨F, st, I, h⟩ => h F σ H (Grown.refl F) (Pers.refl _) I
theorem rs_cons {s : S} {ss : List S} {st : Stmt} {sts : List Stmt} (h1 : PS X st (denS T XR W s)) (h2 : PSs X sts (denSs T XR W ss)) : PSs X (st :: sts) (denSs T XR W (s :: ss)) := by
  refine pssOf (pss_cons h1 h2) fun σ H Dd ⟨F, sx, I, h⟩ => ⟨F, sx, I, ?_⟩
  simp only [runs] at h
  cases q : run T s sx with
  | nx s1 =>
    rw [q] at h
    exact fun F' σ' H' g p I' => ⟨F', s1, I', PostS.weak g p h⟩
  | ret d s1 => rw [q] at h; exact h
  | retG kd s1 => rw [q] at h; exact h
  | bk s1 => rw [q] at h; exact h
  | ct s1 => rw [q] at h; exact h
  | exc c fs s1 => rw [q] at h; exact h
  | bad => rw [q] at h; exact h
/-- a list at rest from here on -/
theorem rs_freeze {i : Nat} {ss : List S} {sts : List Stmt} (h2 : PSs X sts (denSs T XR W ss)) : PSs X sts (denSs T XR W (.freeze i :: ss)) := by
  refine ⟨fun pins s σ H Dd I0 ⟨F, sx, I, h⟩ => ?_⟩
  simp only [runs, run] at h
  cases ex : sx.r[i]? with
  | none => rw [ex] at h; exact h.elim
  | some y =>
    cases y with
    | own xs =>
      rw [ex] at h
      simp only at h
      obtain ⟨a, vs, q1, q2, q3⟩ := I.own ex
      obtain ⟨od, I1⟩ := I0.lock q2 trivial
      have pe : Pers H (upd H a (.frz od (.lst vs))) := pers_upd q2 trivial
      refine h2.run pins s σ _ Dd I1 ⟨F, _, ?_, PostS.weak (Grown.refl F) pe h⟩
      obtain ⟨f1, f2, f3⟩ := I.fresh i xs a ex q1
      have hi : i < sx.r.length := (List.getElem?_eq_some_iff.mp ex).1
      have ow : ∀ {j : Nat} {z : List D}, (sx.r.set i (.val (.lst xs)))[j]? = some (.own z) → i ≠ j ∧ sx.r[j]? = some (.own z) := by
        intro j z hz
        by_cases e : i = j
        · subst e; rw [List.getElem?_set_self hi] at hz; cases hz
        · rw [List.getElem?_set_ne e] at hz; exact ⟨e, hz⟩
      refine ⟨fun j x hx => ?_, fun j k x y b g1 g2 g3 g4 => ?_, fun j x b g1 g2 => ?_, fun b o g1 g2 => ?_, I.glen, fun k kd b g1 g2 => ?_, I.gone, fun q hq => ?_, I.hfr⟩
      · by_cases e : i = j
        · subst e
          rw [List.getElem?_set_self hi] at hx
          cases hx
          exact ⟨_, q1, .ref a, rfl, by simp only [Rep]; exact ⟨a, od, vs, rfl, upd_same, RepL.pers pe _ _ q3⟩⟩
        · rw [List.getElem?_set_ne e] at hx
          obtain ⟨y, g1, g2⟩ := I.slot j x hx
          refine ⟨y, g1, ?_⟩
          cases x with
          | none => trivial
          | val d => obtain ⟨v, e1, e2⟩ := g2; exact ⟨v, e1, Rep.pers pe _ _ e2⟩
          | own zs =>
            obtain ⟨b, ws, e1, e2, e3⟩ := g2
            refine ⟨b, ws, e1, ?_, RepL.pers pe _ _ e3⟩
            rw [upd_ne (fun z => e (by subst z; exact I.one i j xs zs b ex hx q1 (by rw [g1, e1])))]
            exact e2
          | glb k => exact g2
      · obtain ⟨n1, g1⟩ := ow g1
        obtain ⟨n2, g2⟩ := ow g2
        exact I.one j k x y b g1 g2 g3 g4
      · obtain ⟨n1, g1⟩ := ow g1
        exact I.fresh j x b g1 g2
      · rw [upd_ne (fun z => by rw [z, f1] at g1; cases g1)]
        exact I.keep b o g1 g2
      · obtain ⟨kvs, z1, z2, z3⟩ := I.glob k kd b g1 g2
        refine ⟨kvs, ?_, z2, RepL.pers pe _ _ z3⟩
        rw [upd_ne (fun z => f2 (by rw [← z]; exact List.mem_of_getElem? g2))]
        exact z1
      · obtain ⟨us, z1, z2⟩ := I.hid q hq
        exact ⟨us, by rw [upd_ne (f3 q hq)]; exact z1, RepL.pers pe _ _ z2⟩
    | _ => rw [ex] at h; exact h.elim
end
end Rf

set_option Elab.async false
set_option linter.all false
set_option maxRecDepth 100000
set_option maxHeartbeats 4000000
namespace Rf
open PySem PySem.Spec PyProof.Rows L2

section
variable {X : Cx} {T : Tbl} {XR : Hp → Nat → List D → Value → Option Addr → Prop} {W : WX} {m : E} {e : Expr} {pos : Pos}
theorem r_for {p : Pat} {k : ItK} {src : List E} {b : List S} {tg iter : Expr} {body : List Stmt} (hp : PassesOwn (model X.prog X.w) X.A X.env X.xe) (hc : X.calm = true) (hi : PI X tg iter (iD T XR W k src)) (hg : PG X tg (patG X.K p)) (hb : PSs X body (denSs T XR W b))
    (hs : ∀ x, foldedSetIterable iter X.env x = pure x) : PS X (.For tg iter body [] pos) (denS T XR W (.forS p k src b)) := by
  refine psOf (ps_for hp hc hi hg hb hs) fun σ H Dd ⟨F, st, I, h⟩ => ?_
  simp only [run] at h
  refine ⟨F, st, I, PostS.onE h fun ds s H1 _ p1 I1 q => ?_⟩
  cases ei : k.get ds with
  | none => rw [ei] at q; exact q.elim
  | some its =>
    rw [ei] at q
    simp only at q
    refine ⟨its, rfl, fun J H2 sm wk => ?_⟩
    let Wv : Nat → Nat → L2.St → Hp → Prop := fun i mm σ' H' => mm = its.length - i ∧ i ≤ its.length ∧ Pers H2 H' ∧ ∃ F' st', Grown F F' ∧ SI F' σ' st' H' ∧ PostS XR W F' H' (loopS (bindP p) (runs T b) (its.drop i) st') Dd
    refine ⟨Wv, ⟨its.length, by simp, Nat.zero_le _, Pers.refl _, F, s, Grown.refl F, I1.same sm, by rw [List.drop_zero]; exact PostS.weak (Grown.refl F) (Pers.of_same sm) q⟩, ?_⟩
    rintro i mm σ' H' ⟨rfl, hi, pc, F', st', g', I', q'⟩
    by_cases hlt : i < its.length
    · have hx : its[i]? = some its[i] := List.getElem?_eq_getElem hlt
      obtain ⟨go, yld⟩ := wk.go i H' _ pc hx
      refine .inr ⟨go, fun σ2 H2' => ∃ m', m' < its.length - i ∧ Wv (i + 1) m' σ2 H2', fun σ2 H2' z => z, fun x H3 hy => ?_⟩
      obtain ⟨sm2, rx⟩ := yld x H3 hy
      rw [List.drop_eq_getElem_cons hlt] at q'
      simp only [loopS] at q'
      cases eb : bindP p its[i] st'.r with
      | none => rw [eb] at q'; exact q'.elim
      | some r1 =>
        rw [eb] at q'
        simp only at q'
        refine bindP_run p _ _ r1 x _ _ eb (I'.same sm2) rx fun σ2 J2 _ => ⟨F', ⟨r1, st'.g⟩, J2, ?_⟩
        have q' := PostS.weak (Grown.refl F') (Pers.of_same sm2) q'
        have again : ∀ {s2 : Sx}, PostS XR W F' H3 (loopS (bindP p) (runs T b) (its.drop (i + 1)) s2) Dd → ∀ F'' σ3 H4, Grown F' F'' → Pers H3 H4 → SI F'' σ3 s2 H4 → ∃ m', m' < its.length - i ∧ Wv (i + 1) m' σ3 H4 := by
          intro s2 q2 F'' σ3 H4 g4 p4 I4
          exact ⟨its.length - (i + 1), by omega, rfl, hlt, pc.trans ((Pers.of_same sm2).trans p4), F'', s2, g'.trans g4, I4, PostS.weak g4 p4 q2⟩
        cases er : runs T b ⟨r1, st'.g⟩ with
        | nx s2 => rw [er] at q'; exact again q'
        | ct s2 => rw [er] at q'; exact again q'
        | bk s2 => rw [er] at q'; exact q'
        | ret d s2 => rw [er] at q'; exact q'
        | retG kd s2 => rw [er] at q'; exact q'
        | exc c fs s2 => rw [er] at q'; exact q'
        | bad => rw [er] at q'; exact q'
    · have e : i = its.length := by omega
      subst e
      rw [List.drop_length] at q'
      exact .inl ⟨wk.stop H' pc, q' F' σ' H' (Grown.refl F') (Pers.refl _) I'⟩
/-! ### match -/
def denM (T : Tbl) (XR : Hp → Nat → List D → Value → Option Addr → Prop) (W : WX) (x : List Nat) (cs : List S) : TS := fun D σ H => ∃ F st, SI F σ st H ∧ PostS XR W F H (runm T x cs st) D
structure MC (X : Cx) (cases : List MatchCase) (t : List Nat → TS) : Prop where
  run : ∀ (pins : List (Addr × Obj)) (s : Shared) (σ : L2.St) (H : Hp) (D : Ends) (x : List Nat) (u : Value) (first : Bool), Inv X pins σ H s → RelV (.str ⟨x.toArray⟩) u → x.length ≤ sizeLine → t x D σ H → wpAny (model X.prog X.w) X.A (matchCases cases X.env u first) (SP X pins D) X.xe s
theorem mc_nil : MC X [] (fun x => denM T XR W x []) := ⟨fun pins s σ H D x u first I _ _ ⟨F, st, J, h⟩ => wpAny_matchCases_nil ⟨σ, H, I, h F σ H (Grown.refl F) (Pers.refl _) J⟩⟩
theorem mc_def {b : List S} {cs : List S} {body : List Stmt} {rest : List MatchCase} {pp : Pos} (hb : PSs X body (denSs T XR W b)) : MC X (⟨.MatchAs none none pp, none, body⟩ :: rest) (fun x => denM T XR W x (.caseD b :: cs)) := by
  refine ⟨fun pins s σ H D x u first I _ _ ⟨F, st, J, h⟩ => wpAny_matchCases_cons (wpAny_matchPattern_Capture ?_)⟩
  exact wpAny_assignInOrder_none (hb.run pins s σ H D I ⟨F, st, J, h⟩)
theorem mc_key {k : List Nat} {b : List S} {cs : List S} {body : List Stmt} {rest : List MatchCase} {p1 p2 : Pos} {kd : Nat} (hu : X.A.units + 64 < cLine) (hk : k.length ≤ big) (hb : PSs X body (denSs T XR W b)) (hr : MC X rest (fun x => denM T XR W x cs)) :
    MC X (⟨.MatchValue (.Constant (.str ⟨k.toArray⟩) kd p1) p2, none, body⟩ :: rest) (fun x => denM T XR W x (.caseK k b :: cs)) := by
  refine ⟨fun pins s σ H D x u first I ru hz ⟨F, st, J, h⟩ => wpAny_matchCases_cons (wpAny_matchPattern_Value ?_)⟩
  refine thn ((pe_str (X := X) (x := ⟨k.toArray⟩) (j := kd) (pos := p1)).run pins s σ H (fun v H1 => v = .str ⟨k.toArray⟩ ∧ H1 = H) I ⟨rfl, rfl⟩) fun w s1 ⟨v, H1, I1, rv, ev1, eh⟩ => ?_
  subst ev1 eh
  refine thn (o_eq hu pins s1 σ H1 (.str ⟨x.toArray⟩) (.str ⟨k.toArray⟩) u w (fun v H2 => v = .bl (decide (x = k)) ∧ Same H1 H2) I1 ru rv ⟨.str x, .str k, ⟨rfl, hz⟩, ⟨rfl, by rw [sz_big]; exact hk⟩, .bl (decide (x = k)), rfl, fun v H2 sm nv => ⟨nv, sm⟩⟩) fun c s2 ⟨v, H2, I2, rc, e1, e2⟩ => ?_
  have J := J.same e2
  have h := PostS.weak (Grown.refl F) (Pers.of_same e2) h
  · subst e1
    obtain rfl : c = _ := rc
    refine wpAny_truthy_bool ?_
    simp only [runm] at h
    by_cases z : x = k
    · rw [if_pos z] at h
      rw [if_pos (by simp [z])]
      exact wpAny_assignInOrder_none (hb.run pins s2 σ H2 D I2 ⟨F, st, J, h⟩)
    · rw [if_neg z] at h
      rw [if_neg (by simp [z])]
      exact hr.run pins s2 σ H2 D x u false I2 ru hz ⟨F, st, J, h⟩
theorem r_match {cs : List S} {cases : List MatchCase} (he : PE X e (den T XR W m)) (hc : MC X cases (fun x => denM T XR W x cs)) : PS X (.Match e cases pos) (denS T XR W (.matchS m cs)) := by
  refine ⟨fun pins s σ H Dd I0 ⟨F, st, I, h⟩ => wpAny_Match ?_⟩
  simp only [run] at h
  refine thn (he.run pins s σ H (fun v H1 => ∃ x, v = .str ⟨x.toArray⟩ ∧ x.length ≤ sizeLine ∧ denM T XR W x cs Dd σ H1) I0 ⟨F, st, I, PostS.onE h fun d s1 H1 _ p I1 q v rv => ?_⟩) fun u s1 ⟨v, H1, I1, ru, x, ev1, hz, hq⟩ => ?_
  · cases d <;> try exact q.elim
    simp only [Rep] at rv
    exact ⟨_, rv.1, rv.2, F, s1, I1, q⟩
  · subst ev1
    exact hc.run pins s1 σ H1 Dd x u true I1 ru hz hq
theorem r_aug_add {i : Nat} {x : Str} {p1 : Pos} (nd : X.N.Nodup) (hi : X.N[i]? = some x) (hx : Loc X.env.scope x) (fn : X.fn x = true) (he : PE X e (den T XR W m)) : PS X (.AugAssign (.Name x p1) .Add e pos) (denS T XR W (.aug i .add m)) := by
  refine psOf (ps_aug nd hi hx he ip_add (.inl fn)) fun σ H Dd ⟨F, st, I, h⟩ => ?_
  simp only [run] at h
  split at h
  · rename_i a ea
    obtain ⟨v, g1, g2⟩ := I.var ea
    obtain rfl : v = _ := g2
    refine ⟨_, g1, F, st, I, PostS.onE h fun d s1 H1 _ p I1 q w rw' => ?_⟩
    cases d <;> simp only at q <;> try (exact q.elim)
    split at q
    · rename_i hl
      obtain rfl : w = _ := rw'
      refine ⟨_, _, rfl, rfl, q F _ H1 (Grown.refl F) (Pers.refl _) (I1.put hl ⟨_, rfl, rfl⟩ (fun z q => by cases q))⟩
    · exact q.elim
  · exact h.elim
theorem r_aug_sub {i : Nat} {x : Str} {p1 : Pos} (nd : X.N.Nodup) (hi : X.N[i]? = some x) (hx : Loc X.env.scope x) (fn : X.fn x = true) (he : PE X e (den T XR W m)) : PS X (.AugAssign (.Name x p1) .Sub e pos) (denS T XR W (.aug i .sub m)) := by
  refine psOf (ps_aug nd hi hx he ip_sub (.inl fn)) fun σ H Dd ⟨F, st, I, h⟩ => ?_
  simp only [run] at h
  split at h
  · rename_i a ea
    obtain ⟨v, g1, g2⟩ := I.var ea
    obtain rfl : v = _ := g2
    refine ⟨_, g1, F, st, I, PostS.onE h fun d s1 H1 _ p I1 q w rw' => ?_⟩
    cases d <;> simp only at q <;> try (exact q.elim)
    split at q
    · rename_i hl
      obtain rfl : w = _ := rw'
      refine ⟨_, _, rfl, rfl, q F _ H1 (Grown.refl F) (Pers.refl _) (I1.put hl ⟨_, rfl, rfl⟩ (fun z q => by cases q))⟩
    · exact q.elim
  · exact h.elim
/-! ### a, b = x, y -/
/-- which stores go the other way round, by the scope alone -/
def swapP (ts vs : List Expr) (bk : ScopeKind) (kind : Str → Option NameKind) : Option (Option (List Str)) :=
  if !(ts.length == 2 || ts.length == 3) || vs.length != ts.length || bk != .function then some none
  else if vs.any (fun | .Starred .. => true | _ => false) then some none
  else
    let line := (ts.head?.map (·.pos.line)).getD 0
    let names := ts.filterMap fun
      | .Name id pos => if kind id == some .local && pos.line == line then some id else none
      | _ => none
    if names.length != ts.length || names.eraseDups.length != names.length then some none
    else if vs.all (foldedForSure 8) then some none
    else if vs.all (constantsAlone 8) then none
    else some (some names)
theorem sw_of {ts vs : List Expr} {k k2 : Nat} {p1 p2 : Pos} {env : Env} {r : Option (List Str)} (h : swapP ts vs env.blockKind env.kindOf = some r) : swappedStores [.Tuple ts k p1] (.Tuple vs k2 p2) env = pure r := by
  unfold swapP at h
  unfold swappedStores
  simp only
  split at h
  · rename_i z; cases h; rw [if_pos z]
  · rename_i z
    rw [if_neg z]
    split at h
    · rename_i z; cases h; exact if_pos z
    · rename_i z
      refine (if_neg z).trans ?_
      simp only at h
      split at h
      · rename_i z; cases h; exact if_pos z
      · rename_i z
        refine (if_neg z).trans ?_
        split at h
        · rename_i z; cases h; exact if_pos z
        · rename_i z
          refine (if_neg z).trans ?_
          split at h
          · cases h
          · rename_i z; cases h; exact if_neg z
end
end Rf

set_option Elab.async false
set_option linter.all false
set_option maxRecDepth 100000
set_option maxHeartbeats 4000000
namespace Rf
open PySem PySem.Spec PyProof.Rows L2

section
variable {X : Cx} {T : Tbl} {XR : Hp → Nat → List D → Value → Option Addr → Prop} {W : WX} {m : E} {e : Expr} {pos : Pos} {F : Fx} {σ : L2.St} {st : Sx} {H H' : Hp} {p : Addr} {o o' : HO}
theorem r_retDic {ks : List Key} {es : List E} {keys : List (Option Expr)} {values : List Expr} (hp : PPs X pos keys values (tPs T XR W ks es)) (hall : keys.all (·.isSome) = true) (hl : keys.length = values.length) (h0 : keys ≠ []) (h15 : keys.length ≤ 15)
    (hk : ks.length = es.length) (no : (es.all fun a => a.isOwn.isNone) = true) {p2 : Pos} : PS X (.Return (some (.Dict keys values pos)) p2) (denS T XR W (.retDic ks es)) := by
  refine psOf (ps_ret (pe_disp hp hall hl h0 h15)) fun σ H Dd ⟨F, st, I, h⟩ => ?_
  simp only [run] at h
  show tDisp (tPs T XR W ks es) σ H fun v H' => Dd.rt v H'
  intro p hpn
  obtain ⟨f0, nl, nh⟩ := I.free hpn
  have sm := same_upd (o := .dK []) hpn
  have h : Post XR W (F.pin p (.dK [])) σ (upd H p (.dK [])) (evs T es st) fun ds H1 => ∀ vs, RX H1 es ds vs → ∃ ds s1, RepL H1 ds vs ∧ SI (F.pin p (.dK [])) σ s1 H1 ∧ PostS XR W F H1 (if ks.length = ds.length ∧ ks.length ≤ 15 ∧ ks.Nodup then .retG (ks.zip ds) s1 else .bad) Dd := by
    cases q : evs T es st with
    | bad => rw [q] at h; exact h
    | exc c fs s1 =>
      rw [q] at h
      exact fun cls dd H' pe I' x => h F cls dd σ H' (Grown.refl F) ((Pers.of_same sm).trans pe) (I'.unpin f0) x
    | ok ds s1 =>
      rw [q] at h
      exact fun H1 pe I1 vs rv => ⟨ds, s1, rv.rep no, I1, PostS.weak (Grown.refl F) ((Pers.of_same sm).trans pe) h⟩
  have h := args es st _ _ (I.pin hpn) h
  refine tPs_mono (pairsGo ks es _ _ hk h) ?_
  rintro ps H2 ⟨us, hu, rfl, ds, s1, rp, I1, q⟩
  split at q
  rotate_left
  · exact q.elim
  rename_i hc
  obtain ⟨c1, c2, c3⟩ := hc
  have hp2 : H2 p = some (.dK []) := I1.keep p _ (if_pos rfl) nl
  have nd : ((([] : List (Key × V)) ++ ks.zip us).map (·.1)).Nodup := by
    rw [List.nil_append, List.map_fst_zip (by omega)]
    exact c3
  refine ⟨hp2, ks.zip us, rfl, ?_, ?_⟩
  · rw [List.length_zip]; omega
  rw [mergeK_nodup _ _ nd, List.nil_append]
  have pe : Pers H2 (upd H2 p (.dK (ks.zip us))) := pers_upd hp2 trivial
  obtain ⟨k1, k2⟩ := RepL.keys c1 rp
  exact q F σ _ p (Grown.refl F) pe (I1.poke f0 nl pe) f0 nl ⟨_, upd_same, k1, RepL.pers pe _ _ k2⟩
theorem r_gcall {i k : Nat} {x : Str} {p1 : Pos} {es : List E} (nd : X.N.Nodup) (hi : X.N[i]? = some x) (hx : Loc X.env.scope x) (fn : X.fn x = true)
    (he : PE X e (fun σ H Q => ∃ F st, SI F σ st H ∧ Post XR W F σ H (evc T es st) fun xs H1 => ∃ st1, SI F σ st1 H1 ∧ match T k xs st1.g with
      | .ret d g => Post XR W F σ H1 (.ok d ⟨st1.r, g⟩) (fun d H' => ∀ v, Rep H' d v → Q v H')
      | .retG kd g => ∀ a H', Pers H1 H' → SI F σ ⟨st1.r, g⟩ H' → H1 a = none → a ∉ F.l → F.H0 a = none → GRep H' kd a → (∀ b o, H1 b = some o → b ∉ F.l → H' b = some o) → Q (.ref a) H'
      | .exc c fs g => Post XR W F σ H1 (.exc c fs ⟨st1.r, g⟩ : Res D) (fun d H' => ∀ v, Rep H' d v → Q v H')
      | .bad => False)) (hs : noComp e = true) : PS X (.Assign [.Name x p1] e pos) (denS T XR W (.gcall i k es)) := by
  refine psOf (ps_set nd hi hx he (sw_none hs) (.inl fn)) fun σ H Dd ⟨F, st, I, h⟩ => ?_
  simp only [run] at h
  refine ⟨F, st, I, PostS.onE h fun xs s1 H1 _ p I1 q => ⟨s1, I1, ?_⟩⟩
  cases z : T k xs s1.g with
  | ret d g => rw [z] at q; exact q.elim
  | bad => rw [z] at q; exact q.elim
  | exc c fs g =>
    rw [z] at q
    exact fun cls dd H' pe I' x => q F cls dd σ H' (Grown.refl F) pe I' x
  | retG kd g =>
    rw [z] at q
    simp only at q
    split at q
    rotate_left
    · exact q.elim
    rename_i hi
    intro a H' pe I' ha nl f0 gr ch
    have nh : ∀ q ∈ F.hid, q.1 ≠ a := (I1.free ha).2.2
    let F2 : Fx := { F with l := F.l ++ [a] }
    have go : SI F2 σ ⟨s1.r, g ++ [kd]⟩ H' := by
      have up : ∀ {k : Nat} {b : Addr}, F.l[k]? = some b → (F.l ++ [a])[k]? = some b := fun {k b} e => by
        rw [List.getElem?_append_left (List.getElem?_eq_some_iff.mp e).1]; exact e
      have gl : g.length = F.l.length := I'.glen
      have dn : ∀ {k : Nat} {b : Addr}, (F.l ++ [a])[k]? = some b → (k < F.l.length ∧ F.l[k]? = some b) ∨ (k = F.l.length ∧ b = a) := fun {k b} e => by
        by_cases w : k < F.l.length
        · rw [List.getElem?_append_left w] at e; exact .inl ⟨w, e⟩
        · rw [List.getElem?_append_right (by omega)] at e
          have : k - F.l.length < 1 := by
            have := (List.getElem?_eq_some_iff.mp e).1
            simpa using this
          have e0 : k - F.l.length = 0 := by omega
          rw [e0] at e
          exact .inr ⟨by omega, by simpa using e.symm⟩
      refine ⟨fun j y hy => ?_, I'.one, fun j y b h1 h2 => ?_, fun b o h1 h2 => I'.keep b o h1 (fun w => h2 (List.mem_append_left _ w)), ?_, fun j kd' b h1 h2 => ?_, fun j l b h1 h2 => ?_, I'.hid, fun q hq => ⟨(I'.hfr q hq).1, fun w => ?_⟩⟩
      · obtain ⟨v, h1, h2⟩ := I'.slot j y hy
        refine ⟨v, h1, ?_⟩
        cases y with
        | none => trivial
        | val d => exact h2
        | own ds => exact h2
        | glb k => obtain ⟨b, e1, e2⟩ := h2; exact ⟨b, e1, up e2⟩
      · obtain ⟨g1, g2, g3⟩ := I'.fresh j y b h1 h2
        refine ⟨g1, fun w => ?_, g3⟩
        rcases List.mem_append.mp w with w | w
        · exact g2 w
        · have w : b = a := by simpa using w
          subst w
          have h1' : s1.r[j]? = some (.own y) := h1
          obtain ⟨c, us, e1, e2, _⟩ := I1.own h1'
          rw [h2] at e1
          cases e1
          rw [ha] at e2; cases e2
      · show (g ++ [kd]).length = (F.l ++ [a]).length
        simp [gl]
      · have h1 : (g ++ [kd])[j]? = some kd' := h1
        rcases dn h2 with ⟨w, e⟩ | ⟨w, rfl⟩
        · rw [List.getElem?_append_left (by omega)] at h1
          exact I'.glob j kd' b h1 e
        · rw [List.getElem?_append_right (by omega), w, gl] at h1
          simp at h1
          rw [← h1]; exact gr
      · rcases dn h1 with ⟨w, e⟩ | ⟨w, rfl⟩
        · rcases dn h2 with ⟨w2, e2⟩ | ⟨w2, rfl⟩
          · exact I'.gone j l b e e2
          · exact absurd (List.mem_of_getElem? e) nl
        · rcases dn h2 with ⟨w2, e2⟩ | ⟨w2, _⟩
          · exact absurd (List.mem_of_getElem? e2) nl
          · omega
      · rcases List.mem_append.mp w with w | w
        · exact (I'.hfr q hq).2 w
        · exact nh q hq (by simpa using w)
    have gl : g.length = F.l.length := I'.glen
    have grown : Grown F F2 := ⟨rfl, rfl, [a], rfl, fun b hb => by rw [show b = a by simpa using hb]; exact f0⟩
    refine q F2 _ H' grown pe (go.put (x := .glb g.length) hi ⟨a, rfl, ?_⟩ (fun z q => by cases q))
    show (F.l ++ [a])[g.length]? = some a
    rw [gl]; simp
end
end Rf

set_option Elab.async false
set_option linter.all false
set_option maxRecDepth 100000
set_option maxHeartbeats 4000000
namespace Rf
open PySem PySem.Spec PyProof.Rows L2

section
variable {X : Cx} {T : Tbl} {XR : Hp → Nat → List D → Value → Option Addr → Prop} {W : WX} {m : E} {e : Expr} {pos : Pos} {F : Fx} {σ : L2.St} {st : Sx} {H H' : Hp} {p : Addr} {o o' : HO}
theorem r_stuck {s : Stmt} : PS X s (denS T XR W .stuck) := ⟨fun pins s σ H D I ⟨F, st, J, h⟩ => False.elim (by simp only [run] at h; exact h)⟩
/-- a new dict comes into a slot, to be changed there -/
theorem SI.gadd {i : Nat} {ks : List Key} {ds : List D} {v : V} (I : SI F σ st H) (sm : Same H H') (hi : i < st.r.length) (hl : ks.length = ds.length) (n : New H H' (.dct ks ds) v) :
    ∃ F', Grown F F' ∧ SI F' (σ.set i (some v)) ⟨st.r.set i (.glb st.g.length), st.g ++ [ks.zip ds]⟩ H' := by
  obtain ⟨a, kvs, rfl, ha, k1, k2, k3⟩ := n
  obtain ⟨f0, nl, nh⟩ := I.free ha
  have I' := I.same sm
  let F2 : Fx := { F with l := F.l ++ [a] }
  have up : ∀ {k : Nat} {b : Addr}, F.l[k]? = some b → (F.l ++ [a])[k]? = some b := fun {k b} e => by
    rw [List.getElem?_append_left (List.getElem?_eq_some_iff.mp e).1]; exact e
  have gl : st.g.length = F.l.length := I'.glen
  have dn : ∀ {k : Nat} {b : Addr}, (F.l ++ [a])[k]? = some b → (k < F.l.length ∧ F.l[k]? = some b) ∨ (k = F.l.length ∧ b = a) := fun {k b} e => by
    by_cases w : k < F.l.length
    · rw [List.getElem?_append_left w] at e; exact .inl ⟨w, e⟩
    · rw [List.getElem?_append_right (by omega)] at e
      have : k - F.l.length < 1 := by
        have := (List.getElem?_eq_some_iff.mp e).1
        simpa using this
      have e0 : k - F.l.length = 0 := by omega
      rw [e0] at e
      exact .inr ⟨by omega, by simpa using e.symm⟩
  have gr : GRep H' (ks.zip ds) a := by
    refine ⟨kvs, k1, ?_, ?_⟩
    · rw [k2, List.map_fst_zip (by omega)]
    · rw [List.map_snd_zip (by omega)]; exact k3
  have go : SI F2 σ ⟨st.r, st.g ++ [ks.zip ds]⟩ H' := by
    refine ⟨fun j y hy => ?_, I'.one, fun j y b h1 h2 => ?_, fun b o h1 h2 => I'.keep b o h1 (fun w => h2 (List.mem_append_left _ w)), ?_, fun j kd' b h1 h2 => ?_, fun j l b h1 h2 => ?_, I'.hid, fun q hq => ⟨(I'.hfr q hq).1, fun w => ?_⟩⟩
    · obtain ⟨v, h1, h2⟩ := I'.slot j y hy
      refine ⟨v, h1, ?_⟩
      cases y with
      | none => trivial
      | val d => exact h2
      | own ds => exact h2
      | glb k => obtain ⟨b, e1, e2⟩ := h2; exact ⟨b, e1, up e2⟩
    · obtain ⟨g1, g2, g3⟩ := I'.fresh j y b h1 h2
      refine ⟨g1, fun w => ?_, g3⟩
      rcases List.mem_append.mp w with w | w
      · exact g2 w
      · have w : b = a := by simpa using w
        subst w
        obtain ⟨c, us, e1, e2, _⟩ := I.own h1
        rw [h2] at e1
        cases e1
        rw [ha] at e2; cases e2
    · show (st.g ++ [ks.zip ds]).length = (F.l ++ [a]).length
      simp [gl]
    · have h1 : (st.g ++ [ks.zip ds])[j]? = some kd' := h1
      rcases dn h2 with ⟨w, e⟩ | ⟨w, rfl⟩
      · rw [List.getElem?_append_left (by omega)] at h1
        exact I'.glob j kd' b h1 e
      · rw [List.getElem?_append_right (by omega), w, gl] at h1
        simp at h1
        rw [← h1]; exact gr
    · rcases dn h1 with ⟨w, e⟩ | ⟨w, rfl⟩
      · rcases dn h2 with ⟨w2, e2⟩ | ⟨w2, rfl⟩
        · exact I'.gone j l b e e2
        · exact absurd (List.mem_of_getElem? e) nl
      · rcases dn h2 with ⟨w2, e2⟩ | ⟨w2, _⟩
        · exact absurd (List.mem_of_getElem? e2) nl
        · omega
    · rcases List.mem_append.mp w with w | w
      · exact (I'.hfr q hq).2 w
      · exact nh q hq (by simpa using w)
  have grown : Grown F F2 := ⟨rfl, rfl, [a], rfl, fun b hb => by rw [show b = a by simpa using hb]; exact f0⟩
  refine ⟨F2, grown, go.put (x := .glb st.g.length) hi ⟨a, rfl, ?_⟩ (fun z q => by cases q)⟩
  show (F.l ++ [a])[st.g.length]? = some a
  rw [gl]; simp
/-- x = {k: v for ..} with a plain local x on the same line -/
theorem ps_setDc {i : Nat} {y : Str} {py : Pos} {kx vx tg iter : Expr} {ifs : List Expr} {scope : Scope} {own : List (Str × Nat)} {pos spos : Pos} {wi : TI} {g : TG} {tt : TT} {tk tv : TE} (hc : X.calm = true) (hN : X.N.Nodup) (hy : X.N[i]? = some y) (hyl : X.env.scope.names.lookup y = some .local)
    (hsw : swapsWith (.DictComp kx vx [⟨tg, iter, ifs, 0⟩] scope pos) (some (.Name y py)) spos.line X.env = pure true) (hi : PI X tg iter wi) (ok : BlkOk X.N X.env.scope scope own)
    (hg : ∀ (s : Shared) (H : Hp) (C : Addr) (cl : List (Str × Addr)) (fp : List Addr), PG (X.blk s H scope (compEnvC scope cl C X.env) fp) tg g) (ht : ∀ (s : Shared) (H : Hp) (C : Addr) (cl : List (Str × Addr)) (fp : List Addr), PTs (X.blk s H scope (compEnvC scope cl C X.env) fp) ifs tt)
    (hk : ∀ (s : Shared) (H : Hp) (C : Addr) (cl : List (Str × Addr)) (fp : List Addr), PE (X.blk s H scope (compEnvC scope cl C X.env) fp) kx tk)
    (he : ∀ (s : Shared) (H : Hp) (C : Addr) (cl : List (Str × Addr)) (fp : List Addr), PE (X.blk s H scope (compEnvC scope cl C X.env) fp) vx tv) (hs : ∀ x, foldedSetIterable iter X.env x = pure x) :
    PS X (.Assign [.Name y py] (.DictComp kx vx [⟨tg, iter, ifs, 0⟩] scope pos) spos) (tAsg (tDc wi g tt tk tv (own.map (·.2))) (gName i)) := by
  refine ⟨fun pins s σ H D I h => ?_⟩
  rw [exec_Assign_Name_used _ _ _ _ hsw]
  refine wpAny_bind (wpAny_standAt (wpAny_bind ?_))
  show wpAny _ X.A (do let _ ← comprehension (.DictComp kx vx [⟨tg, iter, ifs, 0⟩] scope pos) scope X.env (firstIterPos [⟨tg, iter, ifs, 0⟩] pos) newDict false (eval iter X.env) (some (assign (.Name y py) X.env))) _ _ s
  have h : tDc wi g tt tk tv (own.map (·.2)) σ H (fun x H1 => gName i x σ H1 D.nx) := h
  refine wpAny_bind (thn (dc_core (Qf := fun _ s' => SP X pins D .next s') hc hN I hi ok hg ht hk he hs h fun L C s' m H' I' q hn f => ?_) fun _ s' hq => wpAny_pure (wpAny_pure hq))
  show wpAny _ _ (assign (.Name y py) X.env (.ref L)) _ _ _
  refine wpAny_assign_Name (store_ok2 (v := V.ref L) I' hN hy (.inl hyl) rfl (fun s2 I2 ⟨a, sb, ha⟩ => ?_) (.inr hyl))
  obtain ⟨f0, f1, f2, f3, f4, f5⟩ := f
  have haC : C ≠ a := by
    rcases ha with z | z
    · rw [z]; exact f1
    · exact fun e => f4 y a z e.symm
  refine ⟨m, hn.sameBut sb haC, fun h3 sb3 => ?_⟩
  exact ⟨_, H', I2.turned (t' := s2.toks) (fun b o hb e => (sb3.2 b hb).trans e) f0 f1 f3 f4 f5, q⟩
theorem sw_trueD {kx vx : Expr} {gs : List Comprehension} {scope : Scope} {pos py : Pos} {y : Str} {l : Nat} {env : Env} (hk : env.scope.kind = .function) (hy : env.scope.names.lookup y = some .local) (hl : (py.line == pos.line) = true)
    (ha : (scope.names.any fun (n, k) => n == y && (k == .local || k == .cell)) = false) : swapsWith (.DictComp kx vx gs scope pos) (some (.Name y py)) l env = pure true := by
  have ky : env.kindOf y = some .local := hy
  have hb : env.blockKind = .function := by unfold Env.blockKind; rw [hk]; rfl
  unfold swapsWith
  simp only [hb, ky, ha, Expr.pos, hl]
  rfl
theorem sw_cellD {kx vx : Expr} {gs : List Comprehension} {scope : Scope} {pos py : Pos} {y : Str} {l : Nat} {env : Env} (hy : env.scope.names.lookup y = some .cell) : swapsWith (.DictComp kx vx gs scope pos) (some (.Name y py)) l env = pure false := by
  have ky : env.kindOf y = some .cell := hy
  unfold swapsWith
  simp only [ky]
  have : (some NameKind.cell == some NameKind.local) = false := rfl
  simp only [this, Bool.and_false, Bool.false_and]
theorem sw_cellL {kx : Expr} {gs : List Comprehension} {scope : Scope} {pos py : Pos} {y : Str} {l : Nat} {env : Env} (hy : env.scope.names.lookup y = some .cell) : swapsWith (.ListComp kx gs scope pos) (some (.Name y py)) l env = pure false := by
  have ky : env.kindOf y = some .cell := hy
  unfold swapsWith
  simp only [ky]
  have : (some NameKind.cell == some NameKind.local) = false := rfl
  simp only [this, Bool.and_false, Bool.false_and]
theorem gnewGo {i : Nat} {σ : L2.St} {H : Hp} {Dd : Ends} (h : denS T XR W (.gnew i m) Dd σ H) : denN T XR W m σ H fun v H1 => Dd.nx (σ.set i (some v)) H1 := by
  obtain ⟨F, st, I, h⟩ := h
  simp only [run] at h
  refine ⟨F, st, I, PostS.onE h fun d s H1 _ p I1 q v H' sm n => ?_⟩
  cases d <;> simp only at q <;> try (exact q.elim)
  split at q
  · rename_i hz
    obtain ⟨F', gw, J⟩ := I1.gadd sm hz.1 hz.2 n
    exact q F' _ H' gw (Pers.of_same sm) J
  · exact q.elim
theorem r_gnew {i : Nat} {x : Str} {p1 : Pos} (nd : X.N.Nodup) (hi : X.N[i]? = some x) (hx : Loc X.env.scope x) (fn : X.fn x = true) (he : PE X e (denN T XR W m)) (hs : swapsWith e (some (.Name x p1)) pos.line X.env = pure false) : PS X (.Assign [.Name x p1] e pos) (denS T XR W (.gnew i m)) :=
  psOf (ps_set nd hi hx he hs (.inl fn)) fun σ H Dd h => gnewGo h
theorem r_gput {i : Nat} {x : Str} {k : E} {p1 p2 : Pos} {ek : Expr} (hN : X.N[i]? = some x) (hv : Vis X.env.scope x) (hd : (x == ("__debug__" : Str)) = false) (hcd : (x == ("__classdict__" : Str)) = false) (hu : X.A.units + 1 < cLine)
    (hk : PE X ek (den T XR W k)) (he : PE X e (den T XR W m)) (hs : noComp e = true) : PS X (.Assign [.Subscript (.Name x p1) ek p2] e pos) (denS T XR W (.gput i k m)) := by
  refine psOf (ps_dput hu (pe_var hN hv hd hcd) hk he (sw_none hs)) fun σ H Dd ⟨F, st, I, h⟩ => ?_
  simp only [run] at h
  refine ⟨F, st, I, PostS.onE h fun d s H1 _ p I1 q v rv => ?_⟩
  split at q
  rotate_left
  · exact q.elim
  rename_i j ej
  obtain ⟨y, g1, b, rfl, g3⟩ := I1.slot i _ ej
  refine ⟨.ref b, g1, F, s, I1, PostS.onE q fun kk s2 H2 _ p2 I2 q2 kv rk => ?_⟩
  split at q2
  rotate_left
  · exact q2.elim
  rename_i kd ekd
  split at q2
  rotate_left
  · exact q2.elim
  rename_i key ekey
  split at q2
  rotate_left
  · exact q2.elim
  rename_i hl
  obtain rfl := key_rd ekey (Rd.of rk)
  obtain ⟨kvs, z1, z2, z3⟩ := I2.glob j kd b ekd g3
  refine ⟨b, _, rfl, DPut.k z1 ?_, q2 F σ _ (Grown.refl F) (pers_upd z1 trivial) (I2.gput ekd g3 z1 z2 z3 (Rep.pers p2 _ _ rv))⟩
  have := congrArg List.length z2
  rw [List.length_map, List.length_map] at this
  rw [sz_big, this]
  exact hl
def augO : P → Operator
  | .sub => .Sub
  | _ => .Add
theorem r_gaug {i : Nat} {x : Str} {k : E} {q : P} {p1 p2 : Pos} {ek : Expr} (hN : X.N[i]? = some x) (hv : Vis X.env.scope x) (hd : (x == ("__debug__" : Str)) = false) (hcd : (x == ("__classdict__" : Str)) = false) (hu : X.A.units + 1 < cLine)
    (hk : PE X ek (den T XR W k)) (he : PE X e (den T XR W m)) (hpl : ∀ ov iv new, augStore ek ov iv new = (do holding [new, ov, iv] (setItem ov iv new); release [new, ov, iv] []; pure .next)) : PS X (.AugAssign (.Subscript (.Name x p1) ek p2) (augO q) e pos) (denS T XR W (.gaug i k q m)) := by
  have gen : ∀ {rd : V → V → Hp → VK → Prop}, InOp X (augO q) rd → (∀ i j z H Q, augI q i j = some z → Q (.int z) H → rd (.int i) (.int j) H Q) → PS X (.AugAssign (.Subscript (.Name x p1) ek p2) (augO q) e pos) (denS T XR W (.gaug i k q m)) := by
    intro rd hop hrd
    refine psOf (ps_daug hu (pe_var hN hv hd hcd) hk he hop hpl) fun σ H Dd ⟨F, st, I, h⟩ => ?_
    simp only [run] at h
    split at h
    rotate_left
    · exact h.elim
    rename_i j ej
    obtain ⟨y, g1, b, rfl, g3⟩ := I.slot i _ ej
    refine ⟨.ref b, g1, F, st, I, PostS.onE h fun kk s H1 _ p I1 q1 kv rk => ?_⟩
    split at q1
    rotate_left
    · exact q1.elim
    rename_i kd ekd
    split at q1
    rotate_left
    · exact q1.elim
    rename_i key ekey
    obtain rfl := key_rd ekey (Rd.of rk)
    split at q1
    rotate_left
    · exact q1.elim
    rename_i a ea
    obtain ⟨kvs, z1, z2, z3⟩ := I1.glob j kd b ekd g3
    obtain ⟨w, t1, t2⟩ := getK_run z2 z3 ea
    obtain rfl : w = _ := t2
    refine ⟨b, .int a, rfl, by rw [← t1]; exact DGet.k z1, F, s, I1, PostS.onE q1 fun d s2 H2 _ p2 I2 q2 v2 rv2 => ?_⟩
    split at q2
    rotate_left
    · exact q2.elim
    rename_i c
    obtain rfl : v2 = _ := rv2
    split at q2
    rotate_left
    · exact q2.elim
    rename_i kd2 ekd2
    split at q2
    rotate_left
    · exact q2.elim
    rename_i z ez
    split at q2
    rotate_left
    · exact q2.elim
    rename_i hl
    refine hrd _ _ z _ _ ez ?_
    obtain ⟨kvs2, y1, y2, y3⟩ := I2.glob j kd2 b ekd2 g3
    refine ⟨_, DPut.k y1 ?_, q2 F σ _ (Grown.refl F) (pers_upd y1 trivial) (I2.gput ekd2 g3 y1 y2 y3 rfl)⟩
    have := congrArg List.length y2
    rw [List.length_map, List.length_map] at this
    rw [sz_big, this]
    exact hl
  cases q with
  | add => exact gen in_add fun i j z H Q e k => by cases e; exact ⟨i, j, rfl, rfl, k⟩
  | sub => exact gen in_sub fun i j z H Q e k => by cases e; exact ⟨i, j, rfl, rfl, k⟩
  | _ => exact gen (rd := fun _ _ _ _ => False) (fun _ _ _ _ _ _ _ _ _ _ _ _ h => h.elim) fun i j z H Q e k => by cases e
theorem augPlain {e : Expr} (h : plainE e = true) : ∀ ov iv new, augStore e ov iv new = (do holding [new, ov, iv] (setItem ov iv new); release [new, ov, iv] []; pure .next) := by
  intro ov iv new
  cases e <;> first | rfl | (simp [plainE] at h)
/-! ### while -/
theorem r_while {c : E} {b : List S} {n : Nat} {ec : Expr} {body : List Stmt} (hp : PassesOwn (model X.prog X.w) X.A X.env X.xe) (hc : PT X ec (denT T XR W c)) (hb : PSs X body (denSs T XR W b)) : PS X (.While ec body [] pos) (denS T XR W (.whileS n c b)) := by
  refine psOf (ps_while hp hc hb) fun σ H Dd ⟨F, st, I, h⟩ => ?_
  simp only [run] at h
  let Wv : Nat → L2.St → Hp → Prop := fun mm σ' H' => Pers H H' ∧ ∃ F' st', Grown F F' ∧ SI F' σ' st' H' ∧ PostS XR W F' H' (whileL (evt T [c]) (runs T b) mm st') Dd
  refine ⟨Wv, ⟨n, Pers.refl _, F, st, Grown.refl F, I, h⟩, ?_⟩
  rintro mm σ' H' ⟨pc, F', st', g', I', q⟩
  cases mm with
  | zero => simp only [whileL] at q; exact q.elim
  | succ k =>
    simp only [whileL] at q
    refine ⟨F', st', I', ?_⟩
    have q : PostS XR W F' H' (Rf.onE ((ev T c st').bind fun d s1 => match truth d with
        | some true => evt T [] s1
        | some false => .ok false s1
        | none => .bad) fun t s => if t then (match runs T b s with
        | .nx s2 => whileL (evt T [c]) (runs T b) k s2
        | .ct s2 => whileL (evt T [c]) (runs T b) k s2
        | .bk s2 => .nx s2
        | r => r) else .nx s) Dd := by
      have e : evt T [c] st' = (ev T c st').bind fun d s1 => match truth d with
        | some true => evt T [] s1
        | some false => .ok false s1
        | none => .bad := by first | (rw [evt]; done) | (rw [evt]; rfl)
      rw [e] at q
      exact q
    cases ec1 : ev T c st' with
    | bad => rw [ec1] at q; exact q.elim
    | exc c1 fs s1 =>
      rw [ec1] at q
      exact fun cls dd H1 pe J x => q F' cls dd σ' H1 (Grown.refl F') pe J x
    | ok d s1 =>
      rw [ec1] at q
      intro H1 p1 I1
      simp only [Res.bind] at q
      split at q
      · rename_i et
        refine ⟨true, et, ?_⟩
        dsimp only
        rw [if_pos rfl]
        simp only [evt, Rf.onE, if_true] at q
        have q := PostS.weak (Grown.refl F') p1 q
        have again : ∀ {s2 : Sx}, PostS XR W F' H1 (whileL (evt T [c]) (runs T b) k s2) Dd → ∀ F'' σ3 H4, Grown F' F'' → Pers H1 H4 → SI F'' σ3 s2 H4 → ∃ m', m' < k + 1 ∧ Wv m' σ3 H4 := by
          intro s2 q2 F'' σ3 H4 g4 p4 I4
          exact ⟨k, by omega, pc.trans (p1.trans p4), F'', s2, g'.trans g4, I4, PostS.weak g4 p4 q2⟩
        refine ⟨fun σ2 H2 => ∃ m', m' < k + 1 ∧ Wv m' σ2 H2, fun σ2 H2 z => z, F', s1, I1, ?_⟩
        cases er : runs T b s1 with
        | nx s2 => rw [er] at q; exact again q
        | ct s2 => rw [er] at q; exact again q
        | bk s2 => rw [er] at q; exact q
        | ret d s2 => rw [er] at q; exact q
        | retG kd s2 => rw [er] at q; exact q
        | exc c fs s2 => rw [er] at q; exact q
        | bad => rw [er] at q; exact q
      · rename_i et
        refine ⟨false, et, ?_⟩
        dsimp only
        rw [if_neg (by decide)]
        simp only [Rf.onE] at q
        exact q F' σ' H1 (Grown.refl F') p1 I1
      · exact q.elim
end
end Rf

set_option Elab.async false
set_option linter.all false
set_option maxRecDepth 100000
set_option maxHeartbeats 8000000
namespace Rf
open PySem PySem.Spec PyProof.Rows L2

/-! ### statements: the checker -/
def bkOf (sc : Scope) : ScopeKind := if sc.kind.isAnnotationScope then .function else sc.kind
def isTup : Expr → Bool
  | .Tuple .. => true
  | _ => false
/-- the stores of a, b = .. come in order -/
def inOrder (sc : Scope) (ts : List Expr) : Expr → Bool
  | .Tuple vs _ _ => match swapP ts vs (bkOf sc) (fun x => sc.names.lookup x) with
    | some none => true
    | _ => false
  | _ => true
def fnSc (sc : Scope) : Bool := decide (sc.kind = .function)
/-- a comprehension that goes into a local on its own line -/
def ownComp (sc : Scope) (x : Str) (p : Pos) : Expr → Bool
  | .ListComp _ _ scope pos => fnSc sc && decide (sc.names.lookup x = some .local) && (p.line == pos.line) && !(scope.names.any fun (n, k) => n == x && (k == .local || k == .cell))
  | _ => false
def ownDict (sc : Scope) (x : Str) (p : Pos) : Expr → Bool
  | .DictComp _ _ _ scope pos => fnSc sc && decide (sc.names.lookup x = some .local) && (p.line == pos.line) && !(scope.names.any fun (n, k) => n == x && (k == .local || k == .cell))
  | _ => false
/-- a comprehension that goes into a cell -/
def cellB (sc : Scope) (x : Str) : Expr → Bool
  | .ListComp .. => decide (sc.names.lookup x = some .cell)
  | .DictComp .. => decide (sc.names.lookup x = some .cell)
  | _ => false
mutual
def chkS (C : Cfg) (N : List Str) : Scope → S → Stmt → Bool
  | sc, .set p m, s => match s with
    | .Assign [t] e _ => chkPat N (okDef sc) p t && noComp e && chk C N sc m e && (match p, t with
      | .nm _, .Name _ _ => true
      | .tp _, .Tuple ts _ _ => inOrder sc ts e
      | _, _ => false)
    | _ => false
  | sc, .setOwn i m, s => match s with
    | .Assign [.Name x p1] e pos => decide (N[i]? = some x) && okDef sc x && fresh m && chk C N sc m e && (noComp e || cellB sc x e || ownComp sc x p1 e)
    | _ => false
  | sc, .par i j oi oj a b, s => match s with
    | .Assign [.Tuple [.Name x px, .Name y py] _ _] (.Tuple [ea, eb] _ _) _ => decide (N[i]? = some x) && decide (N[j]? = some y) && decide (i ≠ j) && okDef sc x && okDef sc y &&
      plainE ea && plainE eb && (!oi || fresh a) && (!oj || fresh b) && chk C N sc a ea && chk C N sc b eb && (match swapP [.Name x px, .Name y py] [ea, eb] (bkOf sc) (fun x => sc.names.lookup x) with
        | some (some ns) => decide (ns = [x, y]) && decide (sc.names.lookup x = some .local) && decide (sc.names.lookup y = some .local)
        | some none => true
        | _ => false)
    | _ => false
  | sc, .gset i k m, s => match s with
    | .Assign [.Subscript v ek _] e _ => chkName N sc i v && keyE k ek && noComp e && chk C N sc m e
    | _ => false
  | sc, .drop m, s => match s with
    | .Expr e _ => noComp e && chk C N sc m e
    | _ => false
  | sc, .ret m, s => match s with
    | .Return (some e) _ => chk C N sc m e
    | _ => false
  | _, .retN, s => match s with
    | .Return none _ => true
    | _ => false
  | sc, .ifS c a b, s => match s with
    | .If ec ba bb _ => chk C N sc c ec && chkSs C N sc a ba && chkSs C N sc b bb
    | _ => false
  | sc, .forS p it src b, s => match s with
    | .For tg iter body [] _ => chkPat N (okDef sc) p tg && chki C N sc it src iter && itTg it tg && chkSs C N sc b body
    | _ => false
  | sc, .matchS m cs, s => match s with
    | .Match e cases _ => chk C N sc m e && chkCs C N sc cs cases
    | _ => false
  | sc, .aug i p m, s => match s with
    | .AugAssign (.Name x _) op e _ => decide (N[i]? = some x) && okDef sc x && chk C N sc m e && (match p, op with
      | .add, .Add => true
      | .sub, .Sub => true
      | _, _ => false)
    | _ => false
  | sc, .retDic ks es, s => match s with
    | .Return (some (.Dict keys values _)) _ => !keys.isEmpty && decide (keys.length ≤ 15) && decide (ks.length = es.length) && (es.all fun a => a.isOwn.isNone) && keysB ks keys && chks C N sc es values
    | _ => false
  | sc, .gcall i k es, s => match s with
    | .Assign [.Name x _] (.Call (.Name f _) args kws _) _ => decide (N[i]? = some x) && okDef sc x && callB C sc k f args kws && chkc C N sc es (args ++ kws.map (·.value))
    | _ => false
  | _, .brk, s => match s with
    | .Break _ => true
    | _ => false
  | _, .cont, s => match s with
    | .Continue _ => true
    | _ => false
  | _, .pass, s => match s with
    | .Pass _ => true
    | _ => false
  | _, .stuck, _ => true
  | sc, .gnew i m, s => match s with
    | .Assign [.Name x p1] e pos => decide (N[i]? = some x) && okDef sc x && fresh m && chk C N sc m e && (noComp e || cellB sc x e || ownDict sc x p1 e)
    | _ => false
  | sc, .gput i k m, s => match s with
    | .Assign [.Subscript v ek _] e _ => chkName N sc i v && chk C N sc k ek && noComp e && chk C N sc m e
    | _ => false
  | sc, .gaug i k q m, s => match s with
    | .AugAssign (.Subscript v ek _) op e _ => chkName N sc i v && chk C N sc k ek && plainE ek && decide (op = augO q) && chk C N sc m e
    | _ => false
  | sc, .whileS _ c b, s => match s with
    | .While ec body [] _ => chk C N sc c ec && chkSs C N sc b body
    | _ => false
  | _, _, _ => false
def chkSs (C : Cfg) (N : List Str) : Scope → List S → List Stmt → Bool
  | _, [], [] => true
  | sc, .freeze _ :: ss, sts => chkSs C N sc ss sts
  | sc, s :: ss, st :: sts => chkS C N sc s st && chkSs C N sc ss sts
  | _, _, _ => false
def chkCs (C : Cfg) (N : List Str) : Scope → List S → List MatchCase → Bool
  | _, [], [] => true
  | sc, .caseK k b :: cs, ⟨.MatchValue (.Constant (.str y) _ _) _, none, body⟩ :: rest => decide (y.cps.toList = k) && decide (k.length ≤ big) && chkSs C N sc b body && chkCs C N sc cs rest
  | sc, .caseD b :: cs, ⟨.MatchAs none none _, none, body⟩ :: rest => cs.isEmpty && chkSs C N sc b body
  | _, _, _ => false
end

structure CokS (T : Tbl) (XR : Hp → Nat → List D → Value → Option Addr → Prop) (C : Cfg) (N : List Str) (sc : Scope) (W : WX) (X : Cx) : Prop where
  ok : Cok T XR C N sc W X
  own : PassesOwn (model X.prog X.w) X.A X.env X.xe
  fn : ∀ x, X.fn x = true
  kind : sc.kind = .function
section
variable {X : Cx} {T : Tbl} {XR : Hp → Nat → List D → Value → Option Addr → Prop} {W : WX} {C : Cfg} {N : List Str} {sc : Scope}
theorem bk_eq (c : X.env.scope = sc) : X.env.blockKind = bkOf sc := by rw [← c]; rfl
theorem loc_of {x : Str} (c : X.env.scope = sc) (h : okDef sc x = true) : Loc X.env.scope x := by
  rw [c]
  unfold okDef at h
  split at h
  · rename_i e; exact .inl e
  · rename_i e; exact .inr e
  · cases h
theorem in_order {ps : List Pat} {ts : List Expr} {e : Expr} {k : Nat} {p1 : Pos} (c : X.env.scope = sc) (h : inOrder sc ts e = true) : swappedStores [.Tuple ts k p1] e X.env = pure none := by
  unfold inOrder at h
  split at h
  · rename_i vs k2 p2
    split at h
    · rename_i z
      refine sw_of ?_
      rw [bk_eq c, ← z]
      subst c
      rfl
    · cases h
  · rename_i hn
    cases e <;> first | rfl | exact absurd rfl (hn _ _ _)
theorem snd (c : Cok T XR C N sc W X) {m : E} {e : Expr} (h : chk C N sc m e = true) : Snd T XR W X m e := sound _ m (Nat.lt_succ_self _) sc W X e c h
theorem sw_cell {x : Str} {p1 : Pos} {l : Nat} {e : Expr} (c : X.env.scope = sc) (h : cellB sc x e = true) : swapsWith e (some (.Name x p1)) l X.env = pure false := by
  unfold cellB at h
  split at h
  · simp only [decide_eq_true_eq] at h; exact sw_cellL (by rw [c]; exact h)
  · simp only [decide_eq_true_eq] at h; exact sw_cellD (by rw [c]; exact h)
  · cases h
theorem r_newD (c : CokS T XR C N sc W X) {i : Nat} {x : Str} {p1 pos : Pos} {m : E} {e : Expr} (hi : N[i]? = some x) (hd : okDef sc x = true) (hf : fresh m = true) (h : chk C N sc m e = true) (hs : (noComp e || cellB sc x e || ownDict sc x p1 e) = true) : PS X (.Assign [.Name x p1] e pos) (denS T XR W (.gnew i m)) := by
  have hi' : X.N[i]? = some x := by rw [c.ok.n]; exact hi
  rcases Bool.or_eq_true _ _ |>.mp hs with hs | hs
  · rcases Bool.or_eq_true _ _ |>.mp hs with hs | hs
    · exact r_gnew c.ok.nd hi' (loc_of c.ok.sc hd) (c.fn x) ((snd c.ok h).pn hf) (sw_none hs)
    · exact r_gnew c.ok.nd hi' (loc_of c.ok.sc hd) (c.fn x) ((snd c.ok h).pn hf) (sw_cell c.ok.sc hs)
  · unfold ownDict at hs
    split at hs
    rotate_left
    · cases hs
    rename_i ek ew gs scope pos2 _
    simp only [Bool.and_eq_true, decide_eq_true_eq, Bool.not_eq_true'] at hs
    obtain ⟨⟨⟨k1, k2⟩, k3⟩, k4⟩ := hs
    have k1 : sc.kind = .function := by simpa [fnSc] using k1
    cases m with
    | dcomp k v pt it src cs ws =>
      simp only [chk] at h
      split at h
      · rename_i ek2 ew2 tg iter ifs scope2 pos3 heq
        cases heq
        simp only [Bool.and_eq_true, decide_eq_true_eq, List.all_eq_true] at h
        obtain ⟨⟨⟨⟨⟨⟨⟨⟨h1, h2⟩, h3⟩, h4⟩, h5⟩, h6⟩, h6'⟩, h7⟩, h8⟩ := h
        have c' := c.ok
        have bo : BlkOk X.N X.env.scope scope (ownOf N ws) := by
          have := blkOk_by h3
          rw [c'.n, c'.sc]
          exact this
        have wo : (ownOf N ws).map (·.2) = ws := by
          unfold ownOf
          rw [List.map_map]
          exact List.map_id' _
        have pg : ∀ (s : Shared) (H : Hp) (Cc : Addr) (cl : List (Str × Addr)) (fp : List Addr), PG (X.blk s H scope (compEnvC scope cl Cc X.env) fp) tg (patG X.K pt) := fun s H Cc cl fp =>
          pat_pg (X := X.blk s H scope (compEnvC scope cl Cc X.env) fp) (N := N) (ok := okDef scope) c'.n c'.nd c'.calm (fun x hx => by
            obtain ⟨q1, q2⟩ := relS_loc (N := N) (sc := X.env.scope) hx
            exact ⟨q1, q2⟩) pt tg h4
        refine psOf (ps_setDc (tt := tCs T XR W0 cs) (tk := den T XR W0 k) (tv := den T XR W0 v) (wi := iD T XR W it src) c'.calm c'.nd hi' (by rw [c'.sc]; exact k2) (sw_trueD (by rw [c'.sc]; exact k1) (by rw [c'.sc]; exact k2) k3 k4) (pi_of c' (fun a _ e he => snd c' he) h7 h8) bo pg
          (fun s H Cc cl fp => pts_of (c'.blk s H scope Cc cl fp) h1 (fun a _ e he => snd (c'.blk s H scope Cc cl fp) he) h5)
          (fun s H Cc cl fp => (snd (c'.blk s H scope Cc cl fp) h6).pe) (fun s H Cc cl fp => (snd (c'.blk s H scope Cc cl fp) h6').pe) (set_it h7)) fun σ H Dd w => ?_
        rw [wo]
        exact n_dcomp (F := ⟨[], H, []⟩) h1 (fun i hi => by simpa using h2 i hi) (gnewGo w)
      · cases h
    | _ => first | (simp [fresh] at hf; done) | (simp [chk] at h; done)
theorem r_own (c : CokS T XR C N sc W X) {i : Nat} {x : Str} {p1 pos : Pos} {m : E} {e : Expr} (hi : N[i]? = some x) (hd : okDef sc x = true) (hf : fresh m = true) (h : chk C N sc m e = true) (hs : (noComp e || cellB sc x e || ownComp sc x p1 e) = true) : PS X (.Assign [.Name x p1] e pos) (denS T XR W (.setOwn i m)) := by
  have hi' : X.N[i]? = some x := by rw [c.ok.n]; exact hi
  rcases Bool.or_eq_true _ _ |>.mp hs with hs | hs
  · rcases Bool.or_eq_true _ _ |>.mp hs with hs | hs
    · exact r_setOwn c.ok.nd hi' (loc_of c.ok.sc hd) (c.fn x) ((snd c.ok h).pn hf) (sw_none hs)
    · exact r_setOwn c.ok.nd hi' (loc_of c.ok.sc hd) (c.fn x) ((snd c.ok h).pn hf) (sw_cell c.ok.sc hs)
  · unfold ownComp at hs
    split at hs
    rotate_left
    · cases hs
    rename_i ee gs scope pos2 _
    simp only [Bool.and_eq_true, decide_eq_true_eq, Bool.not_eq_true'] at hs
    obtain ⟨⟨⟨k1, k2⟩, k3⟩, k4⟩ := hs
    have k1 : sc.kind = .function := by simpa [fnSc] using k1
    cases m with
    | comp elt pt it src cs ws =>
      simp only [chk] at h
      split at h
      · rename_i ee2 tg iter ifs scope2 pos3 heq
        cases heq
        simp only [Bool.and_eq_true, decide_eq_true_eq, List.all_eq_true] at h
        obtain ⟨⟨⟨⟨⟨⟨⟨h1, h2⟩, h3⟩, h4⟩, h5⟩, h6⟩, h7⟩, h8⟩ := h
        have c' := c.ok
        have bo : BlkOk X.N X.env.scope scope (ownOf N ws) := by
          have := blkOk_by h3
          rw [c'.n, c'.sc]
          exact this
        have wo : (ownOf N ws).map (·.2) = ws := by
          unfold ownOf
          rw [List.map_map]
          exact List.map_id' _
        have pg : ∀ (s : Shared) (H : Hp) (Cc : Addr) (cl : List (Str × Addr)) (fp : List Addr), PG (X.blk s H scope (compEnvC scope cl Cc X.env) fp) tg (patG X.K pt) := fun s H Cc cl fp =>
          pat_pg (X := X.blk s H scope (compEnvC scope cl Cc X.env) fp) (N := N) (ok := okDef scope) c'.n c'.nd c'.calm (fun x hx => by
            obtain ⟨q1, q2⟩ := relS_loc (N := N) (sc := X.env.scope) hx
            exact ⟨q1, q2⟩) pt tg h4
        refine psOf (ps_setLc (tt := tCs T XR W0 cs) (te := den T XR W0 elt) (wi := iD T XR W it src) c'.calm c'.nd hi' (by rw [c'.sc]; exact k2) (sw_true (by rw [c'.sc]; exact k1) (by rw [c'.sc]; exact k2) k3 k4) (pi_of c' (fun a _ e he => snd c' he) h7 h8) bo pg
          (fun s H Cc cl fp => pts_of (c'.blk s H scope Cc cl fp) h1 (fun a _ e he => snd (c'.blk s H scope Cc cl fp) he) h5)
          (fun s H Cc cl fp => (snd (c'.blk s H scope Cc cl fp) h6).pe) (set_it h7)) fun σ H Dd w => ?_
        rw [wo]
        exact n_comp (F := ⟨[], H, []⟩) h1 (fun i hi => by simpa using h2 i hi) (setOwnGo w)
      · cases h
    | comp2 elt p1' i1 s1 c1 p2' i2 s2 c2 ws ws2 =>
      simp only [chk] at h
      split at h
      · rename_i ee2 tg iter ifs tg2 iter2 ifs2 scope2 pos3 heq
        cases heq
        simp only [Bool.and_eq_true, decide_eq_true_eq, List.all_eq_true] at h
        obtain ⟨⟨⟨⟨⟨⟨⟨⟨⟨⟨⟨⟨⟨⟨h1, h2⟩, h3⟩, h4⟩, h5⟩, h6⟩, h7⟩, h8⟩, h9⟩, h10⟩, h11⟩, h12⟩, h13⟩, h14⟩, h15⟩ := h
        have c' := c.ok
        have bo : BlkOk X.N X.env.scope scope (ownOf N ws) := by
          have := blkOk_by h6
          rw [c'.n, c'.sc]
          exact this
        have wo : (ownOf N ws).map (·.2) = ws := by
          unfold ownOf
          rw [List.map_map]
          exact List.map_id' _
        have pg : ∀ (pt : Pat) (tg : Expr), chkPat N (okDef scope) pt tg = true → ∀ (s : Shared) (H : Hp) (Cc : Addr) (cl : List (Str × Addr)) (fp : List Addr), PG (X.blk s H scope (compEnvC scope cl Cc X.env) fp) tg (patG X.K pt) := fun pt tg h4 s H Cc cl fp =>
          pat_pg (X := X.blk s H scope (compEnvC scope cl Cc X.env) fp) (N := N) (ok := okDef scope) c'.n c'.nd c'.calm (fun x hx => by
            obtain ⟨q1, q2⟩ := relS_loc (N := N) (sc := X.env.scope) hx
            exact ⟨q1, q2⟩) pt tg h4
        refine psOf (ps_setLc2 (tt := tCs T XR W0 c1) (tt1 := tCs T XR W0 c2) (te := den T XR W0 elt) (wi := iD T XR W i1 s1) (wi1 := iD T XR W0 i2 s2) (vs1 := ws2) c'.calm c'.nd hi' (by rw [c'.sc]; exact k2) (sw_true (by rw [c'.sc]; exact k1) (by rw [c'.sc]; exact k2) k3 k4) (pi_of c' (fun a _ e he => snd c' he) h12 h14) bo (fun i hi => by rw [wo]; simpa using h5 i hi) (pg p1' tg h7)
          (fun s H Cc cl fp => pts_of (c'.blk s H scope Cc cl fp) h1 (fun a _ e he => snd (c'.blk s H scope Cc cl fp) he) h9)
          (fun s H Cc cl fp => pi_of (c'.blk s H scope Cc cl fp) (fun a _ e he => snd (c'.blk s H scope Cc cl fp) he) h13 h15)
          (pg p2' tg2 h8) (fun s H Cc cl fp => pts_of (c'.blk s H scope Cc cl fp) h2 (fun a _ e he => snd (c'.blk s H scope Cc cl fp) he) h10)
          (fun s H Cc cl fp => (snd (c'.blk s H scope Cc cl fp) h11).pe) (set_it h12) (fun env => set_it h13)) fun σ H Dd w => ?_
        rw [wo]
        exact n_comp2 (F := ⟨[], H, []⟩) h1 h2 (fun i hi => by simpa using h3 i hi) (fun i hi => by simpa using h4 i hi) (fun i hi => by simpa using h5 i hi) (setOwnGo w)
      · cases h
    | _ => first | (simp [fresh] at hf; done) | (simp [chk] at h; done)
theorem den_mon {m : E} {σ : L2.St} {H : Hp} {Q Q' : VK} (h : den T XR W m σ H Q) (k : ∀ v H, Q v H → Q' v H) : den T XR W m σ H Q' := by
  obtain ⟨F, st, I, h⟩ := h
  exact ⟨F, st, I, h.mono fun d s H1 _ _ _ q v rv => k v H1 (q v rv)⟩
theorem denN_mon {m : E} {σ : L2.St} {H : Hp} {Q Q' : VK} (h : denN T XR W m σ H Q) (k : ∀ v H, Q v H → Q' v H) : denN T XR W m σ H Q' := by
  obtain ⟨F, st, I, h⟩ := h
  exact ⟨F, st, I, h.mono fun d s H1 _ _ _ q v H' sm n => k v H' (q v H' sm n)⟩
theorem denB_mon {o : Bool} {m : E} {σ : L2.St} {H : Hp} {Q Q' : VK} (h : (if o then denN T XR W m else den T XR W m) σ H Q) (k : ∀ v H, Q v H → Q' v H) : (if o then denN T XR W m else den T XR W m) σ H Q' := by
  cases o with
  | false => rw [if_neg (by decide)] at h ⊢; exact den_mon h k
  | true => rw [if_pos rfl] at h ⊢; exact denN_mon h k
mutual
theorem soundS (c : CokS T XR C N sc W X) : ∀ (m : S) (e : Stmt), chkS C N sc m e = true → PS X e (denS T XR W m)
  | .set p m, s, h => by
    simp only [chkS] at h
    split at h
    · rename_i t e pos
      simp only [Bool.and_eq_true] at h
      obtain ⟨⟨⟨h1, h2⟩, h3⟩, h4⟩ := h
      have pe := (snd c.ok h3).pe
      split at h4
      · rename_i i x p1
        simp only [chkPat, Bool.and_eq_true, decide_eq_true_eq] at h1
        exact r_set c.ok.nd (by rw [c.ok.n]; exact h1.1) (loc_of c.ok.sc h1.2) (c.fn x) pe h2
      · rename_i ps ts k p1
        exact r_setP pe (pat_pg (N := N) (ok := okDef sc) c.ok.n c.ok.nd c.ok.calm (fun x hx => ⟨loc_of c.ok.sc hx, .inl (c.fn x)⟩) _ _ h1) h2 (in_order (ps := ps) c.ok.sc h4)
      · cases h4
    · cases h
  | .setOwn i m, s, h => by
    simp only [chkS] at h
    split at h
    · simp only [Bool.and_eq_true, decide_eq_true_eq] at h
      obtain ⟨⟨⟨⟨h1, h2⟩, h3⟩, h4⟩, h5⟩ := h
      exact r_own c h1 h2 h3 h4 h5
    · cases h
  | .par i j oi oj a b, s, h => by
    simp only [chkS] at h
    split at h
    · rename_i x px y py k1 p1 ea eb k2 p2 pos
      simp only [Bool.and_eq_true, decide_eq_true_eq, Bool.or_eq_true, Bool.not_eq_true'] at h
      obtain ⟨⟨⟨⟨⟨⟨⟨⟨⟨⟨⟨h1, h2⟩, h3⟩, h4⟩, h5⟩, h6⟩, h7⟩, h8⟩, h9⟩, h10⟩, h11⟩, h12⟩ := h
      have A := snd c.ok h10
      have B := snd c.ok h11
      have pa : PE X ea (if oi then denN T XR W a else den T XR W a) := by
        cases oi with
        | false => rw [if_neg (by decide)]; exact A.pe
        | true => rw [if_pos rfl]; exact A.pn (by simpa using h8)
      have pb : PE X eb (if oj then denN T XR W b else den T XR W b) := by
        cases oj with
        | false => rw [if_neg (by decide)]; exact B.pe
        | true => rw [if_pos rfl]; exact B.pn (by simpa using h9)
      have sws : ∀ {r : Option (List Str)}, swapP [.Name x px, .Name y py] [ea, eb] (bkOf sc) (fun x => sc.names.lookup x) = some r → swappedStores [.Tuple [.Name x px, .Name y py] k1 p1] (.Tuple [ea, eb] k2 p2) X.env = pure r := by
        intro r z
        refine sw_of ?_
        rw [bk_eq c.ok.sc, ← z]
        have := c.ok.sc
        subst this
        rfl
      split at h12
      · rename_i ns z
        simp only [Bool.and_eq_true, decide_eq_true_eq] at h12
        obtain ⟨⟨rfl, z4⟩, z5⟩ := h12
        refine psOf (ps_par c.ok.calm c.ok.nd (by rw [c.ok.n]; exact h1) (by rw [c.ok.n]; exact h2) h3 (by rw [c.ok.sc]; exact z4) (by rw [c.ok.sc]; exact z5) (pa_cons pa (pa_cons pb pa_nil (star_cons h7 _ _)) (star_cons h6 _ _)) (sws z)) fun σ H Dd ⟨F, st, I, w⟩ => ?_
        exact denB_mon (parGo I w) fun v H1 q => denB_mon q fun w H2 q => ⟨v, w, rfl, q _ (Same.refl _)⟩
      · rename_i z
        have g1 : PG X (.Name x px) (gName i) := pg_name c.ok.nd (by rw [c.ok.n]; exact h1) (loc_of c.ok.sc h4) (.inl (c.fn x))
        have g2 : PG X (.Name y py) (gName j) := pg_name c.ok.nd (by rw [c.ok.n]; exact h2) (loc_of c.ok.sc h5) (.inl (c.fn y))
        refine psOf (ps_asg (pe_tup (pa_cons pa (pa_cons pb pa_nil (star_cons h7 _ _)) (star_cons h6 _ _))) (pg_tup (n := 2) c.ok.calm (pgs_cons g1 (pgs_cons g2 pgs_nil (by rfl)) (by rfl)) (by rfl) (by rfl)) (by rfl) (sws z) rfl) fun σ H Dd ⟨F, st, I, w⟩ => ?_
        refine denB_mon (parGo I w) fun v H1 q => denB_mon q fun w H2 q => ⟨(by show 2 ≤ sizeLine; decide), fun p hp => ?_⟩
        exact ⟨p, [v, w], rfl, SqT.of upd_same, rfl, v, [w], rfl, w, [], rfl, rfl, q _ (same_upd hp)⟩
      · cases h12
    · cases h
  | .gset i k m, s, h => by
    simp only [chkS] at h
    split at h
    · simp only [Bool.and_eq_true] at h
      obtain ⟨⟨⟨h1, h2⟩, h3⟩, h4⟩ := h
      obtain ⟨x, pos, rfl, g1, g2, g3, g4⟩ := name_pe c.ok h1
      exact r_gset g1 g2 g3 g4 (by have := c.ok.un; omega) (key_pe (X := X) h2).1 (snd c.ok h4).pe h3
    · cases h
  | .drop m, s, h => by
    simp only [chkS] at h
    split at h
    · simp only [Bool.and_eq_true] at h
      exact r_drop (snd c.ok h.2).pe h.1
    · cases h
  | .ret m, s, h => by
    simp only [chkS] at h
    split at h
    · exact r_ret (snd c.ok h).pe
    · cases h
  | .retN, s, h => by
    simp only [chkS] at h
    split at h
    · exact r_retN
    · cases h
  | .ifS a b1 b2, s, h => by
    simp only [chkS] at h
    split at h
    · simp only [Bool.and_eq_true] at h
      exact r_if (snd c.ok h.1.1).pt (soundSs c b1 _ h.1.2) (soundSs c b2 _ h.2)
    · cases h
  | .forS p it src b, s, h => by
    simp only [chkS] at h
    split at h
    · simp only [Bool.and_eq_true] at h
      exact r_for c.own c.ok.calm (pi_of c.ok (fun a _ e he => snd c.ok he) h.1.1.2 h.1.2) (pat_pg (N := N) (ok := okDef sc) c.ok.n c.ok.nd c.ok.calm (fun x hx => ⟨loc_of c.ok.sc hx, .inl (c.fn x)⟩) _ _ h.1.1.1) (soundSs c b _ h.2) (set_it h.1.1.2)
    · cases h
  | .matchS m cs, s, h => by
    simp only [chkS] at h
    split at h
    · simp only [Bool.and_eq_true] at h
      exact r_match (snd c.ok h.1).pe (soundC c cs _ h.2)
    · cases h
  | .aug i p m, s, h => by
    simp only [chkS] at h
    split at h
    · simp only [Bool.and_eq_true, decide_eq_true_eq] at h
      obtain ⟨⟨⟨h1, h2⟩, h3⟩, h4⟩ := h
      split at h4
      · exact r_aug_add c.ok.nd (by rw [c.ok.n]; exact h1) (loc_of c.ok.sc h2) (c.fn _) (snd c.ok h3).pe
      · exact r_aug_sub c.ok.nd (by rw [c.ok.n]; exact h1) (loc_of c.ok.sc h2) (c.fn _) (snd c.ok h3).pe
      · cases h4
    · cases h
  | .retDic ks es, s, h => by
    simp only [chkS] at h
    split at h
    · simp only [Bool.and_eq_true, decide_eq_true_eq, Bool.not_eq_true'] at h
      obtain ⟨⟨⟨⟨⟨h1, h2⟩, h3⟩, h4⟩, h5⟩, h6⟩ := h
      obtain ⟨q1, q2, q3⟩ := keys_pps (ks := ks) h5 h3 (all2_of c.ok (fun a _ e he => snd c.ok he) h6)
      exact r_retDic q1 q2 q3 (fun z => by rw [z] at h1; cases h1) h2 h3 h4
    · cases h
  | .gcall i k es, s, h => by
    simp only [chkS] at h
    split at h
    · rename_i x p1 f pp args kws p2 p3
      rw [Bool.and_eq_true, Bool.and_eq_true, Bool.and_eq_true] at h
      obtain ⟨⟨⟨h1, h2⟩, h3⟩, h4⟩ := h
      simp only [decide_eq_true_eq] at h1
      obtain ⟨ps, g1, g2, g3, g4, g5⟩ := callB_of c.ok h3
      exact r_gcall c.ok.nd (by rw [c.ok.n]; exact h1) (loc_of c.ok.sc h2) (c.fn x) (s_callG g1 c.ok.gd c.ok.tk g2 g3 (all3_of c.ok (fun a _ e he => snd c.ok he) h4) g4 g5) rfl
    · cases h
  | .brk, s, h => by
    simp only [chkS] at h
    split at h
    · exact r_brk
    · cases h
  | .cont, s, h => by
    simp only [chkS] at h
    split at h
    · exact r_cont
    · cases h
  | .pass, s, h => by
    simp only [chkS] at h
    split at h
    · exact r_pass
    · cases h
  | .stuck, s, h => r_stuck
  | .gnew i m, s, h => by
    simp only [chkS] at h
    split at h
    · simp only [Bool.and_eq_true, decide_eq_true_eq] at h
      obtain ⟨⟨⟨⟨h1, h2⟩, h3⟩, h4⟩, h5⟩ := h
      exact r_newD c h1 h2 h3 h4 h5
    · cases h
  | .gput i k m, s, h => by
    simp only [chkS] at h
    split at h
    · simp only [Bool.and_eq_true] at h
      obtain ⟨⟨⟨h1, h2⟩, h3⟩, h4⟩ := h
      obtain ⟨x, pos, rfl, g1, g2, g3, g4⟩ := name_pe c.ok h1
      exact r_gput g1 g2 g3 g4 (by have := c.ok.un; omega) (snd c.ok h2).pe (snd c.ok h4).pe h3
    · cases h
  | .gaug i k q m, s, h => by
    simp only [chkS] at h
    split at h
    · simp only [Bool.and_eq_true, decide_eq_true_eq] at h
      obtain ⟨⟨⟨⟨h1, h2⟩, h3⟩, h4⟩, h5⟩ := h
      obtain ⟨x, pos, rfl, g1, g2, g3, g4⟩ := name_pe c.ok h1
      subst h4
      exact r_gaug g1 g2 g3 g4 (by have := c.ok.un; omega) (snd c.ok h2).pe (snd c.ok h5).pe (augPlain h3)
    · cases h
  | .whileS n a b, s, h => by
    simp only [chkS] at h
    split at h
    · simp only [Bool.and_eq_true] at h
      exact r_while c.own (snd c.ok h.1).pt (soundSs c b _ h.2)
    · cases h
  | .caseK _ _, s, h => by simp [chkS] at h
  | .caseD _, s, h => by simp [chkS] at h
  | .freeze _, s, h => by simp [chkS] at h
theorem soundSs (c : CokS T XR C N sc W X) : ∀ (m : List S) (e : List Stmt), chkSs C N sc m e = true → PSs X e (denSs T XR W m)
  | [], [], _ => rs_nil
  | [], _ :: _, h => by simp [chkSs] at h
  | m :: ms, e, h => by
    by_cases z : ∃ i, m = .freeze i
    · obtain ⟨i, rfl⟩ := z
      simp only [chkSs] at h
      exact rs_freeze (soundSs c ms e h)
    · cases e with
      | nil => cases m <;> first | (exact absurd ⟨_, rfl⟩ z) | simp [chkSs] at h
      | cons st sts =>
        have h : (chkS C N sc m st && chkSs C N sc ms sts) = true := by
          cases m <;> first | (exact absurd ⟨_, rfl⟩ z) | exact h
        simp only [Bool.and_eq_true] at h
        exact rs_cons (soundS c m st h.1) (soundSs c ms sts h.2)
theorem soundC (c : CokS T XR C N sc W X) : ∀ (m : List S) (e : List MatchCase), chkCs C N sc m e = true → MC X e (fun x => denM T XR W x m)
  | [], [], _ => mc_nil
  | [], _ :: _, h => by simp [chkCs] at h
  | m :: ms, e, h => by
    cases m with
    | caseK k b =>
      cases e with
      | nil => simp [chkCs] at h
      | cons mc rest =>
        obtain ⟨pt, gd, body⟩ := mc
        cases gd with
        | some g => cases pt <;> simp [chkCs] at h
        | none =>
          cases pt with
          | MatchValue v p2 =>
            cases v with
            | Constant cv kd p1 =>
              cases cv with
              | str y =>
                simp only [chkCs, Bool.and_eq_true, decide_eq_true_eq] at h
                obtain ⟨⟨⟨h1, h2⟩, h3⟩, h4⟩ := h
                subst h1
                exact mc_key (by have := c.ok.un; omega) h2 (soundSs c b _ h3) (soundC c ms _ h4)
              | _ => simp [chkCs] at h
            | _ => simp [chkCs] at h
          | _ => simp [chkCs] at h
    | caseD b =>
      cases e with
      | nil => simp [chkCs] at h
      | cons mc rest =>
        obtain ⟨pt, gd, body⟩ := mc
        cases gd with
        | some g => cases pt <;> simp [chkCs] at h
        | none =>
          cases pt with
          | MatchAs pp nm p2 =>
            cases pp with
            | some _ => simp [chkCs] at h
            | none =>
              cases nm with
              | some _ => simp [chkCs] at h
              | none =>
                simp only [chkCs, Bool.and_eq_true] at h
                exact mc_def (soundSs c b _ h.2)
          | _ => simp [chkCs] at h
    | _ => simp [chkCs] at h
end
end
end Rf

set_option Elab.async false
set_option linter.all false
set_option maxRecDepth 100000
set_option maxHeartbeats 4000000
namespace Rf
open PySem PySem.Spec PyProof.Rows L2

theorem look_zip {α : Type} : ∀ {ps : List Str} {us : List α} {p : Str}, p ∉ ps → (ps.zip us).lookup p = none
  | [], us, p, h => rfl
  | q :: ps, [], p, h => rfl
  | q :: ps, u :: us, p, h => by
    rw [List.zip_cons_cons, List.lookup_cons]
    have : (p == q) = false := beq_eq_false_iff_ne.mpr fun e => h (by rw [e]; simp)
    rw [this]
    exact look_zip fun z => h (List.mem_cons_of_mem _ z)
theorem fm_zip {α : Type} : ∀ {ps : List Str} {us : List α}, ps.Nodup → us.length = ps.length → ps.filterMap (fun n => ((ps.zip us).lookup n).map (n, ·)) = ps.zip us := by
  have gen : ∀ (qs : List Str) (ws : List α) (ps : List Str) (us : List α), (qs ++ ps).Nodup → ws.length = qs.length → us.length = ps.length → ps.filterMap (fun n => (((qs ++ ps).zip (ws ++ us)).lookup n).map (n, ·)) = ps.zip us := by
    intro qs ws ps
    induction ps generalizing qs ws with
    | nil => intro us _ _ h; simp
    | cons p ps ih =>
      intro us nd hw hu
      cases us with
      | nil => simp at hu
      | cons u us =>
        rw [List.zip_append hw.symm, List.zip_cons_cons]
        have hp : p ∉ qs := fun h => by
          rw [List.nodup_append] at nd
          exact nd.2.2 p h p (by simp) rfl
        have l1 : (qs.zip ws ++ (p, u) :: ps.zip us).lookup p = some u := by
          rw [List.lookup_append, look_zip hp, Option.none_or, List.lookup_cons, beq_self_eq_true]
        rw [List.filterMap_cons, l1]
        simp only [Option.map_some]
        have := ih (qs ++ [p]) (ws ++ [u]) us (by simpa using nd) (by simp [hw]) (by simpa using hu)
        rw [List.append_assoc, List.append_assoc, List.zip_append hw.symm] at this
        simp only [List.singleton_append, List.zip_cons_cons] at this
        rw [this]
  intro ps us nd hl
  exact gen [] [] ps us nd rfl hl
theorem look_app {α : Type} {xs : List (Str × α)} {p : Str} : (∀ y ∈ xs, y.1 ≠ p) → xs.lookup p = none := by
  induction xs with
  | nil => intro _; rfl
  | cons x xs ih =>
    intro h
    obtain ⟨k, v⟩ := x
    rw [List.lookup_cons]
    have : (p == k) = false := beq_eq_false_iff_ne.mpr fun e => h (k, v) (by simp) e.symm
    rw [this]
    exact ih fun y hy => h y (List.mem_cons_of_mem _ hy)
theorem kw_loop {f : Str × Value → List (Str × Value) × List (Str × Value) → Sem (ForInStep (List (Str × Value) × List (Str × Value)))} : ∀ (l slots ex : List (Str × Value)),
    (∀ x ∈ l, ∀ sl e, sl.lookup x.1 = none → f x (sl, e) = pure (.yield (sl ++ [x], e))) → ((slots ++ l).map (·.1)).Nodup → forIn l (slots, ex) f = (pure (slots ++ l, ex) : Sem _)
  | [], slots, ex, _, _ => by rw [List.forIn_nil, List.append_nil]
  | x :: l, slots, ex, hf, nd => by
    have ln : slots.lookup x.1 = none := look_app fun y hy e => by
      rw [List.map_append, List.nodup_append] at nd
      exact nd.2.2 y.1 (List.mem_map_of_mem hy) x.1 (by simp) e
    rw [List.forIn_cons, hf x (by simp) slots ex ln, pure_bind]
    have := kw_loop (f := f) l (slots ++ [x]) ex (fun y hy => hf y (List.mem_cons_of_mem _ hy)) (by simpa using nd)
    simp only
    rw [this]
    simp
theorem lookup_perm {α : Type} {n : Str} {l₁ l₂ : List (Str × α)} (h : l₁.Perm l₂) : (l₁.map (·.1)).Nodup → l₁.lookup n = l₂.lookup n := by
  induction h with
  | nil => intro _; rfl
  | cons x _ ih =>
    intro nd
    obtain ⟨k, v⟩ := x
    rw [List.lookup_cons, List.lookup_cons, ih (List.nodup_cons.mp nd).2]
  | swap x y l =>
    intro nd
    obtain ⟨k, v⟩ := x
    obtain ⟨k2, v2⟩ := y
    simp only [List.map_cons, List.nodup_cons, List.mem_cons, not_or] at nd
    simp only [List.lookup_cons]
    by_cases h1 : n = k
    · by_cases h2 : n = k2
      · exact absurd (h2.symm.trans h1) nd.1.1
      · rw [beq_eq_false_iff_ne.mpr h2, show (n == k) = true from beq_iff_eq.mpr h1]
    · rw [beq_eq_false_iff_ne.mpr h1]
  | trans h1 h2 ih1 ih2 =>
    intro nd
    rw [ih1 nd, ih2 ((h1.map _).nodup_iff.mp nd)]
theorem bind_gen {fd : FuncData} {ps : List Str} {us : List Value} {j : Nat} {kw : List (Str × Value)} (h1 : fd.params.posonlyargs = []) (h2 : fd.params.args.map (·.arg) = ps) (h3 : fd.params.kwonlyargs = []) (h4 : fd.params.vararg = none) (h5 : fd.params.kwarg = none) (h6 : fd.defaults = .none)
    (nd : ps.Nodup) (hl : us.length = ps.length) (hj : j ≤ ps.length) (hp : kw.Perm ((ps.drop j).zip (us.drop j))) : bindArgs fd ⟨us.take j, kw⟩ = pure (ps.zip us) := by
  have z0 : ps.zip (us.take j) = (ps.take j).zip (us.take j) := by
    conv => lhs; rw [← List.take_append_drop j ps]
    have : us.take j = us.take j ++ [] := by simp
    rw [this, List.zip_append (by simp [hl]), List.append_nil]
    simp
  have zz : ps.zip (us.take j) ++ (ps.drop j).zip (us.drop j) = ps.zip us := by
    rw [z0, ← List.zip_append (by simp [hl]), List.take_append_drop, List.take_append_drop]
  have zn : ((ps.zip us).map (·.1)) = ps := by rw [List.map_fst_zip]; omega
  have lp : (ps.zip (us.take j) ++ kw).Perm (ps.zip us) := by rw [← zz]; exact hp.append_left _
  have ln : ((ps.zip (us.take j) ++ kw).map (·.1)).Nodup := (lp.map _).nodup_iff.mpr (by rw [zn]; exact nd)
  have le : ∀ n, (ps.zip (us.take j) ++ kw).lookup n = (ps.zip us).lookup n := fun n => lookup_perm lp ln
  unfold bindArgs
  simp only [h1, h2, h3, h4, h5, h6, List.map_nil, List.nil_append]
  rw [kw_loop _ _ _ (fun x hx sl e hs => ?_) ln]
  · rw [pure_bind]
    have e1 : seqItems? Value.none = pure none := rfl
    rw [e1]
    simp only [pure_bind, le]
    have hg : ¬ ((decide ((us.take j).length > ps.length) && (none : Option Arg).isNone) = true) := by
      simp; omega
    have g2 : (us.take j).length > ps.length ↔ False := by simp; omega
    have lk : ∀ n ∈ ps, ((ps.zip us).lookup n).isNone = false := fun n hn => by
      have h := fm_zip nd hl
      cases q : (ps.zip us).lookup n with
      | some v => rfl
      | none =>
        exfalso
        have : ∀ y ∈ ps.zip us, y.1 ≠ n := fun y hy e => by
          have hy2 := hy
          rw [← h] at hy2
          obtain ⟨m, hm, e2⟩ := List.mem_filterMap.mp hy2
          cases w : (ps.zip us).lookup m with
          | none => rw [w] at e2; cases e2
          | some v =>
            rw [w] at e2
            simp only [Option.map_some, Option.some.injEq] at e2
            rw [← e2] at e
            simp only at e
            subst e
            rw [w] at q; cases q
        have : n ∈ (ps.zip us).map (·.1) := by rw [zn]; exact hn
        obtain ⟨y, hy, e⟩ := List.mem_map.mp this
        exact ‹∀ y ∈ ps.zip us, y.1 ≠ n› y hy e
    simp only [g2, decide_false, Bool.false_and, Option.getD_none, List.drop_zero, Nat.sub_zero]
    have m0 : ps.filter (fun n => ((ps.zip us).lookup n).isNone) = [] := by
      rw [List.filter_eq_nil_iff]
      intro n hn
      rw [lk n hn]
      decide
    simp [m0]
    simp only [le]
    rw [fm_zip nd hl]
  · have hc : x.1 ∈ ps := by
      have : x.1 ∈ ((ps.drop j).zip (us.drop j)).map (·.1) := List.mem_map_of_mem (hp.mem_iff.mp hx)
      rw [List.map_fst_zip (by simp [hl])] at this
      exact List.mem_of_mem_drop this
    simp [hc, hs]

/-! ### a def as data -/
structure Def where
  x : Str
  ps : List Str
  N : List Str
  body : List S
def cutG (n : Nat) : SRes → FRes
  | .nx s => .ret .non (s.g.take n)
  | .ret v s => .ret v (s.g.take n)
  | .retG kd s => .retG kd (s.g.take n)
  | .exc c fs s => .exc c fs (s.g.take n)
  | _ => .bad
def mirror (T : Tbl) (d : Def) : Mirror := fun xs g => if xs.length = d.ps.length then cutG g.length (runs T d.body ⟨xs ++ List.replicate (d.N.length - d.ps.length) .none, g⟩) else .bad
def TB (ds : List Def) : Nat → Tbl
  | 0 => fun _ _ _ => .bad
  | n + 1 => fun k => match ds[k]? with
    | some d => mirror (TB ds n) d
    | none => fun _ _ => .bad
theorem TB_len {ds : List Def} {n k : Nat} {d : Def} (e : ds[k]? = some d) {xs : List Slot} {g : List Gd} (h : xs.length ≠ d.ps.length) : TB ds n k xs g = .bad := by
  cases n with
  | zero => rfl
  | succ n =>
    unfold TB
    rw [e]
    exact if_neg h
def argsB (ps : List Str) (a : Arguments) : Bool := a.posonlyargs.isEmpty && decide (a.args.map (·.arg) = ps) && a.kwonlyargs.isEmpty && a.vararg.isNone && a.kwarg.isNone
def scopeB (ps N : List Str) (sc : Scope) : Bool := decide (sc.kind = .function) && !sc.isCoroutine && !sc.isGenerator && decide N.Nodup && decide (N.take ps.length = ps) && ps.all (okDef sc) && sc.names.all fun y => y.2 != .free
def defB (C : Cfg) (d : Def) (st : Stmt) : Bool := scopeB d.ps d.N (defScope st) && argsB d.ps (defArgs st) && chkSs C d.N (defScope st) d.body (defBody st)
theorem scope_of {ps N : List Str} {sc : Scope} (h : scopeB ps N sc = true) : FnScope N ps sc := by
  unfold scopeB at h
  simp only [Bool.and_eq_true, decide_eq_true_eq, Bool.not_eq_true', List.all_eq_true] at h
  obtain ⟨⟨⟨⟨⟨⟨h1, h2⟩, h3⟩, h4⟩, h5⟩, h6⟩, h7⟩ := h
  refine ⟨h1, h2, h3, h4, h5, fun x hx => ?_, fun y hy => by simpa using h7 y hy⟩
  have := h6 x hx
  unfold okDef at this
  split at this
  · rename_i e; exact .inl e
  · rename_i e; exact .inr e
  · cases this
theorem bindK_of {K : PySem.W.Frag} {x : Str} {st : Stmt} {f : Addr} {fd : FuncData} {ps N : List Str} (F : Fun K x x st f fd) (h : argsB ps (defArgs st) = true) (nd : ps.Nodup) : BindK K fd ps := by
  obtain ⟨oc, od, kV, doc, pm, an, cdv, ct, osl, rfl, lk, code⟩ := F.ex
  unfold argsB at h
  simp only [Bool.and_eq_true, decide_eq_true_eq, List.isEmpty_iff, Option.isNone_iff_eq_none] at h
  obtain ⟨⟨⟨⟨h1, h2⟩, h3⟩, h4⟩, h5⟩ := h
  exact fun s us j kw _ hl hj hp => .of_eq (bind_gen h1 h2 h3 h4 h5 rfl nd hl hj hp)
theorem start_SI {l : List Addr} {H : Hp} {xs : List Slot} {vs : List V} {g : List Gd} {N ps : List Str} (r : SlotReps l H xs vs) (gr : GR l H g) (hl : xs.length = ps.length) (hN : ps.length ≤ N.length) :
    SI ⟨l, H, []⟩ (L2.start N vs) ⟨xs ++ List.replicate (N.length - ps.length) .none, g⟩ H := by
  have lv : vs.length = xs.length := r.len
  have at1 : ∀ {xs : List Slot} {vs : List V} {i : Nat} {y : Slot}, SlotReps l H xs vs → xs[i]? = some y → ∃ v, vs[i]? = some v ∧ SlotRep l H y (some v) ∧ ∀ z, y ≠ .own z := by
    intro xs
    induction xs with
    | nil => intro vs i y _ e; simp at e
    | cons x xs ih =>
      intro vs i y r e
      obtain ⟨v, r', rfl, h1, h2⟩ := r
      cases i with
      | zero =>
        simp at e
        subst e
        refine ⟨v, rfl, ?_, ?_⟩
        · cases x with
          | val d => exact ⟨v, rfl, h1⟩
          | glb k => obtain ⟨a, rfl, h⟩ := h1; exact ⟨a, rfl, h⟩
          | none => exact h1.elim
          | own => exact h1.elim
        · intro z e; subst e; exact h1
      | succ i =>
        obtain ⟨u, q1, q2, q3⟩ := ih h2 (by simpa using e)
        exact ⟨u, by simpa using q1, q2, q3⟩
  have no : ∀ (i : Nat) (z : List D), (xs ++ List.replicate (N.length - ps.length) Slot.none)[i]? ≠ some (.own z) := by
    intro i z e
    by_cases hi : i < xs.length
    · rw [List.getElem?_append_left hi] at e
      obtain ⟨v, _, _, h⟩ := at1 r e
      exact h z rfl
    · rw [List.getElem?_append_right (by omega), List.getElem?_replicate] at e
      split at e <;> cases e
  refine ⟨fun i y e => ?_, fun i j x y a h1 => absurd h1 (no i x), fun i x a h1 => absurd h1 (no i x), fun a o h _ => h, gr.glen, gr.glob, gr.gone, fun p hp => ?_, fun p hp => ?_⟩
  · by_cases hi : i < xs.length
    · have e : (xs ++ List.replicate (N.length - ps.length) Slot.none)[i]? = some y := e
      rw [List.getElem?_append_left hi] at e
      obtain ⟨v, h1, h2, _⟩ := at1 r e
      refine ⟨some v, ?_, h2⟩
      unfold L2.start
      rw [List.getElem?_append_left (by simpa using (by omega : i < vs.length)), List.getElem?_map, h1]
      rfl
    · have e : (xs ++ List.replicate (N.length - ps.length) Slot.none)[i]? = some y := e
      rw [List.getElem?_append_right (by omega), List.getElem?_replicate] at e
      split at e
      · rename_i hb
        cases e
        refine ⟨none, ?_, trivial⟩
        unfold L2.start
        rw [List.getElem?_append_right (by simp; omega), List.getElem?_replicate, if_pos]
        simp
        omega
      · cases e
  · simp at hp
  · simp at hp
/-- what stands where a def is -/
def Here (P : Program) (w : World) (K : PySem.W.Frag) (mg : Str → Option Value) (base : Heap) (XR : Hp → Nat → List D → Value → Option Addr → Prop) (lv : Nat) (F : Mirror) (x : Str) (ps : List Str) : Prop :=
  ∃ f fd, FnG P w K mg base lv f fd ps (spF XR ps.length F) ∧ mg x = some (.ref f) ∧ PySem.W.keepIn K (.ref f) = true ∧ BindK K fd ps ∧ ∀ xs g, xs.length ≠ ps.length → F xs g = .bad
section
variable {P : Program} {w : World} {K : PySem.W.Frag} {mg : Str → Option Value} {base : Heap} {XR : Hp → Nat → List D → Value → Option Addr → Prop}
theorem gr_cut {F F' : Fx} {l : List Addr} {H' : Hp} {g : List Gd} {n : Nat} (h : GR F'.l H' g) (m : ∃ m, F'.l = l ++ m) (hn : n = l.length) : GR l H' (g.take n) := by
  obtain ⟨m, e⟩ := m
  subst hn
  have up : ∀ {k : Nat} {b : Addr}, l[k]? = some b → F'.l[k]? = some b := fun {k b} q => by
    rw [e, List.getElem?_append_left (List.getElem?_eq_some_iff.mp q).1]; exact q
  refine ⟨?_, fun k kd a h1 h2 => h.glob k kd a ?_ (up h2), fun i j a h1 h2 => h.gone i j a (up h1) (up h2)⟩
  · rw [List.length_take, h.glen, e, List.length_append]; omega
  · rw [List.getElem?_take] at h1
    split at h1
    · exact h1
    · cases h1
theorem fn_ok {C : Cfg} {T : Tbl} {d : Def} {st : Stmt} {f : Addr} {fd : FuncData} {k : Nat} (F : Fun K d.x d.x st f fd) (hb : defB C d st = true) (hmg : mg d.x = some (.ref f))
    (hf : ∀ j x, C.fns[j]? = some x → Here P w K mg base XR k (T j) x.1 x.2)
    (hc : ∀ p ∈ C.cs, ∃ u v, mg p.1 = some u ∧ scalV p.2 = some v ∧ RelV v u) (hbl : ∀ x ∈ bltNames, mg x = none) : Here P w K mg base XR (k + 1) (mirror T d) d.x d.ps := by
  unfold defB at hb
  simp only [Bool.and_eq_true] at hb
  obtain ⟨⟨h1, h2⟩, h3⟩ := hb
  have S := scope_of h1
  have hpl : d.ps.length ≤ d.N.length := by have := congrArg List.length S.pre; rw [List.length_take] at this; omega
  have ndp : d.ps.Nodup := by rw [← S.pre]; exact List.Sublist.nodup (List.take_sublist _ _) S.nd
  refine ⟨f, fd, Fun.okG F S (fun vs H Q E h => ?_) (fun cdv A outer s H vs Q E room gd want => ?_), hmg, F.kp, bindK_of (N := d.N) F h2 ndp, fun xs g h => if_neg h⟩
  · obtain ⟨l, xs, g, r, _, hl, _⟩ := h
    rw [r.len, hl]
  · obtain ⟨l, xs, g, r, gr, hl, want⟩ := want
    let X := cxOf (L2.CX P w) P w K mg base d.N d.x (defScope st) f cdv A outer s H E
    let W : WX := fun cls dd _ H' => E cls dd H'
    have tk : Takes X W := takes_of rfl rfl rfl rfl
    have ok : Cok T XR C d.N (defScope st) W X := by
      refine ⟨rfl, rfl, S.nd, rfl, ?_, ?_, tk, fun j x e => ?_, hc, hbl⟩
      · show (A.deeper _).guards = some []
        exact gd
      · have := room.un
        show (A.deeper _).units + 100 < cLine
        omega
      · obtain ⟨f', fd', G, q1, q2, q3, q4⟩ := hf j x e
        exact ⟨k, f', fd', G, room, q1, q2, q3, q4⟩
    have okS : CokS T XR C d.N (defScope st) W X := ⟨ok, passes_of rfl, fun _ => rfl, S.kind⟩
    refine ⟨_, soundSs okS d.body (defBody st) h3, ⟨l, H, []⟩, ⟨xs ++ List.replicate (d.N.length - d.ps.length) .none, g⟩, start_SI r gr hl hpl, ?_⟩
    have ng : g.length = l.length := gr.glen
    have want : match cutG g.length (runs T d.body ⟨xs ++ List.replicate (d.N.length - d.ps.length) .none, g⟩) with
      | .ret v g' => ∀ u H', Chg l H H' → Pers H H' → GR l H' g' → Rep H' v u → Q u H'
      | .retG kd g' => ∀ a H', Chg l H H' → Pers H H' → GR l H' g' → H a = none → a ∉ l → GRep H' kd a → Q (.ref a) H'
      | .exc c fs g' => ∀ cls dd H', Chg l H H' → Pers H H' → GR l H' g' → XR H' c fs cls dd → E cls dd H'
      | .bad => False := by
      have : mirror T d xs g = cutG g.length (runs T d.body ⟨xs ++ List.replicate (d.N.length - d.ps.length) .none, g⟩) := if_pos hl
      rw [this] at want
      exact want
    have chg : ∀ {F' : Fx} {σ' : L2.St} {st' : Sx} {H' : Hp}, Grown ⟨l, H, []⟩ F' → SI F' σ' st' H' → Chg l H H' ∧ ∃ m, F'.l = l ++ m := by
      intro F' σ' st' H' gw I
      obtain ⟨m, e, hm⟩ := gw.more
      refine ⟨fun a o ha hn => I.keep a o (by rw [gw.h0]; exact ha) fun z => ?_, m, e⟩
      rw [e] at z
      rcases List.mem_append.mp z with z | z
      · exact hn z
      · have q : H a = none := hm a z
        rw [ha] at q; cases q
    cases q : runs T d.body ⟨xs ++ List.replicate (d.N.length - d.ps.length) .none, g⟩ with
    | nx s1 =>
      rw [q] at want
      intro F' σ' H' gw pe I
      obtain ⟨c1, c2⟩ := chg gw I
      exact want _ H' c1 pe (gr_cut (F := F') I.gr c2 ng) rfl
    | ret v s1 =>
      rw [q] at want
      intro F' u σ' H' gw pe I rv
      obtain ⟨c1, c2⟩ := chg gw I
      exact want u H' c1 pe (gr_cut (F := F') I.gr c2 ng) rv
    | retG kd s1 =>
      rw [q] at want
      intro F' σ' H' a gw pe I ha hn gg
      obtain ⟨c1, c2⟩ := chg gw I
      refine want a H' c1 pe (gr_cut (F := F') I.gr c2 ng) (by rw [gw.h0] at ha; exact ha) (fun z => hn ?_) gg
      obtain ⟨m, e⟩ := c2
      rw [e]; exact List.mem_append_left _ z
    | exc c fs s1 =>
      rw [q] at want
      intro F' cls dd σ' H' gw pe I x
      obtain ⟨c1, c2⟩ := chg gw I
      exact want cls dd H' c1 pe (gr_cut (F := F') I.gr c2 ng) x
    | bk s1 => rw [q] at want; exact want.elim
    | ct s1 => rw [q] at want; exact want.elim
    | bad => rw [q] at want; exact want.elim
end
end Rf

set_option Elab.async false
set_option linter.all false
set_option maxRecDepth 100000
set_option maxHeartbeats 4000000
namespace Rf
open PySem PySem.Spec PyProof.Rows L2

/-! ### all defs of a text, by fuel -/
/-- what the top has made of a def -/
def Made (K : PySem.W.Frag) (mg : Str → Option Value) (C : Cfg) (d : Def) : Prop := ∃ st f fd, Fun K d.x d.x st f fd ∧ defB C d st = true ∧ mg d.x = some (.ref f)
def cfgOf (ds : List Def) (cs : List (Str × D)) : Cfg := ⟨ds.map fun d => (d.x, d.ps), cs⟩
section
variable {P : Program} {w : World} {K : PySem.W.Frag} {mg : Str → Option Value} {base : Heap} {XR : Hp → Nat → List D → Value → Option Addr → Prop}
theorem all_ok {ds : List Def} {cs : List (Str × D)} (hm : ∀ d ∈ ds, Made K mg (cfgOf ds cs) d) (hc : ∀ p ∈ cs, ∃ u v, mg p.1 = some u ∧ scalV p.2 = some v ∧ RelV v u) (hbl : ∀ x ∈ bltNames, mg x = none) :
    ∀ (n j : Nat) (d : Def), ds[j]? = some d → Here P w K mg base XR n (TB ds n j) d.x d.ps
  | 0, j, d, e => by
    obtain ⟨st, f, fd, F, hb, hg⟩ := hm d (List.mem_of_getElem? e)
    have hb2 := hb
    unfold defB at hb2
    simp only [Bool.and_eq_true] at hb2
    have S := scope_of hb2.1.1
    have ndp : d.ps.Nodup := by rw [← S.pre]; exact List.Sublist.nodup (List.take_sublist _ _) S.nd
    refine ⟨f, fd, ⟨fun vs H Q E h => ?_, fun A outer s H args us vs Q E _ _ _ _ _ h => ?_⟩, hg, F.kp, bindK_of (N := d.N) F hb2.1.2 ndp, fun _ _ _ => rfl⟩
    · obtain ⟨l, xs, g, _, _, _, z⟩ := h; exact z.elim
    · obtain ⟨l, xs, g, _, _, _, z⟩ := h; exact z.elim
  | n + 1, j, d, e => by
    obtain ⟨st, f, fd, F, hb, hg⟩ := hm d (List.mem_of_getElem? e)
    have ih := all_ok hm hc hbl n
    have : TB ds (n + 1) j = mirror (TB ds n) d := by
      show (match ds[j]? with | some d => mirror (TB ds n) d | none => fun _ _ => .bad) = _
      rw [e]
    rw [this]
    refine fn_ok F hb hg (fun i x ex => ?_) hc hbl
    have ex : (ds.map fun d => (d.x, d.ps))[i]? = some x := ex
    rw [List.getElem?_map] at ex
    obtain ⟨d', e', rfl⟩ := Option.map_eq_some_iff.mp ex
    exact ih i d' e'

theorem ints_rep {H : Hp} : ∀ ns : List Int, RepL H (ns.map D.int) (ns.map V.int)
  | [] => by simp [RepL]
  | n :: ns => by
    simp only [List.map_cons, RepL]
    exact ⟨_, _, rfl, rfl, ints_rep ns⟩
/-- the law's call, from what its mirror says of every script -/
theorem law_G {mb : Str → Option Value} {k : Nat} {fa a : Addr} {x y : Str} {M : Mirror} {s₁ : Shared} {vs : List Value} {ns : List Int}
    (KX : K.In s₁.heap) (hns : s₁.heap.Ns mainGlobals mg) (hb : s₁.heap.Ns builtinsNs mb) (hbb : ∀ z : Str, z ≠ "__name__" → mb z = bootBuiltins z) (hlim : s₁.heap.NoLimit) (hg : s₁.gens = #[])
    (ha : s₁.heap.get? a = some { cls := .type "list", data := .seq vs.toArray }) (hi : IntsAre vs ns) (hl : ns.length ≤ sizeLine) (hr : Room k callerA) (nol : K.lookup a = none)
    (hfa : mg x = some (.ref fa)) (F : ∀ base : Heap, K.In base → base.Ns mainGlobals mg → Here P w K mg base (fun _ _ _ _ _ => False) k M x [y])
    (hM : M [.val (.lst (ns.map .int))] [] = .ret (.bl true) []) :
    codeAny (model P w) callerA (.call (.ref fa) ⟨[.ref a], []⟩) (fun r s' => r = .ok (.ret (.bool true)) ∧ OldK s₁.heap s'.heap ∧ s'.os = s₁.os ∧ AllBare s'.gens) s₁ := by
  have rv := vals_ints hi
  let H : Hp := fun b => if b = a then some (.frz { cls := .type "list", data := .seq vs.toArray } (.lst (ns.map V.int))) else none
  have Ha : H a = some (.frz { cls := .type "list", data := .seq vs.toArray } (.lst (ns.map V.int))) := if_pos rfl
  have Hn : ∀ {b : Addr}, b ≠ a → H b = none := fun h => if_neg h
  have hok : HOk P w H s₁.heap := fun b u z => by
    by_cases q : b = a
    · subst q
      rw [Ha] at z
      cases z
      exact ⟨ha, by rw [List.length_map]; exact hl, vs, _, rv, ha⟩
    · rw [Hn q] at z; cases z
  have nots : ∀ {b : Addr} {o : Obj}, s₁.heap.get? b = some o → b ≠ a → (hidT s₁.heap H).get? b = some o := fun e n => hidT_get e (Hn n)
  have nsK : ∀ {b : Addr} {m : Str → Option Value}, s₁.heap.Ns b m → (hidT s₁.heap H).Ns b m := fun {b m} ⟨o, es, ep, e, d, r⟩ => ⟨o, es, ep, nots e (fun q => by
    subst q
    rw [ha] at e
    cases e
    have d' : Data.seq vs.toArray _ = Data.dict es ep := d
    cases d'), d, r⟩
  have KB : K.In (hidT s₁.heap H) := fun b o e => nots (KX b o e) (fun q => by subst q; rw [nol] at e; cases e)
  have md : Mod K mg (hidT s₁.heap H) := ⟨KB, nsK hns, ⟨mb, nsK hb, hbb⟩, by obtain ⟨mc, h1, h2⟩ := hlim; exact ⟨mc, nsK h1, h2⟩⟩
  have e0 : Env0 P w K mg (hidT s₁.heap H) callerA [] s₁ H := ⟨rfl, md, fun b o e => of_hidT e, Nat.le_of_eq (hidT_size _ _), trivial, fun b z => by simp [frs] at z, hok, .of_eq hg⟩
  obtain ⟨f, fd, G, h1, h2, h3, h4⟩ := F _ KB (nsK hns)
  rw [hfa] at h1
  cases h1
  have bt : BindsTo s₁ fd ⟨[.ref a], []⟩ ([y].zip [.ref a]) := by
    have := h3 s₁ [.ref a] 1 [] KX rfl (Nat.le_refl _) (by simp)
    simpa using this
  refine codeAny_mono (G.run callerA [] s₁ H ⟨[.ref a], []⟩ [.ref a] [.ref a] (fun v _ => v = .bl true) (fun _ _ _ => False) hr rfl e0 bt (.cons rfl .nil) ?_) fun r s' h => ?_
  · refine ⟨[], [.val (.lst (ns.map .int))], [], ⟨_, [], rfl, ?_, rfl⟩, ⟨rfl, fun k kd b q => by simp at q, fun i j b q => by simp at q⟩, rfl, ?_⟩
    · simp only [Rep]
      exact ⟨a, _, _, rfl, Ha, ints_rep ns⟩
    · rw [hM]
      exact fun v H' _ _ _ rr => rr
  · cases r with
    | error e =>
      obtain ⟨_, _, _, _, _, _, _, _, _, _, _, _, z⟩ := h
      exact z.elim
    | ok fl =>
      cases fl with
      | next => exact False.elim h
      | brk => exact False.elim h
      | cont => exact False.elim h
      | ret u =>
        obtain ⟨v, H', os, bare, un, hok', r', q⟩ := h
        have q : v = .bl true := q
        subst q
        obtain rfl : u = Value.bool true := r'
        refine ⟨rfl, OldK.of_keep fun b o e => ?_, os, bare⟩
        by_cases z : b = a
        · subst z
          have z2 := un.frzs b _ _ Ha
          obtain ⟨e2, _⟩ := hok' b _ z2
          rw [ha] at e
          cases e
          exact e2
        · exact un.keep b o e (Hn z) (by simp [frs]) (by simp)
end
/-- no list among the written part's objects -/
def noLists (K : PySem.W.Frag) : Bool := K.all fun p => match p.2.cls with
  | .type n => !(n == "list")
  | _ => true
theorem noLists_at {K : PySem.W.Frag} (h : noLists K = true) {a : Addr} {o : Obj} (e : K.lookup a = some o) (ho : o.cls = .type "list") : False := by
  unfold noLists at h
  rw [List.all_eq_true] at h
  have mem : (a, o) ∈ K := by
    clear h
    induction K with
    | nil => cases e
    | cons q r ih =>
      obtain ⟨b, u⟩ := q
      rw [List.lookup_cons] at e
      by_cases z : a = b
      · subst z
        rw [beq_self_eq_true] at e
        cases e
        exact List.mem_cons_self
      · rw [beq_eq_false_iff_ne.mpr z] at e
        exact List.mem_cons_of_mem _ (ih e)
  have := h (a, o) mem
  rw [ho] at this
  simp at this
theorem rf_walk {l : PySem.W.OpenLaw} {n k j : Nat} {q : Program} {loose : List Str} {XP : (Str → Option Value) → Heap → Prop} {YP : World → Heap → Prop} {d : DefRec} {K : Params → PySem.W.Frag} {ds : List Def} {cs : List (Str × D)} {dl : Def} {y : Str}
    (hn : l.most = some n) (hn2 : n ≤ sizeLine) (hdf : d.params.defaults = []) (hr : Room k callerA) (hj : ds[j]? = some dl) (hx : d.name = dl.x) (hy : dl.ps = [y])
    (hY : ∀ (w : World) (h : Heap), YP w h → (K w.params).In h) (nol : ∀ w : World, noLists (K w.params) = true)
    (F : ∀ (w : World) (mg : Str → Option Value) (h : Heap), (K w.params).In h → h.Ns mainGlobals mg →
      (∀ d ∈ ds, Made (K w.params) mg (cfgOf ds cs) d) ∧ (∀ p ∈ cs, ∃ u v, mg p.1 = some u ∧ scalV p.2 = some v ∧ RelV v u) ∧ (∀ x ∈ bltNames, mg x = none))
    (hM : ∀ ns : List Int, ns.length ≤ n → TB ds k j [.val (.lst (ns.map .int))] [] = .ret (.bl true) []) :
    PySem.W.WalkO q loose XP YP l.row.toRowW d [] (fun f vs => PySem.call f vs) := by
  refine Att.attach_call hn hdf fun w s₀ s₁ mg mb fa o pm cd doc a vs ns G Y ho hd hcd hmg hobj hints hlen hg => ?_
  have KX := hY w _ Y
  have nl : (K w.params).lookup a = none := by
    cases e : (K w.params).lookup a with
    | none => rfl
    | some o2 =>
      have := KX a o2 e
      rw [hobj] at this
      cases this
      exact (noLists_at (nol w) e rfl).elim
  obtain ⟨h1, h2, h3⟩ := F w mg _ KX G.T.g
  refine law_G (y := y) (x := dl.x) (M := TB ds k j) KX G.T.g G.T.b G.T.builtins G.T.nolimit hg hobj hints (Nat.le_trans hlen hn2) hr nl (by rw [← hx]; exact hmg) (fun base _ _ => ?_) (hM ns hlen)
  rw [← hy]
  exact all_ok h1 h2 h3 k j dl hj
example : Room 40 callerA := ⟨rfl, by decide, by decide⟩
end Rf

set_option Elab.async false
set_option linter.all false
set_option maxRecDepth 100000
set_option maxHeartbeats 4000000
namespace Rf
open PySem PySem.Spec PyProof.Rows L2

/-! ### the small language, told as equations -/
section
variable (T : Tbl) (st : Sx)
@[simp] theorem ev_var (i : Nat) : ev T (.var i) st = match st.r[i]? with | some (.val d) => .ok d st | _ => .bad := by first | (rw [ev]; done) | (rw [ev]; rfl)
@[simp] theorem ev_kint (i : Int) : ev T (.kint i) st = .ok (.int i) st := by first | (rw [ev]; done) | (rw [ev]; rfl)
@[simp] theorem ev_kstr (x : List Nat) : ev T (.kstr x) st = .ok (.str x) st := by first | (rw [ev]; done) | (rw [ev]; rfl)
@[simp] theorem ev_kbl (b : Bool) : ev T (.kbl b) st = .ok (.bl b) st := by first | (rw [ev]; done) | (rw [ev]; rfl)
@[simp] theorem ev_knon : ev T .knon st = .ok .non st := by first | (rw [ev]; done) | (rw [ev]; rfl)
@[simp] theorem ev_glo (x : Str) (d : D) : ev T (.glo x d) st = .ok d st := by first | (rw [ev]; done) | (rw [ev]; rfl)
@[simp] theorem ev_and (a b : E) : ev T (.and a b) st = (ev T a st).bind fun d s1 => match d with | .bl true => ev T b s1 | .bl false => .ok (.bl false) s1 | _ => .bad := by first | (rw [ev]; done) | (rw [ev]; rfl)
@[simp] theorem ev_or (a b : E) : ev T (.or a b) st = (ev T a st).bind fun d s1 => match d with | .bl true => .ok (.bl true) s1 | .bl false => ev T b s1 | _ => .bad := by first | (rw [ev]; done) | (rw [ev]; rfl)
@[simp] theorem ev_not (a : E) : ev T (.not a) st = (ev T a st).bind fun d s1 => match truth d with | some b => .ok (.bl (!b)) s1 | none => .bad := by first | (rw [ev]; done) | (rw [ev]; rfl)
@[simp] theorem ev_ite (c a b : E) : ev T (.ite c a b) st = (ev T c st).bind fun d s1 => match truth d with | some true => ev T a s1 | some false => ev T b s1 | none => .bad := by first | (rw [ev]; done) | (rw [ev]; rfl)
@[simp] theorem ev_prim (p : P) (es : List E) : ev T (.prim p es) st = (evs T es st).bind fun ds s1 => ofOpt (p.ap ds) s1 := by first | (rw [ev]; done) | (rw [ev]; rfl)
@[simp] theorem ev_chain (p q : P) (a b c : E) : ev T (.chain p q a b c) st = (ev T a st).bind fun x s1 => (ev T b s1).bind fun y s2 => match p.ap [x, y] with
    | some (.bl true) => (ev T c s2).bind fun z s3 => ofOpt (q.ap [y, z]) s3
    | some (.bl false) => .ok (.bl false) s2
    | _ => .bad := by first | (rw [ev]; done) | (rw [ev]; rfl)
@[simp] theorem ev_tup (es : List E) : ev T (.tup es) st = (evs T es st).bind fun ds s1 => if ds.length ≤ big then .ok (.tup ds) s1 else .bad := by first | (rw [ev]; done) | (rw [ev]; rfl)
@[simp] theorem ev_lst (es : List E) : ev T (.lst es) st = (evs T es st).bind fun ds s1 => if ds.length ≤ big then .ok (.lst ds) s1 else .bad := by first | (rw [ev]; done) | (rw [ev]; rfl)
@[simp] theorem ev_call (k : Nat) (es : List E) : ev T (.call k es) st = (evc T es st).bind fun xs s1 => match T k xs s1.g with
    | .ret d g => .ok d ⟨s1.r, g⟩
    | .exc c fs g => .exc c fs ⟨s1.r, g⟩
    | _ => .bad := by first | (rw [ev]; done) | (rw [ev]; rfl)
@[simp] theorem ev_mth (p : P) (a : E) (es : List E) : ev T (.mth p a es) st = (ev T a st).bind fun d s0 => if p.fits d then (evs T es s0).bind fun ds s1 => ofOpt (p.ap (d :: ds)) s1 else .bad := by first | (rw [ev]; done) | (rw [ev]; rfl)
@[simp] theorem ev_gget (i : Nat) (k : Key) : ev T (.gget i k) st = match st.r[i]? with
    | some (.glb j) => match st.g[j]? with
      | some kd => ofOpt (getK kd k) st
      | none => .bad
    | _ => .bad := by first | (rw [ev]; done) | (rw [ev]; rfl)
@[simp] theorem ev_mutl (m : MutK) (i : Nat) (es : List E) : ev T (.mutl m i es) st = match st.r[i]? with
    | some (.own _) => (evs T es st).bind fun ds s1 => match s1.r[i]? with
      | some (.own xs) => match m.ap xs ds with
        | some (d, ys) => .ok d ⟨s1.r.set i (.own ys), s1.g⟩
        | none => .bad
      | _ => .bad
    | _ => .bad := by first | (rw [ev]; done) | (rw [ev]; rfl)
@[simp] theorem evs_nil : evs T [] st = .ok [] st := by first | (rw [evs]; done) | (rw [evs]; rfl)
theorem evs_cons {a : E} {as : List E} (h : a.isOwn = none) : evs T (a :: as) st = (ev T a st).bind fun d s1 => (evs T as s1).bind fun ds s2 => .ok (d :: ds) s2 := by rw [evs, h]
@[simp] theorem evs_own (i : Nat) (as : List E) : evs T (.own i :: as) st = match st.r[i]? with
    | some (.own _) => (evs T as st).bind fun ds s1 => match s1.r[i]? with
      | some (.own xs) => .ok (.lst xs :: ds) s1
      | _ => .bad
    | some (.glb j) => (evs T as st).bind fun ds s1 => match s1.r[i]? with
      | some (.glb k) => match s1.g[k]? with
        | some kd => if j = k then .ok (.dct (kd.map (·.1)) (kd.map (·.2)) :: ds) s1 else .bad
        | none => .bad
      | _ => .bad
    | _ => .bad := by first | (rw [evs]; done) | (rw [evs]; rfl)
@[simp] theorem ev_dic (ks : List Key) (es : List E) : ev T (.dic ks es) st = (evs T es st).bind fun ds s1 => if ks.length = ds.length ∧ ks.length ≤ 15 ∧ ks.Nodup then .ok (.dct ks ds) s1 else .bad := by first | (rw [ev]; done) | (rw [ev]; rfl)
@[simp] theorem ev_orV (a b : E) : ev T (.orV a b) st = (ev T a st).bind fun d s1 => match truS d with
    | some true => .ok d s1
    | some false => ev T b s1
    | none => .bad := by first | (rw [ev]; done) | (rw [ev]; rfl)
@[simp] theorem ev_starO (i : Nat) (es : List E) : ev T (.star (.own i) es) st = match st.r[i]? with
    | some (.own xs) => (evs T es st).bind fun ds s1 => if xs.length + ds.length ≤ big then .ok (.tup (xs ++ ds)) s1 else .bad
    | _ => .bad := by first | (rw [ev]; done) | (rw [ev]; rfl)
@[simp] theorem ev_starV (i : Nat) (es : List E) : ev T (.star (.var i) es) st = (ev T (.var i) st).bind fun d s0 => match seqD d with
    | some xs => (evs T es s0).bind fun ds s1 => if xs.length + ds.length ≤ big then .ok (.tup (xs ++ ds)) s1 else .bad
    | none => .bad := by first | (rw [ev]; done) | (rw [ev]; rfl)
@[simp] theorem ev_callP (k : Nat) (es : List E) (pm : List Nat) : ev T (.callP k es pm) st = (evc T es st).bind fun xs s1 => match T k (pick xs pm) s1.g with
    | .ret d g => .ok d ⟨s1.r, g⟩
    | .exc c fs g => .exc c fs ⟨s1.r, g⟩
    | _ => .bad := by first | (rw [ev]; done) | (rw [ev]; rfl)
@[simp] theorem ev_gvals (i : Nat) : ev T (.gvals i) st = match st.r[i]? with
    | some (.glb j) => match st.g[j]? with
      | some kd => if kd.length ≤ big then .ok (.tup (kd.map (·.2))) st else .bad
      | none => .bad
    | _ => .bad := by first | (rw [ev]; done) | (rw [ev]; rfl)
theorem ev_comp (elt : E) (pt : Pat) (it : ItK) (src cs : List E) (ws : List Nat) : ev T (.comp elt pt it src cs ws) st = (evs T src st).bind fun ds s1 => match it.get ds with
    | some xs => match compL (bindP pt) (evt T cs) (ev T elt) ws xs s1 with
      | .ok rs s2 => if rs.length ≤ big then .ok (.lst rs) ⟨backR s1.r ws s2.r, s2.g⟩ else .bad
      | _ => .bad
    | none => .bad := by first | (rw [ev]; done) | (rw [ev]; rfl)
theorem ev_dcomp (k v : E) (pt : Pat) (it : ItK) (src cs : List E) (ws : List Nat) : ev T (.dcomp k v pt it src cs ws) st = (evs T src st).bind fun ds s1 => match it.get ds with
    | some xs => match compD (bindP pt) (evt T cs) (ev T k) (ev T v) ws xs [] s1 with
      | .ok kd s2 => .ok (.dct (kd.map (·.1)) (kd.map (·.2))) ⟨backR s1.r ws s2.r, s2.g⟩
      | _ => .bad
    | none => .bad := by first | (rw [ev]; done) | (rw [ev]; rfl)
def inner2 (T : Tbl) (elt : E) (p2 : Pat) (i2 : ItK) (src2 c2 : List E) (ws2 : List Nat) (s : Sx) : Res (List D) := (evs T src2 s).bind fun es s2 => match i2.get es with
        | some ys => compL (bindP p2) (evt T c2) (ev T elt) ws2 ys s2
        | none => .bad
theorem ev_comp2 (elt : E) (p1 p2 : Pat) (i1 i2 : ItK) (src1 c1 src2 c2 : List E) (ws ws2 : List Nat) : ev T (.comp2 elt p1 i1 src1 c1 p2 i2 src2 c2 ws ws2) st = (evs T src1 st).bind fun ds s1 => match i1.get ds with
    | some xs => match compO (bindP p1) (evt T c1) (inner2 T elt p2 i2 src2 c2 ws2) ws xs s1 with
      | .ok rs s2 => if rs.length ≤ big then .ok (.lst rs) ⟨backR s1.r ws s2.r, s2.g⟩ else .bad
      | _ => .bad
    | none => .bad := by first | (rw [ev]; done) | (rw [ev]; rfl)
@[simp] theorem evp_nil : evp T [] st = .ok none st := by first | (rw [evp]; done) | (rw [evp]; rfl)
@[simp] theorem evp_cons (a : E) (as : List E) : evp T (a :: as) st = (ev T a st).bind fun d s1 => match d with | .int i => .ok (some i) s1 | _ => .bad := by first | (rw [evp]; done) | (rw [evp]; rfl)
@[simp] theorem evt_nil : evt T [] st = .ok true st := by first | (rw [evt]; done) | (rw [evt]; rfl)
@[simp] theorem evt_cons (c : E) (cs : List E) : evt T (c :: cs) st = (ev T c st).bind fun d s1 => match truth d with | some true => evt T cs s1 | some false => .ok false s1 | none => .bad := by first | (rw [evt]; done) | (rw [evt]; rfl)
@[simp] theorem evc_nil : evc T [] st = .ok [] st := by first | (rw [evc]; done) | (rw [evc]; rfl)
@[simp] theorem evc_gv (i : Nat) (as : List E) : evc T (.gv i :: as) st = match st.r[i]? with
    | some (.glb k) => (evc T as st).bind fun ds s1 => .ok (.glb k :: ds) s1
    | _ => .bad := by first | (rw [evc]; done) | (rw [evc]; rfl)
theorem evc_cons {a : E} {as : List E} (h : a.isGv = none) : evc T (a :: as) st = (ev T a st).bind fun d s1 => (evc T as s1).bind fun ds s2 => .ok (.val d :: ds) s2 := by rw [evc, h]
@[simp] theorem evs_var (i : Nat) (as : List E) : evs T (.var i :: as) st = (ev T (.var i) st).bind fun d s1 => (evs T as s1).bind fun ds s2 => .ok (d :: ds) s2 := evs_cons T st rfl
@[simp] theorem evc_var (i : Nat) (as : List E) : evc T (.var i :: as) st = (ev T (.var i) st).bind fun d s1 => (evc T as s1).bind fun ds s2 => .ok (.val d :: ds) s2 := evc_cons T st rfl
@[simp] theorem evs_kint (i : Int) (as : List E) : evs T (.kint i :: as) st = (ev T (.kint i) st).bind fun d s1 => (evs T as s1).bind fun ds s2 => .ok (d :: ds) s2 := evs_cons T st rfl
@[simp] theorem evc_kint (i : Int) (as : List E) : evc T (.kint i :: as) st = (ev T (.kint i) st).bind fun d s1 => (evc T as s1).bind fun ds s2 => .ok (.val d :: ds) s2 := evc_cons T st rfl
@[simp] theorem evs_kstr (x : List Nat) (as : List E) : evs T (.kstr x :: as) st = (ev T (.kstr x) st).bind fun d s1 => (evs T as s1).bind fun ds s2 => .ok (d :: ds) s2 := evs_cons T st rfl
@[simp] theorem evc_kstr (x : List Nat) (as : List E) : evc T (.kstr x :: as) st = (ev T (.kstr x) st).bind fun d s1 => (evc T as s1).bind fun ds s2 => .ok (.val d :: ds) s2 := evc_cons T st rfl
@[simp] theorem evs_kbl (b : Bool) (as : List E) : evs T (.kbl b :: as) st = (ev T (.kbl b) st).bind fun d s1 => (evs T as s1).bind fun ds s2 => .ok (d :: ds) s2 := evs_cons T st rfl
@[simp] theorem evc_kbl (b : Bool) (as : List E) : evc T (.kbl b :: as) st = (ev T (.kbl b) st).bind fun d s1 => (evc T as s1).bind fun ds s2 => .ok (.val d :: ds) s2 := evc_cons T st rfl
@[simp] theorem evs_knon  (as : List E) : evs T (.knon :: as) st = (ev T (.knon) st).bind fun d s1 => (evs T as s1).bind fun ds s2 => .ok (d :: ds) s2 := evs_cons T st rfl
@[simp] theorem evc_knon  (as : List E) : evc T (.knon :: as) st = (ev T (.knon) st).bind fun d s1 => (evc T as s1).bind fun ds s2 => .ok (.val d :: ds) s2 := evc_cons T st rfl
@[simp] theorem evs_glo (x : Str) (d : D) (as : List E) : evs T (.glo x d :: as) st = (ev T (.glo x d) st).bind fun d s1 => (evs T as s1).bind fun ds s2 => .ok (d :: ds) s2 := evs_cons T st rfl
@[simp] theorem evc_glo (x : Str) (d : D) (as : List E) : evc T (.glo x d :: as) st = (ev T (.glo x d) st).bind fun d s1 => (evc T as s1).bind fun ds s2 => .ok (.val d :: ds) s2 := evc_cons T st rfl
@[simp] theorem evs_and (a b : E) (as : List E) : evs T (.and a b :: as) st = (ev T (.and a b) st).bind fun d s1 => (evs T as s1).bind fun ds s2 => .ok (d :: ds) s2 := evs_cons T st rfl
@[simp] theorem evc_and (a b : E) (as : List E) : evc T (.and a b :: as) st = (ev T (.and a b) st).bind fun d s1 => (evc T as s1).bind fun ds s2 => .ok (.val d :: ds) s2 := evc_cons T st rfl
@[simp] theorem evs_or (a b : E) (as : List E) : evs T (.or a b :: as) st = (ev T (.or a b) st).bind fun d s1 => (evs T as s1).bind fun ds s2 => .ok (d :: ds) s2 := evs_cons T st rfl
@[simp] theorem evc_or (a b : E) (as : List E) : evc T (.or a b :: as) st = (ev T (.or a b) st).bind fun d s1 => (evc T as s1).bind fun ds s2 => .ok (.val d :: ds) s2 := evc_cons T st rfl
@[simp] theorem evs_not (a : E) (as : List E) : evs T (.not a :: as) st = (ev T (.not a) st).bind fun d s1 => (evs T as s1).bind fun ds s2 => .ok (d :: ds) s2 := evs_cons T st rfl
@[simp] theorem evc_not (a : E) (as : List E) : evc T (.not a :: as) st = (ev T (.not a) st).bind fun d s1 => (evc T as s1).bind fun ds s2 => .ok (.val d :: ds) s2 := evc_cons T st rfl
@[simp] theorem evs_ite (a b c : E) (as : List E) : evs T (.ite a b c :: as) st = (ev T (.ite a b c) st).bind fun d s1 => (evs T as s1).bind fun ds s2 => .ok (d :: ds) s2 := evs_cons T st rfl
@[simp] theorem evc_ite (a b c : E) (as : List E) : evc T (.ite a b c :: as) st = (ev T (.ite a b c) st).bind fun d s1 => (evc T as s1).bind fun ds s2 => .ok (.val d :: ds) s2 := evc_cons T st rfl
@[simp] theorem evs_prim (p : P) (es : List E) (as : List E) : evs T (.prim p es :: as) st = (ev T (.prim p es) st).bind fun d s1 => (evs T as s1).bind fun ds s2 => .ok (d :: ds) s2 := evs_cons T st rfl
@[simp] theorem evc_prim (p : P) (es : List E) (as : List E) : evc T (.prim p es :: as) st = (ev T (.prim p es) st).bind fun d s1 => (evc T as s1).bind fun ds s2 => .ok (.val d :: ds) s2 := evc_cons T st rfl
@[simp] theorem evs_chain (p q : P) (a b c : E) (as : List E) : evs T (.chain p q a b c :: as) st = (ev T (.chain p q a b c) st).bind fun d s1 => (evs T as s1).bind fun ds s2 => .ok (d :: ds) s2 := evs_cons T st rfl
@[simp] theorem evc_chain (p q : P) (a b c : E) (as : List E) : evc T (.chain p q a b c :: as) st = (ev T (.chain p q a b c) st).bind fun d s1 => (evc T as s1).bind fun ds s2 => .ok (.val d :: ds) s2 := evc_cons T st rfl
@[simp] theorem evs_cut (a : E) (lo hi : List E) (as : List E) : evs T (.cut a lo hi :: as) st = (ev T (.cut a lo hi) st).bind fun d s1 => (evs T as s1).bind fun ds s2 => .ok (d :: ds) s2 := evs_cons T st rfl
@[simp] theorem evc_cut (a : E) (lo hi : List E) (as : List E) : evc T (.cut a lo hi :: as) st = (ev T (.cut a lo hi) st).bind fun d s1 => (evc T as s1).bind fun ds s2 => .ok (.val d :: ds) s2 := evc_cons T st rfl
@[simp] theorem evs_stp (a : E) (lo : List E) (k : Int) (as : List E) : evs T (.stp a lo k :: as) st = (ev T (.stp a lo k) st).bind fun d s1 => (evs T as s1).bind fun ds s2 => .ok (d :: ds) s2 := evs_cons T st rfl
@[simp] theorem evc_stp (a : E) (lo : List E) (k : Int) (as : List E) : evc T (.stp a lo k :: as) st = (ev T (.stp a lo k) st).bind fun d s1 => (evc T as s1).bind fun ds s2 => .ok (.val d :: ds) s2 := evc_cons T st rfl
@[simp] theorem evs_tup (es : List E) (as : List E) : evs T (.tup es :: as) st = (ev T (.tup es) st).bind fun d s1 => (evs T as s1).bind fun ds s2 => .ok (d :: ds) s2 := evs_cons T st rfl
@[simp] theorem evc_tup (es : List E) (as : List E) : evc T (.tup es :: as) st = (ev T (.tup es) st).bind fun d s1 => (evc T as s1).bind fun ds s2 => .ok (.val d :: ds) s2 := evc_cons T st rfl
@[simp] theorem evs_lst (es : List E) (as : List E) : evs T (.lst es :: as) st = (ev T (.lst es) st).bind fun d s1 => (evs T as s1).bind fun ds s2 => .ok (d :: ds) s2 := evs_cons T st rfl
@[simp] theorem evc_lst (es : List E) (as : List E) : evc T (.lst es :: as) st = (ev T (.lst es) st).bind fun d s1 => (evc T as s1).bind fun ds s2 => .ok (.val d :: ds) s2 := evc_cons T st rfl
@[simp] theorem evs_call (k : Nat) (es : List E) (as : List E) : evs T (.call k es :: as) st = (ev T (.call k es) st).bind fun d s1 => (evs T as s1).bind fun ds s2 => .ok (d :: ds) s2 := evs_cons T st rfl
@[simp] theorem evc_call (k : Nat) (es : List E) (as : List E) : evc T (.call k es :: as) st = (ev T (.call k es) st).bind fun d s1 => (evc T as s1).bind fun ds s2 => .ok (.val d :: ds) s2 := evc_cons T st rfl
@[simp] theorem evs_mth (p : P) (a : E) (es : List E) (as : List E) : evs T (.mth p a es :: as) st = (ev T (.mth p a es) st).bind fun d s1 => (evs T as s1).bind fun ds s2 => .ok (d :: ds) s2 := evs_cons T st rfl
@[simp] theorem evc_mth (p : P) (a : E) (es : List E) (as : List E) : evc T (.mth p a es :: as) st = (ev T (.mth p a es) st).bind fun d s1 => (evc T as s1).bind fun ds s2 => .ok (.val d :: ds) s2 := evc_cons T st rfl
@[simp] theorem evs_gget (i : Nat) (k : Key) (as : List E) : evs T (.gget i k :: as) st = (ev T (.gget i k) st).bind fun d s1 => (evs T as s1).bind fun ds s2 => .ok (d :: ds) s2 := evs_cons T st rfl
@[simp] theorem evc_gget (i : Nat) (k : Key) (as : List E) : evc T (.gget i k :: as) st = (ev T (.gget i k) st).bind fun d s1 => (evc T as s1).bind fun ds s2 => .ok (.val d :: ds) s2 := evc_cons T st rfl
@[simp] theorem evs_comp (elt : E) (pt : Pat) (it : ItK) (src cs : List E) (ws : List Nat) (as : List E) : evs T (.comp elt pt it src cs ws :: as) st = (ev T (.comp elt pt it src cs ws) st).bind fun d s1 => (evs T as s1).bind fun ds s2 => .ok (d :: ds) s2 := evs_cons T st rfl
@[simp] theorem evc_comp (elt : E) (pt : Pat) (it : ItK) (src cs : List E) (ws : List Nat) (as : List E) : evc T (.comp elt pt it src cs ws :: as) st = (ev T (.comp elt pt it src cs ws) st).bind fun d s1 => (evc T as s1).bind fun ds s2 => .ok (.val d :: ds) s2 := evc_cons T st rfl
@[simp] theorem evs_mutl (m : MutK) (i : Nat) (es : List E) (as : List E) : evs T (.mutl m i es :: as) st = (ev T (.mutl m i es) st).bind fun d s1 => (evs T as s1).bind fun ds s2 => .ok (d :: ds) s2 := evs_cons T st rfl
@[simp] theorem evc_mutl (m : MutK) (i : Nat) (es : List E) (as : List E) : evc T (.mutl m i es :: as) st = (ev T (.mutl m i es) st).bind fun d s1 => (evc T as s1).bind fun ds s2 => .ok (.val d :: ds) s2 := evc_cons T st rfl
@[simp] theorem bind_ok {α β : Type} (a : α) (s : Sx) (f : α → Sx → Res β) : (Res.ok a s).bind f = f a s := rfl
@[simp] theorem bind_bad {α β : Type} (f : α → Sx → Res β) : (Res.bad : Res α).bind f = .bad := rfl
@[simp] theorem onE_ok {α : Type} (a : α) (s : Sx) (f : α → Sx → SRes) : onE (Res.ok a s) f = f a s := rfl
@[simp] theorem ofOpt_some (d : D) (s : Sx) : ofOpt (some d) s = .ok d s := rfl
@[simp] theorem ofOpt_none (s : Sx) : ofOpt none s = .bad := rfl
@[simp] theorem runs_nil : runs T [] st = .nx st := by first | (rw [runs]; done) | (rw [runs]; rfl)
@[simp] theorem runs_cons (s : S) (ss : List S) : runs T (s :: ss) st = match run T s st with | .nx s1 => runs T ss s1 | r => r := by first | (rw [runs]; done) | (rw [runs]; rfl)
@[simp] theorem run_set (p : Pat) (m : E) : run T (.set p m) st = onE (ev T m st) fun d s => match bindP p d s.r with | some r => .nx ⟨r, s.g⟩ | none => .bad := by first | (rw [run]; done) | (rw [run]; rfl)
@[simp] theorem run_setOwn (i : Nat) (m : E) : run T (.setOwn i m) st = onE (ev T m st) fun d s => match putS true i d s.r with | some r => .nx ⟨r, s.g⟩ | none => .bad := by first | (rw [run]; done) | (rw [run]; rfl)
@[simp] theorem run_gset (i : Nat) (k : Key) (m : E) : run T (.gset i k m) st = onE (ev T m st) fun d s => match s.r[i]? with
    | some (.glb j) => match s.g[j]? with
      | some kd => if kd.length < big then .nx ⟨s.r, s.g.set j (setK kd k d)⟩ else .bad
      | none => .bad
    | _ => .bad := by first | (rw [run]; done) | (rw [run]; rfl)
@[simp] theorem run_par (i j : Nat) (oi oj : Bool) (a b : E) : run T (.par i j oi oj a b) st = onE (ev T a st) fun d s => onE (ev T b s) fun e s2 => match putS oi i d s2.r with
    | some r => match putS oj j e r with
      | some r => .nx ⟨r, s2.g⟩
      | none => .bad
    | none => .bad := by first | (rw [run]; done) | (rw [run]; rfl)
@[simp] theorem run_drop (m : E) : run T (.drop m) st = onE (ev T m st) fun _ s => .nx s := by first | (rw [run]; done) | (rw [run]; rfl)
@[simp] theorem run_ret (m : E) : run T (.ret m) st = onE (ev T m st) fun d s => .ret d s := by first | (rw [run]; done) | (rw [run]; rfl)
@[simp] theorem run_if (c : E) (a b : List S) : run T (.ifS c a b) st = onE (ev T c st) fun d s => match truth d with | some true => runs T a s | some false => runs T b s | none => .bad := by first | (rw [run]; done) | (rw [run]; rfl)
@[simp] theorem run_match (m : E) (cs : List S) : run T (.matchS m cs) st = onE (ev T m st) fun d s => match d with | .str x => runm T x cs s | _ => .bad := by first | (rw [run]; done) | (rw [run]; rfl)
@[simp] theorem runm_nil (x : List Nat) : runm T x [] st = .nx st := by first | (rw [runm]; done) | (rw [runm]; rfl)
@[simp] theorem runm_key (x k : List Nat) (b cs : List S) : runm T x (.caseK k b :: cs) st = if x = k then runs T b st else runm T x cs st := by first | (rw [runm]; done) | (rw [runm]; rfl)
@[simp] theorem runm_def (x : List Nat) (b cs : List S) : runm T x (.caseD b :: cs) st = runs T b st := by first | (rw [runm]; done) | (rw [runm]; rfl)
@[simp] theorem run_freeze (i : Nat) : run T (.freeze i) st = match st.r[i]? with | some (.own xs) => .nx ⟨st.r.set i (.val (.lst xs)), st.g⟩ | _ => .bad := by first | (rw [run]; done) | (rw [run]; rfl)
@[simp] theorem run_retDic (ks : List Key) (es : List E) : run T (.retDic ks es) st = onE (evs T es st) fun ds s => if ks.length = ds.length ∧ ks.length ≤ 15 ∧ ks.Nodup then .retG (ks.zip ds) s else .bad := by first | (rw [run]; done) | (rw [run]; rfl)
@[simp] theorem run_gcall (i k : Nat) (es : List E) : run T (.gcall i k es) st = onE (evc T es st) fun xs s => match T k xs s.g with
    | .retG kd g => if i < s.r.length then .nx ⟨s.r.set i (.glb g.length), g ++ [kd]⟩ else .bad
    | .exc c fs g => .exc c fs ⟨s.r, g⟩
    | _ => .bad := by first | (rw [run]; done) | (rw [run]; rfl)
@[simp] theorem evs_dic (ks : List Key) (es : List E) (as : List E) : evs T (.dic ks es :: as) st = (ev T (.dic ks es) st).bind fun d s1 => (evs T as s1).bind fun ds s2 => .ok (d :: ds) s2 := evs_cons T st rfl
@[simp] theorem evc_dic (ks : List Key) (es : List E) (as : List E) : evc T (.dic ks es :: as) st = (ev T (.dic ks es) st).bind fun d s1 => (evc T as s1).bind fun ds s2 => .ok (.val d :: ds) s2 := evc_cons T st rfl
@[simp] theorem evs_orV (a b : E) (as : List E) : evs T (.orV a b :: as) st = (ev T (.orV a b) st).bind fun d s1 => (evs T as s1).bind fun ds s2 => .ok (d :: ds) s2 := evs_cons T st rfl
@[simp] theorem evc_orV (a b : E) (as : List E) : evc T (.orV a b :: as) st = (ev T (.orV a b) st).bind fun d s1 => (evc T as s1).bind fun ds s2 => .ok (.val d :: ds) s2 := evc_cons T st rfl
@[simp] theorem evs_star (a : E) (es : List E) (as : List E) : evs T (.star a es :: as) st = (ev T (.star a es) st).bind fun d s1 => (evs T as s1).bind fun ds s2 => .ok (d :: ds) s2 := evs_cons T st rfl
@[simp] theorem evc_star (a : E) (es : List E) (as : List E) : evc T (.star a es :: as) st = (ev T (.star a es) st).bind fun d s1 => (evc T as s1).bind fun ds s2 => .ok (.val d :: ds) s2 := evc_cons T st rfl
@[simp] theorem evs_callP (k : Nat) (es : List E) (pm : List Nat) (as : List E) : evs T (.callP k es pm :: as) st = (ev T (.callP k es pm) st).bind fun d s1 => (evs T as s1).bind fun ds s2 => .ok (d :: ds) s2 := evs_cons T st rfl
@[simp] theorem evc_callP (k : Nat) (es : List E) (pm : List Nat) (as : List E) : evc T (.callP k es pm :: as) st = (ev T (.callP k es pm) st).bind fun d s1 => (evc T as s1).bind fun ds s2 => .ok (.val d :: ds) s2 := evc_cons T st rfl
@[simp] theorem evs_gvals (i : Nat) (as : List E) : evs T (.gvals i :: as) st = (ev T (.gvals i) st).bind fun d s1 => (evs T as s1).bind fun ds s2 => .ok (d :: ds) s2 := evs_cons T st rfl
@[simp] theorem evc_gvals (i : Nat) (as : List E) : evc T (.gvals i :: as) st = (ev T (.gvals i) st).bind fun d s1 => (evc T as s1).bind fun ds s2 => .ok (.val d :: ds) s2 := evc_cons T st rfl
@[simp] theorem evs_dcomp (k v : E) (pt : Pat) (it : ItK) (src cs : List E) (ws : List Nat) (as : List E) : evs T (.dcomp k v pt it src cs ws :: as) st = (ev T (.dcomp k v pt it src cs ws) st).bind fun d s1 => (evs T as s1).bind fun ds s2 => .ok (d :: ds) s2 := evs_cons T st rfl
@[simp] theorem evc_dcomp (k v : E) (pt : Pat) (it : ItK) (src cs : List E) (ws : List Nat) (as : List E) : evc T (.dcomp k v pt it src cs ws :: as) st = (ev T (.dcomp k v pt it src cs ws) st).bind fun d s1 => (evc T as s1).bind fun ds s2 => .ok (.val d :: ds) s2 := evc_cons T st rfl
@[simp] theorem evs_comp2 (elt : E) (p1 : Pat) (i1 : ItK) (s1 c1 : List E) (p2 : Pat) (i2 : ItK) (s2 c2 : List E) (ws ws2 : List Nat) (as : List E) : evs T (.comp2 elt p1 i1 s1 c1 p2 i2 s2 c2 ws ws2 :: as) st = (ev T (.comp2 elt p1 i1 s1 c1 p2 i2 s2 c2 ws ws2) st).bind fun d s1 => (evs T as s1).bind fun ds s2 => .ok (d :: ds) s2 := evs_cons T st rfl
@[simp] theorem evc_comp2 (elt : E) (p1 : Pat) (i1 : ItK) (s1 c1 : List E) (p2 : Pat) (i2 : ItK) (s2 c2 : List E) (ws ws2 : List Nat) (as : List E) : evc T (.comp2 elt p1 i1 s1 c1 p2 i2 s2 c2 ws ws2 :: as) st = (ev T (.comp2 elt p1 i1 s1 c1 p2 i2 s2 c2 ws ws2) st).bind fun d s1 => (evc T as s1).bind fun ds s2 => .ok (.val d :: ds) s2 := evc_cons T st rfl
@[simp] theorem run_gnew (i : Nat) (m : E) : run T (.gnew i m) st = onE (ev T m st) fun d s => match d with
    | .dct ks ds => if i < s.r.length ∧ ks.length = ds.length then .nx ⟨s.r.set i (.glb s.g.length), s.g ++ [ks.zip ds]⟩ else .bad
    | _ => .bad := by first | (rw [run]; done) | (rw [run]; rfl)
@[simp] theorem run_gput (i : Nat) (k m : E) : run T (.gput i k m) st = onE (ev T m st) fun v s => match s.r[i]? with
    | some (.glb j) => onE (ev T k s) fun kk s2 => match s2.g[j]? with
      | some kd => match keyD kk with
        | some key => if kd.length < big then .nx ⟨s2.r, s2.g.set j (setK kd key v)⟩ else .bad
        | none => .bad
      | none => .bad
    | _ => .bad := by first | (rw [run]; done) | (rw [run]; rfl)
@[simp] theorem run_gaug (i : Nat) (k : E) (p : P) (m : E) : run T (.gaug i k p m) st = match st.r[i]? with
    | some (.glb j) => onE (ev T k st) fun kk s => match s.g[j]? with
      | some kd => match keyD kk with
        | some key => match getK kd key with
          | some (.int x) => onE (ev T m s) fun d s2 => match d with
            | .int y => match s2.g[j]? with
              | some kd2 => match augI p x y with
                | some z => if kd2.length < big then .nx ⟨s2.r, s2.g.set j (setK kd2 key (.int z))⟩ else .bad
                | none => .bad
              | none => .bad
            | _ => .bad
          | _ => .bad
        | none => .bad
      | none => .bad
    | _ => .bad := by first | (rw [run]; done) | (rw [run]; rfl)
theorem run_while (n : Nat) (c : E) (b : List S) : run T (.whileS n c b) st = whileL (evt T [c]) (runs T b) n st := by first | (rw [run]; done) | (rw [run]; rfl)
@[simp] theorem run_aug (i : Nat) (p : P) (m : E) : run T (.aug i p m) st = match st.r[i]? with
    | some (.val (.int x)) => onE (ev T m st) fun d s => match d, p with
      | .int y, .add => if i < s.r.length then .nx ⟨s.r.set i (.val (.int (x + y))), s.g⟩ else .bad
      | .int y, .sub => if i < s.r.length then .nx ⟨s.r.set i (.val (.int (x - y))), s.g⟩ else .bad
      | _, _ => .bad
    | _ => .bad := by first | (rw [run]; done) | (rw [run]; rfl)
@[simp] theorem run_brk : run T .brk st = .bk st := by first | (rw [run]; done) | (rw [run]; rfl)
@[simp] theorem run_cont : run T .cont st = .ct st := by first | (rw [run]; done) | (rw [run]; rfl)
@[simp] theorem run_pass : run T .pass st = .nx st := by first | (rw [run]; done) | (rw [run]; rfl)
@[simp] theorem run_retN : run T .retN st = .ret .non st := by first | (rw [run]; done) | (rw [run]; rfl)
theorem run_for (p : Pat) (k : ItK) (src : List E) (b : List S) : run T (.forS p k src b) st = onE (evs T src st) fun ds s => match k.get ds with | some xs => loopS (bindP p) (runs T b) xs s | none => .bad := by first | (rw [run]; done) | (rw [run]; rfl)
end
@[simp] theorem ap_e0 (i : Int) (j : Int) : P.ap .add [.int i, .int j] = (some (.int (i + j))) := rfl
@[simp] theorem ap_e1 (b : Bool) (j : Int) : P.ap .add [.bl b, .int j] = (some (.int (bI b + j))) := rfl
@[simp] theorem ap_e2 (i : Int) (b : Bool) : P.ap .add [.int i, .bl b] = (some (.int (i + bI b))) := rfl
@[simp] theorem ap_e3 (x : List Nat) (y : List Nat) : P.ap .add [.str x, .str y] = (if x.length + y.length ≤ big then some (.str (x ++ y)) else none) := rfl
@[simp] theorem ap_e4 (x : List D) (y : List D) : P.ap .add [.tup x, .tup y] = (if x.length + y.length ≤ big then some (.tup (x ++ y)) else none) := rfl
@[simp] theorem ap_e5 (x : List D) (y : List D) : P.ap .add [.lst x, .lst y] = (if x.length + y.length ≤ big then some (.lst (x ++ y)) else none) := rfl
@[simp] theorem ap_e6 (i : Int) (j : Int) : P.ap .sub [.int i, .int j] = (some (.int (i - j))) := rfl
@[simp] theorem ap_e7 (b : Bool) (j : Int) : P.ap .sub [.bl b, .int j] = (some (.int (bI b - j))) := rfl
@[simp] theorem ap_e8 (i : Int) (b : Bool) : P.ap .sub [.int i, .bl b] = (some (.int (i - bI b))) := rfl
@[simp] theorem ap_e9 (i : Int) (j : Int) : P.ap .mul [.int i, .int j] = (if i.natAbs < 2 ^ 64 ∨ j.natAbs < 2 ^ 64 then some (.int (i * j)) else none) := rfl
@[simp] theorem ap_e10 (x : List Nat) (n : Int) : P.ap .mul [.str x, .int n] = (if n.natAbs < big ∧ x.length * n.toNat ≤ big then some (.str (List.replicate n.toNat x).flatten) else none) := rfl
@[simp] theorem ap_e11 (x : List D) (n : Int) : P.ap .mul [.lst x, .int n] = (if n.natAbs < big ∧ x.length * n.toNat ≤ big then some (.lst (List.replicate n.toNat x).flatten) else none) := rfl
@[simp] theorem ap_mul_tup (x : List D) (n : Int) : P.ap .mul [.tup x, .int n] = (if x.length ≤ 1000 ∧ 0 ≤ n ∧ n ≤ 1000 ∧ 0 < x.length then some (.tup (List.replicate n.toNat x).flatten) else none) := rfl
@[simp] theorem ap_sum (xs : List D) : P.ap .sum [.lst xs] = ((intsD xs).map fun ns => .int ns.sum) := rfl
@[simp] theorem ap_list_dct (ks : List Key) (vs : List D) : P.ap .list [.dct ks vs] = (if ks.all keyFit then some (.lst (ks.map kD)) else none) := rfl
@[simp] theorem ap_lt_str (x y : List Nat) : P.ap .lt [.str x, .str y] = some (.bl (decide (x < y))) := rfl
@[simp] theorem ap_lt_tup (x y : List D) : P.ap .lt [.tup x, .tup y] = (if (toP (.tup x)).canLay0 && (toP (.tup y)).canLay0 && PySem.W.alike (toP (.tup x)) (toP (.tup y)) && decide (dMin (toP (.tup x)) (toP (.tup y)) ≤ 64) then some (.bl (PySem.W.dataLt (toP (.tup x)) (toP (.tup y)))) else none) := rfl
@[simp] theorem ap_e12 (i : Int) (j : Int) : P.ap .fdiv [.int i, .int j] = (if j ≠ 0 ∧ j.natAbs < 1073741824 then some (.int (i.fdiv j)) else none) := rfl
@[simp] theorem ap_e13 (i : Int) (j : Int) : P.ap .mod [.int i, .int j] = (if j ≠ 0 then some (.int (i.fmod j)) else none) := rfl
@[simp] theorem ap_e14 (i : Int) (j : Int) : P.ap .pow [.int i, .int j] = (if 0 ≤ j ∧ j ≤ 1000000 ∧ i.natAbs < 2 ^ 64 then some (.int (i ^ j.toNat)) else none) := rfl
@[simp] theorem ap_e15 (i : Int) : P.ap .neg [.int i] = (some (.int (-i))) := rfl
@[simp] theorem ap_e16 (a : D) (b : D) : P.ap .eq [a, b] = ((eqD a b).map .bl) := rfl
@[simp] theorem ap_e17 (a : D) (b : D) : P.ap .ne [a, b] = ((eqD a b).map fun c => .bl (!c)) := rfl
@[simp] theorem ap_e18 (i : Int) (j : Int) : P.ap .lt [.int i, .int j] = (some (.bl (decide (i < j)))) := rfl
@[simp] theorem ap_e19 (i : Int) (j : Int) : P.ap .le [.int i, .int j] = (some (.bl (decide (i ≤ j)))) := rfl
@[simp] theorem ap_e20 (i : Int) (j : Int) : P.ap .gt [.int i, .int j] = (some (.bl (decide (j < i)))) := rfl
@[simp] theorem ap_e21 (i : Int) (j : Int) : P.ap .ge [.int i, .int j] = (some (.bl (decide (j ≤ i)))) := rfl
@[simp] theorem ap_e22 (a : D) (b : D) : P.ap .isin [a, b] = ((inD a b).map .bl) := rfl
@[simp] theorem ap_e23 (a : D) (b : D) : P.ap .notin [a, b] = ((inD a b).map fun c => .bl (!c)) := rfl
@[simp] theorem ap_e24 (a : D) : P.ap .isNone [a] = (some (.bl a.isNon)) := rfl
@[simp] theorem ap_e25 (a : D) : P.ap .notNone [a] = (some (.bl (!a.isNon))) := rfl
@[simp] theorem ap_e26 (ks : List Key) (vs : List D) (k : D) : P.ap .ix [.dct ks vs, k] = (match keyD k with
    | some k => getK (ks.zip vs) k
    | none => none) := rfl
@[simp] theorem ap_ix_tup (xs : List D) (i : Int) : P.ap .ix [.tup xs, .int i] = ixD (.tup xs) i := rfl
@[simp] theorem ap_ix_lst (xs : List D) (i : Int) : P.ap .ix [.lst xs, .int i] = ixD (.lst xs) i := rfl
@[simp] theorem ap_ix_str (xs : List Nat) (i : Int) : P.ap .ix [.str xs, .int i] = ixD (.str xs) i := rfl
@[simp] theorem ap_e27 (xs : List D) : P.ap .len [.tup xs] = (some (.int xs.length)) := rfl
@[simp] theorem ap_e28 (xs : List D) : P.ap .len [.lst xs] = (some (.int xs.length)) := rfl
@[simp] theorem ap_e29 (x : List Nat) : P.ap .len [.str x] = (some (.int x.length)) := rfl
@[simp] theorem ap_e30 (ks : List Key) (_ : List D) (us : List D) : P.ap .len [.dct ks us] = (some (.int ks.length)) := rfl
@[simp] theorem ap_e31 (a : D) (t : Ty) : P.ap (.isa t) [a] = (some (.bl (isTy t a))) := rfl
@[simp] theorem ap_e32 (i : Int) : P.ap .int [.int i] = (some (.int i)) := rfl
@[simp] theorem ap_e33 (b : Bool) : P.ap .int [.bl b] = (some (.int (if b then 1 else 0))) := rfl
@[simp] theorem ap_e34 (xs : List D) : P.ap .tuple [.lst xs] = (some (.tup xs)) := rfl
@[simp] theorem ap_e35 (xs : List D) : P.ap .tuple [.tup xs] = (some (.tup xs)) := rfl
@[simp] theorem ap_e36 (xs : List D) : P.ap .list [.lst xs] = (some (.lst xs)) := rfl
@[simp] theorem ap_e37 (xs : List D) : P.ap .list [.tup xs] = (some (.lst xs)) := rfl
@[simp] theorem ap_e38 (x : List Nat) : P.ap .ord [.str x] = (match x with
    | [c] => some (.int c)
    | _ => none) := rfl
@[simp] theorem ap_e39 (xs : List D) : P.ap .all [.lst xs] = ((boolsD xs).map fun bs => .bl (bs.all id)) := rfl
@[simp] theorem ap_e40 (xs : List D) : P.ap .any [.lst xs] = ((boolsD xs).map fun bs => .bl (bs.any id)) := rfl
@[simp] theorem ap_e41 (d : D) : P.ap .repr [d] = ((reprD d).map .str) := rfl
@[simp] theorem ap_e42 (i : Int) : P.ap .str [.int i] = (if i.natAbs.log2 < 1920 then some (.str (Str.ofString (toString i)).cps.toList) else none) := rfl
@[simp] theorem ap_e43 (b : Bool) : P.ap .str [.bl b] = (some (.str (if b then [84, 114, 117, 101] else [70, 97, 108, 115, 101]))) := rfl
@[simp] theorem ap_e44 (x : List Nat) : P.ap .str [.str x] = (some (.str x)) := rfl
@[simp] theorem ap_e45 (xs : List D) : P.ap .sorted [.lst xs] = ((sortD xs).map .lst) := rfl
@[simp] theorem ap_e46 (i : Int) (j : Int) : P.ap .min [.int i, .int j] = (some (.int (min2 i j))) := rfl
@[simp] theorem ap_e47 (i : Int) (j : Int) (k : Int) : P.ap .min [.int i, .int j, .int k] = (some (.int (min2 (min2 i j) k))) := rfl
@[simp] theorem ap_e48 (i : Int) (j : Int) : P.ap .max [.int i, .int j] = (some (.int (max2 i j))) := rfl
@[simp] theorem ap_e49 (i : Int) (j : Int) (k : Int) : P.ap .max [.int i, .int j, .int k] = (some (.int (max2 (max2 i j) k))) := rfl
@[simp] theorem ap_e50 (i : Int) : P.ap .abs [.int i] = (some (.int (if i < 0 then -i else i))) := rfl
@[simp] theorem ap_e51 (xs : List D) : P.ap .dict [.lst xs] = (if xs.length ≤ big then (pairsD xs).map fun g => .dct ((mergeD [] g).map (·.1)) ((mergeD [] g).map (·.2)) else none) := rfl
@[simp] theorem ap_e52 (ks : List Key) (vs : List D) (k : D) (d : D) : P.ap .get [.dct ks vs, k, d] = ((keyD k).map fun k => (getK (ks.zip vs) k).getD d) := rfl
@[simp] theorem ap_e53 (ks : List Key) (vs : List D) (k : D) : P.ap .get [.dct ks vs, k] = ((keyD k).map fun k => (getK (ks.zip vs) k).getD .non) := rfl
@[simp] theorem ap_e54 (xs : List D) (d : D) : P.ap .index [.lst xs, d] = (if SeqAt.shaped (toP (.lst xs)) && SeqAt.shaped (toP d) then (indexD (toP d) (toPL xs) 0).map fun j => .int j else none) := rfl
@[simp] theorem ap_e55 (x : List Nat) : P.ap .upper [.str x] = (if x.length ≤ 5592405 then some (.str (Txt.upper ⟨x.toArray⟩).cps.toList) else none
) := rfl
@[simp] theorem bindP_nm (i : Nat) (d : D) (r : List Slot) : bindP (.nm i) d r = if i < r.length then some (r.set i (.val d)) else none := by rw [bindP]
@[simp] theorem bindP_tp (ps : List Pat) (ds : List D) (r : List Slot) : bindP (.tp ps) (.tup ds) r = bindPs ps ds r := by rw [bindP]
@[simp] theorem bindPs_nil (r : List Slot) : bindPs [] [] r = some r := by rw [bindPs]
@[simp] theorem bindPs_cons (p : Pat) (ps : List Pat) (d : D) (ds : List D) (r : List Slot) : bindPs (p :: ps) (d :: ds) r = (bindP p d r).bind fun r1 => bindPs ps ds r1 := by rw [bindPs]
@[simp] theorem putS_o (i : Nat) (xs : List D) (r : List Slot) : putS true i (.lst xs) r = if i < r.length then some (r.set i (.own xs)) else none := rfl
@[simp] theorem putS_v (i : Nat) (d : D) (r : List Slot) : putS false i d r = if i < r.length then some (r.set i (.val d)) else none := rfl
theorem take_g (g : List Gd) : g.take g.length = g := List.take_length
/-- a loop by its invariant -/
theorem loop_inv {b : D → List Slot → Option (List Slot)} {f : Sx → SRes} (P : Nat → Sx → Prop) : ∀ (xs : List D) (k : Nat) (s : Sx), P k s → (∀ i x s, xs[i]? = some x → P (k + i) s → ∃ r1 s', b x s.r = some r1 ∧ (f ⟨r1, s.g⟩ = .nx s' ∨ f ⟨r1, s.g⟩ = .ct s') ∧ P (k + i + 1) s') →
    ∃ s', loopS b f xs s = .nx s' ∧ P (k + xs.length) s'
  | [], k, s, h, _ => ⟨s, rfl, h⟩
  | x :: xs, k, s, h, step => by
    obtain ⟨r1, s', h1, h2, h3⟩ := step 0 x s rfl h
    obtain ⟨s2, e, p⟩ := loop_inv (b := b) (f := f) P xs (k + 1) s' h3 fun i y t hy ht => by
      have := step (i + 1) y t (by simpa using hy) (by rw [show k + (i + 1) = k + 1 + i by omega]; exact ht)
      rw [show k + 1 + i + 1 = k + (i + 1) + 1 by omega]
      exact this
    refine ⟨s2, ?_, by rw [List.length_cons, show k + (xs.length + 1) = k + 1 + xs.length by omega]; exact p⟩
    simp only [loopS, h1]
    rcases h2 with h2 | h2 <;> rw [h2] <;> exact e
/-- a comprehension over one name, whose parts leave all as it is -/
theorem comp_one {T : Tbl} {elt : E} {i : Nat} {it : ItK} {src cs : List E} {st s1 : Sx} {ds xs : List D} (keep : D → Bool) (f : D → D) (h1 : evs T src st = .ok ds s1) (h2 : it.get ds = some xs) (hi : i < s1.r.length)
    (hc : ∀ x ∈ xs, evt T cs ⟨s1.r.set i (.val x), s1.g⟩ = .ok (keep x) ⟨s1.r.set i (.val x), s1.g⟩) (he : ∀ x ∈ xs, keep x = true → ev T elt ⟨s1.r.set i (.val x), s1.g⟩ = .ok (f x) ⟨s1.r.set i (.val x), s1.g⟩)
    (hl : xs.length ≤ big) (hb : s1.r[i]? = some .none ∨ ∃ d, s1.r[i]? = some (.val d)) : ev T (.comp elt (.nm i) it src cs [i]) st = .ok (.lst ((xs.filter keep).map f)) s1 := by
  have key : ∀ (ys : List D) (s : Sx), (∀ x ∈ ys, x ∈ xs) → s.g = s1.g → (∀ z, s.r.set i z = s1.r.set i z) → s.r.length = s1.r.length → ∃ s2, compL (bindP (.nm i)) (evt T cs) (ev T elt) [i] ys s = .ok ((ys.filter keep).map f) s2 ∧ s2.g = s1.g ∧ (∀ z, s2.r.set i z = s1.r.set i z) := by
    intro ys
    induction ys with
    | nil => intro s _ h3 h4 _; exact ⟨s, rfl, h3, h4⟩
    | cons y ys ih =>
      intro s hm h3 h4 h5
      have hy : y ∈ xs := hm y (by simp)
      have b1 : bindP (.nm i) y (wipeR s.r [i]) = some (s1.r.set i (.val y)) := by
        have w : wipeR s.r [i] = s.r.set i .none := rfl
        have l : i < (s.r.set i Slot.none).length := by rw [List.length_set, h5]; exact hi
        rw [w, bindP, if_pos l, List.set_set, h4]
      simp only [compL, b1, h3]
      rw [hc y hy]
      simp only [bind_ok]
      obtain ⟨s2, e, g2, r2⟩ := ih ⟨s1.r.set i (.val y), s1.g⟩ (fun x hx => hm x (List.mem_cons_of_mem _ hx)) rfl (fun z => by simp [List.set_set]) (by simp)
      cases hk : keep y with
      | true =>
        rw [if_pos rfl, he y hy hk]
        simp only [bind_ok]
        rw [e]
        exact ⟨s2, by simp [hk], g2, r2⟩
      | false =>
        rw [if_neg (by decide), e]
        exact ⟨s2, by simp [hk], g2, r2⟩
  obtain ⟨s2, e, g2, r2⟩ := key xs s1 (fun _ h => h) rfl (fun _ => rfl) rfl
  rw [ev, h1]
  simp only [bind_ok, h2, e]
  rw [if_pos (by
    rw [List.length_map]
    exact Nat.le_trans (List.length_filter_le _ _) hl)]
  congr 1
  have : backR s1.r [i] s2.r = s1.r := by
    simp only [backR]
    rw [r2]
    rcases hb with hb | ⟨d, hb⟩
    · rw [hb]
      refine List.ext_getElem? fun j => ?_
      by_cases hj : i = j
      · subst hj; rw [List.getElem?_set_self hi, hb]
      · rw [List.getElem?_set_ne hj]
    · rw [hb]
      refine List.ext_getElem? fun j => ?_
      by_cases hj : i = j
      · subst hj; rw [List.getElem?_set_self hi, hb]
      · rw [List.getElem?_set_ne hj]
  rw [this, g2]
end Rf

set_option Elab.async false
set_option linter.all false
set_option maxRecDepth 100000
set_option maxHeartbeats 4000000
namespace Rf
open PySem PySem.Spec PyProof.Rows L2

/-! ### how long a repr is at most -/
mutual
def wD : D → Nat
  | .non => 4
  | .bl _ => 5
  | .int _ => 1921
  | .str x => 10 * x.length + 2
  | .tup xs => wL xs + 2 * xs.length + 3
  | .lst xs => wL xs + 2 * xs.length + 3
  | .dct _ _ => 0
def wL : List D → Nat
  | [] => 0
  | x :: xs => wD x + wL xs
end
/-- data that may be shown: texts of characters, ints of less than 1920 bits, no dicts -/
def fine (d : D) : Bool := (toP d).canLay0 && (toP d).showable
mutual
theorem shown_len : ∀ d : D, (toP d).canLay0 = true → (toP d).showable = true → (toP d).shown.length ≤ wD d
  | .non, _, _ => by simp only [toP, PyData.shown, wD]; decide
  | .bl b, _, _ => by cases b <;> simp only [toP, PyData.shown, wD] <;> decide
  | .int i, _, h => by
    simp only [toP, PyData.showable, decide_eq_true_eq] at h
    simp only [toP, PyData.shown, wD]
    exact PyProof.Rows.int_text_len_1921 h
  | .str x, h, _ => by
    simp only [toP, PyData.canLay0, PyData.strOk, Array.all_eq_true', List.mem_toArray, decide_eq_true_eq] at h
    simp only [toP, PyData.shown, wD]
    have := PySem.StrLaws.reprText_len ⟨x.toArray⟩ (fun c hc => Nat.lt_of_lt_of_le (h c (by simpa using hc)) (by decide))
    rw [str_len] at this
    exact this
  | .tup xs, h, h2 => by
    simp only [toP, PyData.canLay0, PyData.showable] at h h2
    simp only [toP, PyData.shown, wD]
    obtain ⟨q1, q2⟩ := shownL_len xs h h2
    have := tupleText_len_le (PyData.shownAll (toPL xs))
    omega
  | .lst xs, h, h2 => by
    simp only [toP, PyData.canLay0, PyData.showable] at h h2
    simp only [toP, PyData.shown, wD]
    obtain ⟨q1, q2⟩ := shownL_len xs h h2
    have := listText_len_le (PyData.shownAll (toPL xs))
    omega
  | .dct _ _, h, _ => by simp [toP, PyData.canLay0] at h
theorem shownL_len : ∀ xs : List D, PyData.canLayAll0 (toPL xs) = true → PyData.showableAll (toPL xs) = true → ((PyData.shownAll (toPL xs)).map (·.length)).sum ≤ wL xs ∧ (PyData.shownAll (toPL xs)).length = xs.length
  | [], _, _ => by simp [toPL, PyData.shownAll, wL]
  | x :: xs, h, h2 => by
    simp only [toPL, PyData.canLayAll0, PyData.showableAll, Bool.and_eq_true] at h h2
    obtain ⟨q1, q2⟩ := shownL_len xs h.2 h2.2
    have := shown_len x h.1 h2.1
    simp only [toPL, PyData.shownAll, List.map_cons, List.sum_cons, List.length_cons, wL, q2]
    exact ⟨by omega, trivial⟩
end
theorem repr_some {d : D} (h1 : (toP d).canLay0 = true) (h2 : (toP d).showable = true) (h3 : (toP d).depth ≤ 30) (h4 : wD d ≤ big) : ∃ r, reprD d = some r := by
  unfold reprD
  have := shown_len d h1 h2
  rw [if_pos (by simp [h1, h2, h3]; omega)]
  exact ⟨_, rfl⟩
theorem eqD_str (x y : List Nat) : eqD (.str x) (.str y) = some (decide (x = y)) := rfl
theorem eqD_int (x y : Int) : eqD (.int x) (.int y) = some (decide (x = y)) := rfl
end Rf

set_option Elab.async false
set_option linter.all false
set_option maxRecDepth 100000
set_option maxHeartbeats 4000000
namespace Rf
open PySem PySem.Spec PyProof.Rows L2

@[simp] theorem ix_t0 (a : D) (r : List D) : ixD (.tup (a :: r)) 0 = some a := by simp [ixD, atI, ixN]
@[simp] theorem ix_t1 (a b : D) (r : List D) : ixD (.tup (a :: b :: r)) 1 = some b := by
  have : ixN (a :: b :: r).length 1 = some 1 := by unfold ixN; simp; omega
  simp only [ixD, atI, this]; rfl
@[simp] theorem ix_t2 (a b c : D) (r : List D) : ixD (.tup (a :: b :: c :: r)) 2 = some c := by
  have : ixN (a :: b :: c :: r).length 2 = some 2 := by unfold ixN; simp; omega
  simp only [ixD, atI, this]; rfl
@[simp] theorem ix_t3 (a b c d : D) (r : List D) : ixD (.tup (a :: b :: c :: d :: r)) 3 = some d := by
  have : ixN (a :: b :: c :: d :: r).length 3 = some 3 := by unfold ixN; simp; omega
  simp only [ixD, atI, this]; rfl
theorem ix_nat {xs : List D} {i : Nat} {d : D} (h : xs[i]? = some d) : ixD (.tup xs) (i : Int) = some d := by
  have hi := (List.getElem?_eq_some_iff.mp h).1
  have : ixN xs.length (i : Int) = some i := by unfold ixN; simp; omega
  simp only [ixD, atI, this]
  exact h
theorem ixl_nat {xs : List D} {i : Nat} {d : D} (h : xs[i]? = some d) : ixD (.lst xs) (i : Int) = some d := by
  have hi := (List.getElem?_eq_some_iff.mp h).1
  have : ixN xs.length (i : Int) = some i := by unfold ixN; simp; omega
  simp only [ixD, atI, this]
  exact h
/-- one by one -/
inductive F2 {α β : Type} (R : α → β → Prop) : List α → List β → Prop where
  | nil : F2 R [] []
  | cons {x : α} {y : β} {xs : List α} {ys : List β} : R x y → F2 R xs ys → F2 R (x :: xs) (y :: ys)
theorem F2.length_eq {α β : Type} {R : α → β → Prop} : ∀ {xs : List α} {ys : List β}, F2 R xs ys → xs.length = ys.length
  | _, _, .nil => rfl
  | _, _, .cons _ t => by simp [t.length_eq]
theorem F2.all {α β : Type} {R : α → β → Prop} {S : β → Prop} (h : ∀ x y, R x y → S y) : ∀ {xs : List α} {ys : List β}, F2 R xs ys → ∀ y ∈ ys, S y
  | _, _, .nil, y, hy => by simp at hy
  | _, _, .cons r t, y, hy => by
    rcases List.mem_cons.mp hy with rfl | hy
    · exact h _ _ r
    · exact F2.all h t y hy
/-! ### comprehensions over any pattern -/
def okSlots (r : List Slot) (ws : List Nat) : Prop := ∀ j ∈ ws, r[j]? = none ∨ r[j]? = some .none ∨ (∃ d, r[j]? = some (.val d)) ∨ ∃ k, r[j]? = some (.glb k)
theorem backR_ok {r0 r : List Slot} {ws : List Nat} (h : okSlots r0 ws) (e : wipeR r ws = wipeR r0 ws) : backR r0 ws r = r0 := by
  have hl : r.length = r0.length := by
    have := congrArg List.length e
    rwa [wipeR_len, wipeR_len] at this
  have out : ∀ (us : List Nat) (j : Nat), j ∉ us → (backR r0 us r)[j]? = r[j]? := by
    intro us
    induction us with
    | nil => intro j _; rfl
    | cons u us ih =>
      intro j hj
      simp only [List.mem_cons, not_or] at hj
      simp only [backR]
      rw [List.getElem?_set_ne (Ne.symm hj.1)]
      exact ih j hj.2
  have len : ∀ us : List Nat, (backR r0 us r).length = r.length := by
    intro us
    induction us with
    | nil => rfl
    | cons u us ih => simp only [backR, List.length_set, ih]
  have ins : ∀ (us : List Nat) (j : Nat), j ∈ us → (∀ u ∈ us, u ∈ ws) → j < r.length → (backR r0 us r)[j]? = r0[j]? := by
    intro us
    induction us with
    | nil => intro j h; simp at h
    | cons u us ih =>
      intro j hj hs hlt
      simp only [backR]
      by_cases z : u = j
      · subst z
        rw [List.getElem?_set_self (by rw [len]; exact hlt)]
        rcases h u (hs u (by simp)) with q | q | ⟨d, q⟩ | ⟨k, q⟩
        · rw [List.getElem?_eq_none_iff] at q; omega
        · rw [q]
        · rw [q]
        · rw [q]
      · rw [List.getElem?_set_ne z]
        rcases List.mem_cons.mp hj with q | q
        · exact absurd q.symm z
        · exact ih j q (fun v hv => hs v (List.mem_cons_of_mem _ hv)) hlt
  refine List.ext_getElem? fun j => ?_
  by_cases hj : j ∈ ws
  · by_cases hlt : j < r.length
    · exact ins ws j hj (fun _ h => h) hlt
    · rw [List.getElem?_eq_none (by rw [len]; omega), List.getElem?_eq_none (by omega)]
  · rw [out ws j hj]
    have := congrArg (fun l => l[j]?) e
    simp only [wipeR_out hj] at this
    exact this
theorem compL_pure {b : D → List Slot → Option (List Slot)} {c : Sx → Res Bool} {e : Sx → Res D} {ws : List Nat} (keep : D → Bool) (f : D → D) {r0 : List Slot} {g : List Gd} : ∀ (xs : List D) (s : Sx), s.g = g → wipeR s.r ws = r0 →
    (∀ x ∈ xs, ∃ r1, b x r0 = some r1 ∧ wipeR r1 ws = r0 ∧ c ⟨r1, g⟩ = .ok (keep x) ⟨r1, g⟩ ∧ (keep x = true → e ⟨r1, g⟩ = .ok (f x) ⟨r1, g⟩)) →
    ∃ s2, compL b c e ws xs s = .ok ((xs.filter keep).map f) s2 ∧ s2.g = g ∧ wipeR s2.r ws = r0
  | [], s, hg, hr, _ => ⟨s, rfl, hg, hr⟩
  | x :: xs, s, hg, hr, h => by
    obtain ⟨r1, h1, h2, h3, h4⟩ := h x (by simp)
    obtain ⟨s2, e2, g2, w2⟩ := compL_pure keep f (r0 := r0) (g := g) xs ⟨r1, g⟩ rfl h2 fun y hy => h y (List.mem_cons_of_mem _ hy)
    refine ⟨s2, ?_, g2, w2⟩
    simp only [compL, hr, h1, hg, h3, bind_ok]
    cases hk : keep x with
    | true => rw [if_pos rfl, h4 hk, bind_ok, e2]; simp [hk]
    | false => rw [if_neg (by decide), e2]; simp [hk]
theorem comp_pure {T : Tbl} {elt : E} {pt : Pat} {it : ItK} {src cs : List E} {ws : List Nat} {st s1 : Sx} {ds xs : List D} (keep : D → Bool) (f : D → D) (h1 : evs T src st = .ok ds s1) (h2 : it.get ds = some xs) (hl : xs.length ≤ big) (ho : okSlots s1.r ws) {r0 : List Slot} (hr0 : wipeR s1.r ws = r0)
    (h : ∀ x ∈ xs, ∃ r1, bindP pt x r0 = some r1 ∧ wipeR r1 ws = r0 ∧ evt T cs ⟨r1, s1.g⟩ = .ok (keep x) ⟨r1, s1.g⟩ ∧ (keep x = true → ev T elt ⟨r1, s1.g⟩ = .ok (f x) ⟨r1, s1.g⟩)) : ev T (.comp elt pt it src cs ws) st = .ok (.lst ((xs.filter keep).map f)) s1 := by
  obtain ⟨s2, e, g2, w2⟩ := compL_pure keep f xs s1 rfl hr0 h
  rw [ev_comp, h1, bind_ok]
  simp only [h2, e]
  rw [if_pos (by rw [List.length_map]; exact Nat.le_trans (List.length_filter_le _ _) hl), backR_ok ho (w2.trans hr0.symm), g2]
/-- without a test -/
theorem comp_map {T : Tbl} {elt : E} {pt : Pat} {it : ItK} {src : List E} {ws : List Nat} {st s1 : Sx} {ds xs : List D} (f : D → D) (h1 : evs T src st = .ok ds s1) (h2 : it.get ds = some xs) (hl : xs.length ≤ big) (ho : okSlots s1.r ws) {r0 : List Slot} (hr0 : wipeR s1.r ws = r0)
    (h : ∀ x ∈ xs, ∃ r1, bindP pt x r0 = some r1 ∧ wipeR r1 ws = r0 ∧ ev T elt ⟨r1, s1.g⟩ = .ok (f x) ⟨r1, s1.g⟩) : ev T (.comp elt pt it src [] ws) st = .ok (.lst (xs.map f)) s1 := by
  have := comp_pure (cs := []) (fun _ => true) f h1 h2 hl ho hr0 fun x hx => by
    obtain ⟨r1, a, b, c⟩ := h x hx
    exact ⟨r1, a, b, by simp, fun _ => c⟩
  rwa [List.filter_eq_self.mpr (fun _ _ => rfl)] at this
/-- whose steps may draw: what is made has R, the shared dicts keep G -/
theorem compL_inv {b : D → List Slot → Option (List Slot)} {e : Sx → Res D} {ws : List Nat} {T : Tbl} (R : D → D → Prop) (G : List Gd → Prop) {r0 : List Slot} : ∀ (xs : List D) (s : Sx), G s.g → wipeR s.r ws = r0 →
    (∀ x ∈ xs, ∀ g, G g → ∃ r1 d r2 g', b x r0 = some r1 ∧ e ⟨r1, g⟩ = .ok d ⟨r2, g'⟩ ∧ wipeR r2 ws = r0 ∧ R x d ∧ G g') →
    ∃ ds s2, compL b (evt T []) e ws xs s = .ok ds s2 ∧ G s2.g ∧ wipeR s2.r ws = r0 ∧ F2 R xs ds
  | [], s, hg, hr, _ => ⟨[], s, rfl, hg, hr, .nil⟩
  | x :: xs, s, hg, hr, h => by
    obtain ⟨r1, d, r2, g', h1, h2, h3, h4, h5⟩ := h x (by simp) s.g hg
    obtain ⟨ds, s2, e2, g2, w2, F⟩ := compL_inv (T := T) R G (r0 := r0) xs ⟨r2, g'⟩ h5 h3 fun y hy => h y (List.mem_cons_of_mem _ hy)
    refine ⟨d :: ds, s2, ?_, g2, w2, .cons h4 F⟩
    simp only [compL, hr, h1, evt_nil, bind_ok, if_true, h2, e2]
theorem comp_inv {T : Tbl} {elt : E} {pt : Pat} {it : ItK} {src : List E} {ws : List Nat} {st s1 : Sx} {ds xs : List D} (R : D → D → Prop) (G : List Gd → Prop) (h1 : evs T src st = .ok ds s1) (h2 : it.get ds = some xs) (hl : xs.length ≤ big) (ho : okSlots s1.r ws) {r0 : List Slot} (hr0 : wipeR s1.r ws = r0) (hg : G s1.g)
    (h : ∀ x ∈ xs, ∀ g, G g → ∃ r1 d r2 g', bindP pt x r0 = some r1 ∧ ev T elt ⟨r1, g⟩ = .ok d ⟨r2, g'⟩ ∧ wipeR r2 ws = r0 ∧ R x d ∧ G g') : ∃ rs g', ev T (.comp elt pt it src [] ws) st = .ok (.lst rs) ⟨s1.r, g'⟩ ∧ G g' ∧ F2 R xs rs := by
  obtain ⟨rs, s2, e, g2, w2, F⟩ := compL_inv (T := T) R G xs s1 hg hr0 h
  refine ⟨rs, s2.g, ?_, g2, F⟩
  rw [ev_comp, h1, bind_ok]
  simp only [h2, e]
  rw [if_pos (by rw [← F.length_eq]; exact hl), backR_ok ho (w2.trans hr0.symm)]
/-- a dict comprehension -/
theorem compD_pure {b : D → List Slot → Option (List Slot)} {ek ew : Sx → Res D} {ws : List Nat} {T : Tbl} (fk : D → Key) (fv : D → D) {r0 : List Slot} {g : List Gd} : ∀ (xs : List D) (acc : Gd) (s : Sx), s.g = g → wipeR s.r ws = r0 → acc.length + xs.length ≤ big →
    (∀ x ∈ xs, ∃ r1 k, b x r0 = some r1 ∧ wipeR r1 ws = r0 ∧ ek ⟨r1, g⟩ = .ok k ⟨r1, g⟩ ∧ keyD k = some (fk x) ∧ ew ⟨r1, g⟩ = .ok (fv x) ⟨r1, g⟩) →
    ∃ s2, compD b (evt T []) ek ew ws xs acc s = .ok (xs.foldl (fun a x => setK a (fk x) (fv x)) acc) s2 ∧ s2.g = g ∧ wipeR s2.r ws = r0
  | [], acc, s, hg, hr, _, _ => ⟨s, rfl, hg, hr⟩
  | x :: xs, acc, s, hg, hr, hl, h => by
    obtain ⟨r1, k, h1, h2, h3, h4, h5⟩ := h x (by simp)
    have hlen : (setK acc (fk x) (fv x)).length ≤ acc.length + 1 := by
      unfold setK
      split
      · rw [List.length_map]; omega
      · simp
    obtain ⟨s2, e2, g2, w2⟩ := compD_pure (T := T) fk fv (r0 := r0) (g := g) xs (setK acc (fk x) (fv x)) ⟨r1, g⟩ rfl h2 (by simp only [List.length_cons] at hl; omega) fun y hy => h y (List.mem_cons_of_mem _ hy)
    refine ⟨s2, ?_, g2, w2⟩
    simp only [compD, hr, h1, hg, evt_nil, bind_ok, if_true, h3, h5, h4]
    rw [if_pos (by simp only [List.length_cons] at hl; omega), e2]
    rfl
theorem dcomp_pure {T : Tbl} {k v : E} {pt : Pat} {it : ItK} {src : List E} {ws : List Nat} {st s1 : Sx} {ds xs : List D} (fk : D → Key) (fv : D → D) (h1 : evs T src st = .ok ds s1) (h2 : it.get ds = some xs) (hl : xs.length ≤ big) (ho : okSlots s1.r ws) {r0 : List Slot} (hr0 : wipeR s1.r ws = r0)
    (h : ∀ x ∈ xs, ∃ r1 kk, bindP pt x r0 = some r1 ∧ wipeR r1 ws = r0 ∧ ev T k ⟨r1, s1.g⟩ = .ok kk ⟨r1, s1.g⟩ ∧ keyD kk = some (fk x) ∧ ev T v ⟨r1, s1.g⟩ = .ok (fv x) ⟨r1, s1.g⟩) :
    ev T (.dcomp k v pt it src [] ws) st = .ok (.dct ((xs.foldl (fun a x => setK a (fk x) (fv x)) []).map (·.1)) ((xs.foldl (fun a x => setK a (fk x) (fv x)) []).map (·.2))) s1 := by
  obtain ⟨s2, e, g2, w2⟩ := compD_pure (T := T) fk fv xs [] s1 rfl hr0 (by simpa using hl) h
  rw [ev_dcomp, h1, bind_ok]
  simp only [h2, e]
  rw [backR_ok ho (w2.trans hr0.symm), g2]
/-- keys that differ come one behind the other -/
theorem setK_new {kd : Gd} {k : Key} {v : D} (h : k ∉ kd.map (·.1)) : setK kd k v = kd ++ [(k, v)] := by
  unfold setK
  rw [if_neg]
  intro z
  rw [List.any_eq_true] at z
  obtain ⟨y, hy, e⟩ := z
  simp only [decide_eq_true_eq] at e
  exact h (by rw [← e]; exact List.mem_map_of_mem hy)
theorem fold_setK {α : Type} (fk : α → Key) (fv : α → D) : ∀ (xs : List α) (acc : Gd), (acc.map (·.1) ++ xs.map fk).Nodup → xs.foldl (fun a x => setK a (fk x) (fv x)) acc = acc ++ xs.map fun x => (fk x, fv x)
  | [], acc, _ => by simp
  | x :: xs, acc, nd => by
    have hn : fk x ∉ acc.map (·.1) := fun z => by
      rw [List.nodup_append] at nd
      exact nd.2.2 _ z (fk x) (by simp) rfl
    rw [List.foldl_cons, setK_new hn, fold_setK fk fv xs _ (by simpa using nd)]
    simp
/-- two clauses -/
theorem compO_pure {b : D → List Slot → Option (List Slot)} {f : Sx → Res (List D)} {ws : List Nat} {T : Tbl} (h' : D → List D) {r0 : List Slot} {g : List Gd} : ∀ (xs : List D) (s : Sx), s.g = g → wipeR s.r ws = r0 →
    (∀ x ∈ xs, ∃ r1 r2, b x r0 = some r1 ∧ f ⟨r1, g⟩ = .ok (h' x) ⟨r2, g⟩ ∧ wipeR r2 ws = r0) →
    ∃ s2, compO b (evt T []) f ws xs s = .ok (xs.flatMap h') s2 ∧ s2.g = g ∧ wipeR s2.r ws = r0
  | [], s, hg, hr, _ => ⟨s, rfl, hg, hr⟩
  | x :: xs, s, hg, hr, h => by
    obtain ⟨r1, r2, h1, h2, h3⟩ := h x (by simp)
    obtain ⟨s2, e2, g2, w2⟩ := compO_pure (T := T) h' (r0 := r0) (g := g) xs ⟨r2, g⟩ rfl h3 fun y hy => h y (List.mem_cons_of_mem _ hy)
    refine ⟨s2, ?_, g2, w2⟩
    simp only [compO, hr, h1, hg, evt_nil, bind_ok, if_true, h2, e2, List.flatMap_cons]
theorem comp2_pure {T : Tbl} {elt : E} {p1 p2 : Pat} {i1 i2 : ItK} {src1 src2 c2 : List E} {ws ws2 : List Nat} {st s1 : Sx} {ds xs : List D} (ys : D → List D) (keep : D → D → Bool) (f : D → D → D) (h1 : evs T src1 st = .ok ds s1) (h2 : i1.get ds = some xs) (hl : (xs.flatMap fun x => ((ys x).filter (keep x)).map (f x)).length ≤ big) (ho : okSlots s1.r ws) (hs : ∀ i ∈ ws2, i ∈ ws) {r0 : List Slot} (hr0 : wipeR s1.r ws = r0)
    (h : ∀ x ∈ xs, ∃ r1 es rx, bindP p1 x r0 = some r1 ∧ evs T src2 ⟨r1, s1.g⟩ = .ok es ⟨r1, s1.g⟩ ∧ i2.get es = some (ys x) ∧ wipeR r1 ws2 = rx ∧ wipeR rx ws = r0 ∧
      ∀ y ∈ ys x, ∃ r2, bindP p2 y rx = some r2 ∧ wipeR r2 ws2 = rx ∧ evt T c2 ⟨r2, s1.g⟩ = .ok (keep x y) ⟨r2, s1.g⟩ ∧ (keep x y = true → ev T elt ⟨r2, s1.g⟩ = .ok (f x y) ⟨r2, s1.g⟩)) :
    ev T (.comp2 elt p1 i1 src1 [] p2 i2 src2 c2 ws ws2) st = .ok (.lst (xs.flatMap fun x => ((ys x).filter (keep x)).map (f x))) s1 := by
  rw [ev_comp2, h1, bind_ok]
  simp only [h2]
  obtain ⟨s2, e, g2, w2⟩ := compO_pure (b := bindP p1) (T := T) (f := inner2 T elt p2 i2 src2 c2 ws2) (ws := ws) (fun x => ((ys x).filter (keep x)).map (f x)) (r0 := r0) (g := s1.g) xs s1 rfl hr0 fun x hx => by
    obtain ⟨r1, es, rx, a1, a2, a3, a4, a5, a6⟩ := h x hx
    obtain ⟨s3, e3, g3, w3⟩ := compL_pure (keep x) (f x) (r0 := rx) (g := s1.g) (ys x) ⟨r1, s1.g⟩ rfl a4 a6
    refine ⟨r1, s3.r, a1, ?_, ?_⟩
    · simp only [inner2, a2, bind_ok, a3, e3]
      rw [← g3]
    · rw [← wipeR_sub hs, w3, a5]
  rw [e]
  simp only
  rw [if_pos hl, backR_ok ho (w2.trans hr0.symm), g2]
end Rf

set_option Elab.async false
set_option linter.all false
set_option maxRecDepth 100000
set_option maxHeartbeats 4000000
namespace Rf
open PySem PySem.Spec PyProof.Rows L2

/-! ### books as data -/
abbrev Nm := List Nat
inductive Rw where
  | mv (a b : Nm) (n : Int) | ct (a : Nm) (n : Int)
structure Bk where
  ps : List (Nm × Int × Int)
  cs : List (Nm × Nm × Int)
  sl : Option Int
  rs : List Rw
abbrev wM : Nm := [109, 111, 118, 101]
abbrev wC : Nm := [99, 111, 117, 110, 116]
abbrev wO : Nm := [111, 117, 116]
def slD : Option Int → D
  | none => .non
  | some n => .int n
def pD (p : Nm × Int × Int) : D := .tup [.str p.1, .int p.2.1, .int p.2.2]
def cD (c : Nm × Nm × Int) : D := .tup [.str c.1, .str c.2.1, .int c.2.2]
def rD : Rw → D
  | .mv a b n => .tup [.str wM, .str a, .str b, .int n]
  | .ct a n => .tup [.str wC, .str a, .int n]
def bD (b : Bk) : D := .tup [.tup (b.ps.map pD), .tup (b.cs.map cD), slD b.sl, .tup (b.rs.map rD)]
def chg : Rw → Nm → Int
  | .ct _ _, _ => 0
  | .mv a b n, p => n * ((if b = p then 1 else 0) - (if a = p then 1 else 0))
def Bk.ns (b : Bk) : List Nm := b.ps.map (·.1)
def lowC (c : Nat) : Bool := decide (97 ≤ c) && decide (c ≤ 122)
def okNm (x : Nm) : Prop := 1 ≤ x.length ∧ x.length ≤ 8 ∧ x.all lowC = true
structure WB (b : Bk) : Prop where
  nd : b.ns.Nodup
  nm : ∀ p ∈ b.ps, okNm p.1 ∧ p.1 ≠ wO
  ce : ∀ c ∈ b.cs, (c.1 = wO ∨ c.1 ∈ b.ns) ∧ (c.2.1 = wO ∨ c.2.1 ∈ b.ns)
  rc : ∀ a n, Rw.ct a n ∈ b.rs → a ∈ b.ns
  zp : b.ps.length ≤ 10
  zc : b.cs.length ≤ 20
  zr : b.rs.length ≤ 50
theorem if_le (p q : Prop) [Decidable p] [Decidable q] : ((if p then (1 : Int) else 0) - (if q then 1 else 0)).natAbs < 18446744073709551616 := by
  split <;> split <;> decide
theorem low_code {c : Nat} (h : lowC c = true) : c < 123 := by
  simp [lowC] at h; omega
theorem nm_lay {x : Nm} (h : x.all lowC = true) : (toP (.str x)).canLay0 = true := by
  simp only [toP, PyData.canLay0, PyData.strOk, Array.all_eq_true', List.mem_toArray, decide_eq_true_eq]
  intro c hc
  have := low_code (List.all_eq_true.mp h c hc)
  omega
theorem nm_shaped {x : Nm} (h : x.all lowC = true) : SeqAt.shaped (toP (.str x)) = true := by
  have := nm_lay h
  simp only [toP] at this ⊢
  simp [SeqAt.shaped, this, PyData.depth]
theorem nms_shaped : ∀ {xs : List Nm}, (∀ x ∈ xs, x.all lowC = true) → PyData.canLayAll0 (toPL (xs.map .str)) = true ∧ PyData.depthAll (toPL (xs.map D.str)) = 0
  | [], _ => by simp [toPL, PyData.canLayAll0, PyData.depthAll]
  | x :: xs, h => by
    obtain ⟨h1, h2⟩ := nms_shaped fun y hy => h y (List.mem_cons_of_mem _ hy)
    have := nm_lay (h x (by simp))
    simp only [toP] at this
    simp [toPL, toP, PyData.canLayAll0, PyData.depthAll, PyData.depth, h1, h2, this]
theorem nms_lst {xs : List Nm} (h : ∀ x ∈ xs, x.all lowC = true) : SeqAt.shaped (toP (.lst (xs.map .str))) = true := by
  obtain ⟨h1, h2⟩ := nms_shaped h
  simp [SeqAt.shaped, toP, PyData.canLay0, PyData.depth, h1, h2]
theorem any_str (x : Nm) : ∀ xs : List Nm, ((toPL (xs.map D.str)).any fun z => PyData.eqv z (toP (.str x))) = decide (x ∈ xs)
  | [] => by simp [toPL]
  | y :: xs => by
    have ih := any_str x xs
    simp only [toP] at ih
    simp only [List.map_cons, toPL, List.any_cons, toP, PyData.eqv, List.mem_cons, ih]
    by_cases z : y = x
    · subst z; simp
    · have z' : ¬ x = y := fun e => z e.symm
      have : ((⟨y.toArray⟩ : Str) == (⟨x.toArray⟩ : Str)) = false := by
        rw [beq_eq_false_iff_ne]
        intro e
        exact z (by simpa using congrArg (fun s : Str => s.cps.toList) e)
      simp [this, z']
theorem in_names {x : Nm} {xs : List Nm} (h1 : x.all lowC = true) (h : ∀ x ∈ xs, x.all lowC = true) : inD (.str x) (.lst (xs.map .str)) = some (decide (x ∈ xs)) := by
  show (if SeqAt.shaped (toP (.str x)) && SeqAt.shaped (toP (.lst (xs.map .str))) then some _ else none) = _
  rw [nm_shaped h1, nms_lst h, if_pos (by decide), any_str]
theorem zip_map {α : Type} (f h : α → D) : ∀ l : List α, zipD (l.map f) (l.map h) = l.map fun x => .tup [f x, h x]
  | [] => rfl
  | x :: l => by simp [zipD, zip_map f h l]
theorem index_str (x : Nm) : ∀ (xs : List Nm) (k j : Nat), xs[j]? = some x → (∀ i < j, xs[i]? ≠ some x) → indexD (toP (.str x)) (toPL (xs.map D.str)) k = some (k + j)
  | [], k, j, h, _ => by simp at h
  | y :: xs, k, 0, h, _ => by
    simp at h
    subst h
    simp [toPL, indexD, toP, PyData.eqv]
  | y :: xs, k, j + 1, h, hn => by
    have z : y ≠ x := fun e => hn 0 (by omega) (by simp [e])
    have e : ((⟨y.toArray⟩ : Str) == (⟨x.toArray⟩ : Str)) = false := by
      rw [beq_eq_false_iff_ne]
      intro e
      exact z (by simpa using congrArg (fun s : Str => s.cps.toList) e)
    have ih := index_str x xs (k + 1) j (by simpa using h) fun i hi => by
      have := hn (i + 1) (by omega)
      simpa using this
    simp only [List.map_cons, toPL, indexD, toP, PyData.eqv, e]
    simp only [toP] at ih
    rw [if_neg (by decide), ih]
    congr 1
    omega
/-! ### levels as functions of the names -/
def hT (b : Bk) (h : Nm → Int) : D := .tup (b.ps.map fun p => .int (h p.1))
theorem at_fun {ns : List Nm} : ∀ {ls : List Int}, ns.Nodup → ls.length = ns.length → ∃ h : Nm → Int, ns.map h = ls := by
  induction ns with
  | nil => intro ls _ hl; exact ⟨fun _ => 0, by cases ls with | nil => rfl | cons a b => simp at hl⟩
  | cons n ns ih =>
    intro ls nd hl
    cases ls with
    | nil => simp at hl
    | cons l ls =>
      obtain ⟨h, e⟩ := ih (List.nodup_cons.mp nd).2 (by simpa using hl)
      refine ⟨fun x => if x = n then l else h x, ?_⟩
      simp only [List.map_cons, if_pos]
      congr 1
      rw [← e]
      refine List.map_congr_left fun x hx => ?_
      rw [if_neg]
      intro z
      subst z
      exact (List.nodup_cons.mp nd).1 hx
def iT (l : List Int) : D := .tup (l.map .int)
def nk (n : Nm) : Key := .inr ⟨n.toArray⟩
theorem nk_inj {a b : Nm} : nk a = nk b ↔ a = b := by
  constructor
  · intro h
    have h : (⟨a.toArray⟩ : Str) = ⟨b.toArray⟩ := by simpa [nk] using h
    simpa using congrArg (fun s : Str => s.cps.toList) h
  · rintro rfl; rfl
def dk (ns : List Nm) (h : Nm → Int) : Gd := ns.map fun n => (nk n, .int (h n))
theorem dk_get {h : Nm → Int} {n : Nm} : ∀ {ns : List Nm}, n ∈ ns → getK (dk ns h) (nk n) = some (.int (h n))
  | [], hm => by simp at hm
  | m :: ns, hm => by
    unfold getK dk
    rw [List.map_cons, List.find?_cons]
    by_cases z : m = n
    · subst z
      simp
    · have : (decide (nk m = nk n)) = false := by simp [nk_inj, z]
      simp only [this]
      have hm' : n ∈ ns := by
        rcases List.mem_cons.mp hm with e | e
        · exact absurd e.symm z
        · exact e
      exact dk_get hm'
theorem dk_set {h : Nm → Int} {n : Nm} {v : Int} {ns : List Nm} (hm : n ∈ ns) : setK (dk ns h) (nk n) (.int v) = dk ns fun x => if x = n then v else h x := by
  unfold setK
  rw [if_pos (by
    rw [List.any_eq_true]
    exact ⟨(nk n, .int (h n)), by unfold dk; exact List.mem_map_of_mem (f := fun n => (nk n, D.int (h n))) hm, by simp⟩)]
  unfold dk
  rw [List.map_map]
  refine List.map_congr_left fun x _ => ?_
  simp only [Function.comp]
  by_cases z : x = n
  · subst z; simp
  · have : ¬ nk x = nk n := by rw [nk_inj]; exact z
    rw [if_neg this, if_neg z]
theorem dk_len (ns : List Nm) (h : Nm → Int) : (dk ns h).length = ns.length := by simp [dk]
/-- units moved along ways: what a place gains -/
def gain (p : Nm) : List (Nm × Nm × Int) → List Int → Int
  | c :: cs, u :: us => u * ((if c.2.1 = p then 1 else 0) - (if c.1 = p then 1 else 0)) + gain p cs us
  | _, _ => 0
def stepM (b : Bk) (us : List Int) (h : Nm → Int) : Nm → Int := fun n => h n + gain n b.cs us
def stepD (r : Rw) (h : Nm → Int) : Nm → Int := fun n => h n + chg r n
def lvF (b : Bk) (h : Nm → Int) : List Rw → List (List Int) → List (Nm → Int)
  | r :: rs, u :: us => stepM b u h :: lvF b (stepD r (stepM b u h)) rs us
  | _, _ => []
def lvE (b : Bk) (h : Nm → Int) : List Rw → List (List Int) → (Nm → Int)
  | r :: rs, u :: us => lvE b (stepD r (stepM b u h)) rs us
  | _, _ => h
end Rf

set_option Elab.async false
set_option linter.all false
set_option maxRecDepth 100000
set_option maxHeartbeats 4000000
namespace Rf
open PySem PySem.Spec PyProof.Rows L2
namespace K17
def top (i : Nat) : Stmt := PySem.Challenge.pw_unbooked_k17_levels_and_slips_told.main.body.getD i (.Pass ⟨0, 0, 0, 0⟩)
/-- is_integer -/
def d0 : Def := ⟨"is_integer", ["thing"], ["thing"], [.ret (.and (.prim (.isa .int) [(.var 0)]) (.not (.prim (.isa .bool) [(.var 0)])))]⟩
/-- is_number -/
def d1 : Def := ⟨"is_number", ["thing"], ["thing"], [.ret (.and (.call 0 [(.var 0)]) (.prim .ge [(.var 0), (.kint 0)]))]⟩
/-- is_name -/
def d2 : Def := ⟨"is_name", ["thing"], ["thing", "sign"], [.ifS (.or (.not (.prim (.isa .str) [(.var 0)])) (.not (.chain .le .le (.kint 1) (.prim .len [(.var 0)]) (.glo "LONGEST" (D.int 8))))) [.ret (.kbl false)] [], .ret (.prim .all [(.comp (.prim .isin [(.var 1), (.glo "LETTERS" (D.str [97, 98, 99, 100, 101, 102, 103, 104, 105, 106, 107, 108, 109, 110, 111, 112, 113, 114, 115, 116, 117, 118, 119, 120, 121, 122]))]) (.nm 1) .str [(.var 0)] [] [1])])]⟩
/-- require_place -/
def d3 : Def := ⟨"require_place", ["book", "place"], ["book", "place", "name", "stock", "cap"], [.ifS (.or (.not (.call 2 [(.var 1)])) (.prim .notin [(.var 1), (.comp (.var 2) (.tp [(.nm 2), (.nm 3), (.nm 4)]) .seq [(.prim .ix [(.var 0), (.kint 0)])] [] [2, 3, 4])])) [.stuck] []]⟩
/-- require_row -/
def d4 : Def := ⟨"require_row", ["book", "t"], ["book", "t"], [.ifS (.or (.not (.call 1 [(.var 1)])) (.prim .ge [(.var 1), (.prim .len [(.prim .ix [(.var 0), (.kint 3)])])])) [.stuck] []]⟩
/-- row_change -/
def d5 : Def := ⟨"row_change", ["row", "place"], ["row", "place", "word", "one", "other", "many"], [.ifS (.prim .eq [(.prim .ix [(.var 0), (.kint 0)]), (.kstr [99, 111, 117, 110, 116])]) [.ret (.kint 0)] [], .set (.tp [(.nm 2), (.nm 3), (.nm 4), (.nm 5)]) (.var 0), .ret (.prim .mul [(.var 5), (.prim .sub [(.prim .int [(.prim .eq [(.var 4), (.var 1)])]), (.prim .int [(.prim .eq [(.var 3), (.var 1)])])])])]⟩
/-- change_of -/
def d6 : Def := ⟨"change_of", ["book", "place", "t"], ["book", "place", "t"], [.drop (.call 3 [(.var 0), (.var 1)]), .drop (.call 4 [(.var 0), (.var 2)]), .ret (.call 5 [(.prim .ix [(.prim .ix [(.var 0), (.kint 3)]), (.var 2)]), (.var 1)])]⟩
/-- moved_levels -/
def d7 : Def := ⟨"moved_levels", ["book", "levels", "units"], ["book", "levels", "units", "found", "one", "other", "cost", "many", "place", "level"], [.gnew 3 (.dcomp (.prim .ix [(.var 8), (.kint 0)]) (.var 9) (.tp [(.nm 8), (.nm 9)]) .zip [(.prim .ix [(.var 0), (.kint 0)]), (.var 1)] [] [8, 9]), .forS (.tp [(.tp [(.nm 4), (.nm 5), (.nm 6)]), (.nm 7)]) .zip [(.prim .ix [(.var 0), (.kint 1)]), (.var 2)] [.ifS (.prim .ne [(.var 4), (.glo "OUT" (D.str [111, 117, 116]))]) [.gaug 3 (.var 4) .sub (.var 7)] [], .ifS (.prim .ne [(.var 5), (.glo "OUT" (D.str [111, 117, 116]))]) [.gaug 3 (.var 5) .add (.var 7)] []], .ret (.gvals 3)]⟩
/-- booked_levels -/
def d8 : Def := ⟨"booked_levels", ["book", "levels", "t"], ["book", "levels", "t", "place", "level"], [.ret (.prim .tuple [(.comp (.prim .add [(.var 4), (.call 6 [(.var 0), (.prim .ix [(.var 3), (.kint 0)]), (.var 2)])]) (.tp [(.nm 3), (.nm 4)]) .zip [(.prim .ix [(.var 0), (.kint 0)]), (.var 1)] [] [3, 4])])]⟩
/-- stocks_of -/
def d9 : Def := ⟨"stocks_of", ["book"], ["book", "place", "stock", "cap"], [.ret (.prim .tuple [(.comp (.var 2) (.tp [(.nm 1), (.nm 2), (.nm 3)]) .seq [(.prim .ix [(.var 0), (.kint 0)])] [] [1, 2, 3])])]⟩
/-- levels_of -/
def d10 : Def := ⟨"levels_of", ["book", "tale"], ["book", "tale", "levels", "found", "t", "units"], [.par 2 3 false true (.call 9 [(.var 0)]) (.lst []), .forS (.tp [(.nm 4), (.nm 5)]) .enum [(.var 1)] [.set (.nm 2) (.call 7 [(.var 0), (.var 2), (.var 5)]), .drop (.mutl .append 3 [(.var 2)]), .set (.nm 2) (.call 8 [(.var 0), (.var 2), (.var 4)])], .freeze 3, .ret (.star (.var 3) [(.var 2)])]⟩
/-- slips_of -/
def d11 : Def := ⟨"slips_of", ["book", "tale"], ["book", "tale", "found", "names", "levels", "t", "row", "place"], [.setOwn 2 (.lst []), .par 3 4 false false (.comp (.prim .ix [(.var 7), (.kint 0)]) (.nm 7) .seq [(.prim .ix [(.var 0), (.kint 0)])] [] [7]) (.call 10 [(.var 0), (.var 1)]), .forS (.tp [(.nm 5), (.nm 6)]) .enum [(.prim .ix [(.var 0), (.kint 3)])] [.drop (.mutl .append 2 [(.ite (.prim .eq [(.prim .ix [(.var 6), (.kint 0)]), (.glo "COUNT" (D.str [99, 111, 117, 110, 116]))]) (.prim .abs [(.prim .sub [(.prim .ix [(.prim .ix [(.var 4), (.var 5)]), (.mth .index (.var 3) [(.prim .ix [(.var 6), (.kint 1)])])]), (.prim .ix [(.var 6), (.kint 2)])])]) .knon)])], .freeze 2, .ret (.prim .tuple [(.var 2)])]⟩
/-- missing_of -/
def d12 : Def := ⟨"missing_of", ["book", "tale"], ["book", "tale", "pairs", "gone", "units", "way", "many", "one", "other", "cost"], [.setOwn 2 (.comp2 (.tup [(.var 5), (.var 6)]) (.nm 4) .seq [(.var 1)] [] (.tp [(.nm 5), (.nm 6)]) .zip [(.prim .ix [(.var 0), (.kint 1)]), (.var 4)] [] [4, 5, 6] [5, 6]), .freeze 2, .set (.nm 3) (.prim .sum [(.comp (.var 6) (.tp [(.tp [(.nm 7), (.nm 8), (.nm 9)]), (.nm 6)]) .seq [(.var 2)] [(.prim .eq [(.var 8), (.glo "OUT" (D.str [111, 117, 116]))])] [7, 8, 9, 6])]), .ret (.prim .sub [(.var 3), (.prim .sum [(.comp (.var 6) (.tp [(.tp [(.nm 7), (.nm 8), (.nm 9)]), (.nm 6)]) .seq [(.var 2)] [(.prim .eq [(.var 7), (.glo "OUT" (D.str [111, 117, 116]))])] [7, 8, 9, 6])])])]⟩
/-- _law_feed -/
def d13 : Def := ⟨"_law_feed", ["_law_script"], ["_law_script"], [.retDic [(.inr "cells"), (.inr "at"), (.inr "left"), (.inr "count")] [(.prim .list [(.cut (.var 0) [] [(.kint 63)])]), (.kint 0), (.kint 0), (.kint 0)]]⟩
/-- _law_draw -/
def d14 : Def := ⟨"_law_draw", ["_law_feed_here", "_law_many"], ["_law_feed_here", "_law_many", "_law_at", "_law_cell", "_law_mixed", "_law_digit"], [.gset 0 (.inr "count") (.prim .add [(.gget 0 (.inr "count")), (.kint 1)]), .ifS (.prim .eq [(.gget 0 (.inr "cells")), (.lst [])]) [.ret (.prim .mod [(.prim .int [(.gget 0 (.inr "count"))]), (.var 1)])] [], .ifS (.prim .gt [(.gget 0 (.inr "left")), (.kint 0)]) [.set (.nm 5) (.prim .mod [(.prim .int [(.gget 0 (.inr "left"))]), (.var 1)]), .gset 0 (.inr "left") (.prim .fdiv [(.gget 0 (.inr "left")), (.var 1)]), .ret (.var 5)] [], .set (.nm 2) (.gget 0 (.inr "at")), .gset 0 (.inr "at") (.prim .add [(.var 2), (.kint 1)]), .set (.nm 3) (.prim .ix [(.gget 0 (.inr "cells")), (.prim .mod [(.prim .int [(.var 2)]), (.prim .len [(.gget 0 (.inr "cells"))])])]), .ifS (.and (.prim .ge [(.var 3), (.prim .pow [(.kint 10), (.kint 18)])]) (.prim .lt [(.var 2), (.prim .len [(.gget 0 (.inr "cells"))])])) [.gset 0 (.inr "left") (.prim .fdiv [(.var 3), (.var 1)]), .ret (.prim .mod [(.prim .int [(.var 3)]), (.var 1)])] [], .set (.nm 4) (.prim .mod [(.prim .int [(.prim .add [(.prim .add [(.prim .mod [(.prim .int [(.var 3)]), (.kint 1000001951)]), (.prim .mul [(.kint 97001), (.gget 0 (.inr "count"))])]), (.kint 659)])]), (.kint 2147483549)]), .set (.nm 4) (.prim .mod [(.prim .int [(.prim .add [(.prim .add [(.prim .pow [(.var 4), (.kint 3)]), (.prim .mul [(.kint 7400717), (.gget 0 (.inr "count"))])]), (.kint 373)])]), (.kint 2147483489)]), .ret (.prim .mod [(.prim .int [(.prim .fdiv [(.prim .mod [(.prim .int [(.prim .add [(.prim .pow [(.var 4), (.kint 3)]), (.prim .mul [(.kint 359), (.var 4)])])]), (.kint 2147483399)]), (.kint 32)])]), (.var 1)])]⟩
/-- _law_any -/
def d15 : Def := ⟨"_law_any", ["_law_feed_here", "_law_some"], ["_law_feed_here", "_law_some"], [.ret (.prim .ix [(.var 1), (.call 14 [(.gv 0), (.prim .len [(.var 1)])])])]⟩
/-- _law_row -/
def d16 : Def := ⟨"_law_row", ["_law_feed_here", "_law_spots"], ["_law_feed_here", "_law_spots", "_law_sizes", "_law_name", "_law_goal", "_law_n", "_law_stock", "_law_most", "_law_one"], [.set (.nm 2) (.prim .dict [(.comp (.tup [(.var 3), (.var 7)]) (.tp [(.nm 3), (.nm 6), (.nm 7)]) .seq [(.var 1)] [] [3, 6, 7])]), .set (.nm 3) (.prim .ix [(.call 15 [(.gv 0), (.var 1)]), (.kint 0)]), .ifS (.prim .lt [(.call 14 [(.gv 0), (.kint 5)]), (.kint 2)]) [.ret (.tup [(.kstr [99, 111, 117, 110, 116]), (.var 3), (.call 14 [(.gv 0), (.prim .add [(.prim .ix [(.var 2), (.var 3)]), (.kint 1)])])])] [], .set (.nm 4) (.call 15 [(.gv 0), (.comp (.var 8) (.nm 8) .seq [(.prim .add [(.prim .list [(.var 2)]), (.lst [(.kstr [111, 117, 116])])])] [(.prim .ne [(.var 8), (.var 3)])] [8])]), .set (.nm 5) (.prim .add [(.kint 1), (.call 14 [(.gv 0), (.prim .min [(.prim .ix [(.var 2), (.var 3)]), (.mth .get (.var 2) [(.var 4), (.kint 9)]), (.kint 3)])])]), .ret (.ite (.prim .gt [(.call 14 [(.gv 0), (.kint 3)]), (.kint 0)]) (.tup [(.kstr [109, 111, 118, 101]), (.var 3), (.var 4), (.var 5)]) (.tup [(.kstr [109, 111, 118, 101]), (.var 4), (.var 3), (.var 5)]))]⟩
/-- _law_book -/
def d17 : Def := ⟨"_law_book", ["_law_feed_here", "_law_count", "_law_folk", "_law_size"], ["_law_feed_here", "_law_count", "_law_folk", "_law_size", "_law_spots", "_law_costs_now", "_law_name", "_law_names", "_law_one", "_law_slip_now", "_law_rows", "_law_most", "_law_goal", "_law_k", "_law_spot"], [.par 4 5 true true (.lst []) (.lst []), .forS (.nm 6) .seq [(.cut (.lst [(.kstr [97]), (.kstr [98]), (.kstr [115, 104, 101, 108, 102])]) [] [(.prim .add [(.kint 1), (.call 14 [(.gv 0), (.var 2)])])])] [.set (.nm 11) (.prim .add [(.kint 2), (.call 14 [(.gv 0), (.prim .sub [(.var 3), (.kint 1)])])]), .drop (.mutl .append 4 [(.tup [(.var 6), (.call 14 [(.gv 0), (.prim .add [(.var 11), (.kint 1)])]), (.var 11)])])], .freeze 4, .set (.nm 7) (.prim .sorted [(.prim .add [(.comp (.prim .ix [(.var 14), (.kint 0)]) (.nm 14) .seq [(.var 4)] [] [14]), (.lst [(.kstr [111, 117, 116])])])]), .forS (.nm 8) .seq [(.var 7)] [.forS (.nm 12) .seq [(.var 7)] [.ifS (.and (.prim .ne [(.var 8), (.var 12)]) (.and (.prim .lt [(.prim .len [(.own 5)]), (.kint 4)]) (.prim .gt [(.call 14 [(.gv 0), (.kint 3)]), (.kint 0)]))) [.drop (.mutl .append 5 [(.tup [(.var 8), (.var 12), (.prim .add [(.kint 1), (.call 14 [(.gv 0), (.kint 4)])])])])] []]], .freeze 5, .set (.nm 9) (.prim .ix [(.lst [.knon, (.kint 1), (.kint 3)]), (.call 14 [(.gv 0), (.kint 3)])]), .set (.nm 10) (.prim .tuple [(.comp (.call 16 [(.gv 0), (.var 4)]) (.nm 13) .rng [(.var 1)] [] [13])]), .ret (.tup [(.prim .tuple [(.var 4)]), (.prim .tuple [(.var 5)]), (.var 9), (.var 10)])]⟩
/-- _law_document -/
def d18 : Def := ⟨"_law_document", [], ["_law_rows", "_law_costs_now"], [.set (.nm 0) (.tup [(.tup [(.kstr [109, 111, 118, 101]), (.kstr [115, 116, 111, 114, 101]), (.kstr [115, 104, 101, 108, 102]), (.kint 2)]), (.tup [(.kstr [99, 111, 117, 110, 116]), (.kstr [115, 104, 101, 108, 102]), (.kint 3)]), (.tup [(.kstr [109, 111, 118, 101]), (.kstr [115, 104, 101, 108, 102]), (.kstr [111, 117, 116]), (.kint 1)]), (.tup [(.kstr [99, 111, 117, 110, 116]), (.kstr [115, 116, 111, 114, 101]), (.kint 5)])]), .set (.nm 1) (.tup [(.tup [(.kstr [115, 104, 101, 108, 102]), (.kstr [111, 117, 116]), (.kint 2)]), (.tup [(.kstr [115, 116, 111, 114, 101]), (.kstr [111, 117, 116]), (.kint 3)]), (.tup [(.kstr [115, 116, 111, 114, 101]), (.kstr [115, 104, 101, 108, 102]), (.kint 1)])]), .ret (.tup [(.tup [(.tup [(.kstr [115, 104, 101, 108, 102]), (.kint 3), (.kint 9)]), (.tup [(.kstr [115, 116, 111, 114, 101]), (.kint 8), (.kint 20)])]), (.var 1), (.kint 4), (.var 0)])]⟩
/-- _law_raise -/
def d19 : Def := ⟨"_law_raise", ["_law_row_here", "_law_name"], ["_law_row_here", "_law_name"], [.ifS (.prim .eq [(.prim .ix [(.var 0), (.kint 0)]), (.kstr [99, 111, 117, 110, 116])]) [.ret (.kint 0)] [], .ret (.prim .mul [(.prim .ix [(.var 0), (.kint 3)]), (.prim .sub [(.prim .int [(.prim .eq [(.prim .ix [(.var 0), (.kint 2)]), (.var 1)])]), (.prim .int [(.prim .eq [(.prim .ix [(.var 0), (.kint 1)]), (.var 1)])])])])]⟩
/-- _law_lets -/
def d20 : Def := ⟨"_law_lets", ["_law_plot", "_law_t"], ["_law_plot", "_law_t", "_law_row_here", "_law_found", "_law_name", "_law_stock", "_law_most", "_law_up", "_law_low", "_law_high"], [.par 2 3 false true (.prim .ix [(.prim .ix [(.var 0), (.kint 3)]), (.var 1)]) (.lst []), .forS (.tp [(.nm 4), (.nm 5), (.nm 6)]) .seq [(.prim .ix [(.var 0), (.kint 0)])] [.set (.nm 7) (.call 19 [(.var 2), (.var 4)]), .par 8 9 false false (.prim .max [(.kint 0), (.prim .neg [(.var 7)])]) (.prim .min [(.var 6), (.prim .sub [(.var 6), (.var 7)])]), .ifS (.and (.prim .eq [(.cut (.var 2) [] [(.kint 2)]), (.tup [(.kstr [99, 111, 117, 110, 116]), (.var 4)])]) (.prim .isNone [(.prim .ix [(.var 0), (.kint 2)])])) [.par 8 9 false false (.prim .ix [(.var 2), (.kint 2)]) (.prim .ix [(.var 2), (.kint 2)])] [], .drop (.mutl .append 3 [(.tup [(.var 8), (.var 9)])])], .freeze 3, .ret (.var 3)]⟩
/-- _law_moved -/
def d21 : Def := ⟨"_law_moved", ["_law_plot", "_law_spots", "_law_own"], ["_law_plot", "_law_spots", "_law_own", "_law_found", "_law_name", "_law_stock", "_law_most", "_law_n", "_law_way", "_law_units"], [.setOwn 3 (.lst []), .forS (.tp [(.tp [(.nm 4), (.nm 5), (.nm 6)]), (.nm 7)]) .zip [(.prim .ix [(.var 0), (.kint 0)]), (.var 1)] [.forS (.tp [(.nm 8), (.nm 9)]) .zip [(.prim .ix [(.var 0), (.kint 1)]), (.var 2)] [.set (.nm 7) (.prim .add [(.var 7), (.prim .mul [(.var 9), (.prim .sub [(.prim .int [(.prim .eq [(.prim .ix [(.var 8), (.kint 1)]), (.var 4)])]), (.prim .int [(.prim .eq [(.prim .ix [(.var 8), (.kint 0)]), (.var 4)])])])])])], .drop (.mutl .append 3 [(.var 7)])], .freeze 3, .ret (.prim .tuple [(.var 3)])]⟩
/-- _law_done -/
def d22 : Def := ⟨"_law_done", ["_law_plot", "_law_spots", "_law_t"], ["_law_plot", "_law_spots", "_law_t", "_law_n", "_law_place"], [.ret (.prim .tuple [(.comp (.prim .add [(.var 3), (.call 19 [(.prim .ix [(.prim .ix [(.var 0), (.kint 3)]), (.var 2)]), (.prim .ix [(.var 4), (.kint 0)])])]) (.tp [(.nm 3), (.nm 4)]) .zip [(.var 1), (.prim .ix [(.var 0), (.kint 0)])] [] [3, 4])])]⟩
/-- _law_levels -/
def d23 : Def := ⟨"_law_levels", ["_law_plot", "_law_told"], ["_law_plot", "_law_told", "_law_spots", "_law_found", "_law_t", "_law_own", "_law_name", "_law_stock", "_law_most"], [.par 2 3 false true (.prim .tuple [(.comp (.var 7) (.tp [(.nm 6), (.nm 7), (.nm 8)]) .seq [(.prim .ix [(.var 0), (.kint 0)])] [] [6, 7, 8])]) (.lst []), .forS (.tp [(.nm 4), (.nm 5)]) .enum [(.var 1)] [.set (.nm 2) (.call 21 [(.var 0), (.var 2), (.var 5)]), .drop (.mutl .append 3 [(.var 2)]), .set (.nm 2) (.call 22 [(.var 0), (.var 2), (.var 4)])], .freeze 3, .ret (.prim .add [(.var 3), (.lst [(.var 2)])])]⟩
/-- _law_wrong_level -/
def d24 : Def := ⟨"_law_wrong_level", ["_law_plot", "_law_spots", "_law_t"], ["_law_plot", "_law_spots", "_law_t", "_law_i", "_law_low", "_law_high"], [.forS (.tp [(.nm 3), (.tp [(.nm 4), (.nm 5)])]) .enum [(.call 20 [(.var 0), (.var 2)])] [.ifS (.not (.chain .le .le (.var 4) (.prim .ix [(.var 1), (.var 3)]) (.var 5))) [.ret (.var 3)] []], .ret .knon]⟩
/-- _law_miscount -/
def d25 : Def := ⟨"_law_miscount", ["_law_plot", "_law_spots", "_law_t"], ["_law_plot", "_law_spots", "_law_t", "_law_row_here", "_law_place"], [.set (.nm 3) (.prim .ix [(.prim .ix [(.var 0), (.kint 3)]), (.var 2)]), .ifS (.prim .eq [(.prim .ix [(.var 3), (.kint 0)]), (.kstr [109, 111, 118, 101])]) [.ret .knon] [], .ret (.prim .abs [(.prim .sub [(.prim .ix [(.var 1), (.mth .index (.comp (.prim .ix [(.var 4), (.kint 0)]) (.nm 4) .seq [(.prim .ix [(.var 0), (.kint 0)])] [] [4]) [(.prim .ix [(.var 3), (.kint 1)])])]), (.prim .ix [(.var 3), (.kint 2)])])])]⟩
/-- _law_cost -/
def d26 : Def := ⟨"_law_cost", ["_law_plot", "_law_told"], ["_law_plot", "_law_told", "_law_levels_now", "_law_total", "_law_t", "_law_own", "_law_way", "_law_n"], [.par 2 3 false false (.call 23 [(.var 0), (.var 1)]) (.kint 0), .forS (.tp [(.nm 4), (.nm 5)]) .enum [(.var 1)] [.set (.nm 3) (.prim .add [(.var 3), (.prim .sum [(.comp (.prim .mul [(.prim .ix [(.var 6), (.kint 2)]), (.var 7)]) (.tp [(.nm 6), (.nm 7)]) .zip [(.prim .ix [(.var 0), (.kint 1)]), (.var 5)] [] [6, 7])])]), .set (.nm 3) (.prim .add [(.var 3), (.prim .mul [(.orV (.prim .ix [(.var 0), (.kint 2)]) (.kint 0)), (.orV (.call 25 [(.var 0), (.prim .ix [(.var 2), (.var 4)]), (.var 4)]) (.kint 0))])])], .ret (.var 3)]⟩
/-- _law_is_integer -/
def d27 : Def := ⟨"_law_is_integer", ["_law_item"], ["_law_item"], [.ret (.and (.prim (.isa .int) [(.var 0)]) (.not (.prim (.isa .bool) [(.var 0)])))]⟩
/-- _law_has_rows -/
def d28 : Def := ⟨"_law_has_rows", ["_law_item", "_law_least"], ["_law_item", "_law_least", "_law_own", "_law_n"], [.ifS (.or (.not (.prim (.isa .tuple) [(.var 0)])) (.prim .ne [(.comp (.var 2) (.nm 2) .seq [(.var 0)] [(.not (.prim (.isa .tuple) [(.var 2)]))] [2]), (.lst [])])) [.ret (.kbl false)] [], .ret (.prim .eq [(.comp (.var 2) (.nm 2) .seq [(.var 0)] [(.prim .ne [(.comp (.var 3) (.nm 3) .seq [(.var 2)] [(.or (.not (.call 27 [(.var 3)])) (.and (.prim .lt [(.var 3), (.kint 0)]) (.prim .eq [(.var 1), (.kint 0)])))] [3]), (.lst [])])] [2]), (.lst [])])]⟩
/-- _law_tale_due -/
def d29 : Def := ⟨"_law_tale_due", ["_law_plot", "_law_item"], ["_law_plot", "_law_item", "_law_spots", "_law_t", "_law_own", "_law_i", "_law_name", "_law_stock", "_law_most"], [.ifS (.not (.call 28 [(.var 1), (.kint 0)])) [.ret (.tup [(.kstr [112, 97, 112, 101, 114]), (.kstr [115, 104, 97, 112, 101]), (.prim .neg [(.kint 1)])])] [], .ifS (.prim .ne [(.prim .len [(.var 1)]), (.prim .len [(.prim .ix [(.var 0), (.kint 3)])])]) [.ret (.tup [(.kstr [112, 97, 112, 101, 114]), (.kstr [109, 97, 110, 121]), (.prim .neg [(.kint 1)])])] [], .set (.nm 2) (.prim .tuple [(.comp (.var 7) (.tp [(.nm 6), (.nm 7), (.nm 8)]) .seq [(.prim .ix [(.var 0), (.kint 0)])] [] [6, 7, 8])]), .forS (.tp [(.nm 3), (.nm 4)]) .enum [(.var 1)] [.ifS (.prim .ne [(.prim .len [(.var 4)]), (.prim .len [(.prim .ix [(.var 0), (.kint 1)])])]) [.ret (.tup [(.kstr [112, 97, 112, 101, 114]), (.kstr [119, 97, 121, 115]), (.var 3)])] [], .set (.nm 2) (.call 21 [(.var 0), (.var 2), (.var 4)]), .set (.nm 5) (.call 24 [(.var 0), (.var 2), (.var 3)]), .ifS (.prim .notNone [(.var 5)]) [.ret (.tup [(.kstr [112, 97, 112, 101, 114]), (.kstr [108, 101, 118, 101, 108]), (.tup [(.var 3), (.var 5)])])] [], .set (.nm 2) (.call 22 [(.var 0), (.var 2), (.var 3)])], .ret (.tup [(.kstr [116, 111, 108, 100]), (.call 26 [(.var 0), (.var 1)])])]⟩
/-- _law_tale -/
def d30 : Def := ⟨"_law_tale", ["_law_feed_here", "_law_plot"], ["_law_feed_here", "_law_plot", "_law_spots", "_law_told", "_law_t", "_law_own", "_law_lap", "_law_name", "_law_stock", "_law_most", "_law_way"], [.par 2 3 false false (.prim .tuple [(.comp (.var 8) (.tp [(.nm 7), (.nm 8), (.nm 9)]) .seq [(.prim .ix [(.var 1), (.kint 0)])] [] [7, 8, 9])]) (.tup []), .forS (.nm 4) .rng [(.prim .len [(.prim .ix [(.var 1), (.kint 3)])])] [.set (.nm 5) (.prim .mul [(.tup [(.kint 0)]), (.prim .len [(.prim .ix [(.var 1), (.kint 1)])])]), .forS (.nm 6) .rng [(.kint 3)] [.ifS (.and (.prim .gt [(.var 6), (.kint 0)]) (.prim .isNone [(.call 24 [(.var 1), (.call 21 [(.var 1), (.var 2), (.var 5)]), (.var 4)])])) [.cont] [], .set (.nm 5) (.prim .tuple [(.comp (.prim .max [(.kint 0), (.prim .sub [(.call 14 [(.gv 0), (.kint 4)]), (.kint 1)])]) (.nm 10) .seq [(.prim .ix [(.var 1), (.kint 1)])] [] [10])])], .set (.nm 2) (.call 22 [(.var 1), (.call 21 [(.var 1), (.var 2), (.var 5)]), (.var 4)]), .set (.nm 3) (.prim .add [(.var 3), (.tup [(.var 5)])])], .ret (.var 3)]⟩
/-- _law_empty -/
def d31 : Def := ⟨"_law_empty", [], [], [.ret (.tup [(.tup [(.tup [(.kstr [97]), (.kint 1), (.kint 2)]), (.tup [(.kstr [98]), (.kint 0), (.kint 3)])]), (.tup [(.tup [(.kstr [97]), (.kstr [98]), (.kint 2)])]), .knon, (.tup [])])]⟩
/-- _law_great -/
def d32 : Def := ⟨"_law_great", ["_law_slip_now"], ["_law_slip_now", "_law_spots", "_law_costs_now", "_law_rows"], [.set (.nm 1) (.tup [(.tup [(.kstr [97]), (.kint 20), (.kint 20)]), (.tup [(.kstr [98]), (.kint 0), (.kint 12)]), (.tup [(.kstr [115, 104, 101, 108, 102]), (.kint 5), (.kint 20)]), (.tup [(.kstr [122, 122]), (.kint 7), (.kint 9)])]), .set (.nm 2) (.tup [(.tup [(.kstr [97]), (.kstr [98]), (.kint 1)]), (.tup [(.kstr [97]), (.kstr [111, 117, 116]), (.kint 9)]), (.tup [(.kstr [97]), (.kstr [115, 104, 101, 108, 102]), (.kint 2)]), (.tup [(.kstr [98]), (.kstr [97]), (.kint 3)]), (.tup [(.kstr [98]), (.kstr [115, 104, 101, 108, 102]), (.kint 1)]), (.tup [(.kstr [98]), (.kstr [122, 122]), (.kint 4)])]), .set (.nm 2) (.prim .add [(.var 2), (.tup [(.tup [(.kstr [111, 117, 116]), (.kstr [97]), (.kint 7)]), (.tup [(.kstr [111, 117, 116]), (.kstr [122, 122]), (.kint 5)]), (.tup [(.kstr [115, 104, 101, 108, 102]), (.kstr [97]), (.kint 6)]), (.tup [(.kstr [115, 104, 101, 108, 102]), (.kstr [122, 122]), (.kint 2)]), (.tup [(.kstr [122, 122]), (.kstr [98]), (.kint 3)])])]), .set (.nm 3) (.tup [(.tup [(.kstr [109, 111, 118, 101]), (.kstr [97]), (.kstr [98]), (.kint 10)]), (.tup [(.kstr [99, 111, 117, 110, 116]), (.kstr [97]), (.kint 4)]), (.tup [(.kstr [109, 111, 118, 101]), (.kstr [98]), (.kstr [115, 104, 101, 108, 102]), (.kint 12)]), (.tup [(.kstr [99, 111, 117, 110, 116]), (.kstr [115, 104, 101, 108, 102]), (.kint 20)])]), .set (.nm 3) (.prim .add [(.var 3), (.tup [(.tup [(.kstr [109, 111, 118, 101]), (.kstr [115, 104, 101, 108, 102]), (.kstr [111, 117, 116]), (.kint 9)]), (.tup [(.kstr [109, 111, 118, 101]), (.kstr [115, 104, 101, 108, 102]), (.kstr [122, 122]), (.kint 2)]), (.tup [(.kstr [99, 111, 117, 110, 116]), (.kstr [122, 122]), (.kint 0)])])]), .set (.nm 3) (.prim .add [(.var 3), (.tup [(.tup [(.kstr [109, 111, 118, 101]), (.kstr [111, 117, 116]), (.kstr [97]), (.kint 15)]), (.tup [(.kstr [99, 111, 117, 110, 116]), (.kstr [97]), (.kint 20)]), (.tup [(.kstr [99, 111, 117, 110, 116]), (.kstr [98]), (.kint 1)])])]), .ret (.tup [(.var 1), (.prim .add [(.var 2), (.tup [(.tup [(.kstr [122, 122]), (.kstr [111, 117, 116]), (.kint 8)])])]), (.var 0), (.var 3)])]⟩
/-- _law_great_tale -/
def d33 : Def := ⟨"_law_great_tale", [], ["_law_gaps", "_law_t", "_law_k"], [.set (.nm 0) (.dic [(.inl 1), (.inl 2), (.inl 5), (.inl 6), (.inl 8), (.inl 9)] [(.dic [(.inl 0), (.inl 2)] [(.kint 2), (.kint 4)]), (.dic [(.inl 9)] [(.kint 1)]), (.dic [(.inl 10)] [(.kint 1)]), (.dic [(.inl 10)] [(.kint 9)]), (.dic [(.inl 3)] [(.kint 1)]), (.dic [(.inl 4)] [(.kint 8)])]), .ret (.prim .tuple [(.comp (.prim .tuple [(.comp (.mth .get (.mth .get (.var 0) [(.var 1), (.dic [] [])]) [(.var 2), (.kint 0)]) (.nm 2) .rng [(.kint 12)] [] [2])]) (.nm 1) .rng [(.kint 10)] [] [1])])]⟩
/-- _law_missing -/
def d34 : Def := ⟨"_law_missing", ["_law_book_now", "_law_told"], ["_law_book_now", "_law_told", "_law_found", "_law_own", "_law_way", "_law_n"], [.set (.nm 2) (.kint 0), .forS (.nm 3) .seq [(.var 1)] [.forS (.tp [(.nm 4), (.nm 5)]) .zip [(.prim .ix [(.var 0), (.kint 1)]), (.var 3)] [.set (.nm 2) (.prim .add [(.var 2), (.prim .mul [(.var 5), (.prim .sub [(.prim .int [(.prim .eq [(.prim .ix [(.var 4), (.kint 1)]), (.kstr [111, 117, 116])])]), (.prim .int [(.prim .eq [(.prim .ix [(.var 4), (.kint 0)]), (.kstr [111, 117, 116])])])])])])]], .ret (.var 2)]⟩
/-- _law_agrees -/
def d35 : Def := ⟨"_law_agrees", ["_law_book_now", "_law_told"], ["_law_book_now", "_law_told", "_law_before", "_law_levels_now", "_law_slips_now", "_law_due", "_law_own", "_law_t"], [.par 2 3 false false (.prim .repr [(.tup [(.var 0), (.var 1)])]) (.call 23 [(.var 0), (.var 1)]), .set (.nm 4) (.prim .tuple [(.comp (.call 25 [(.var 0), (.prim .ix [(.var 3), (.var 7)]), (.var 7)]) (.nm 7) .rng [(.prim .len [(.var 1)])] [] [7])]), .set (.nm 5) (.lst [(.prim .tuple [(.var 3)]), (.var 4), (.call 34 [(.var 0), (.var 1)])]), .ifS (.prim .ne [(.prim .repr [(.lst [(.call 10 [(.var 0), (.var 1)]), (.call 11 [(.var 0), (.var 1)]), (.call 12 [(.var 0), (.var 1)])])]), (.prim .repr [(.var 5)])]) [.ret (.kbl false)] [], .setOwn 6 (.lst [(.callP 10 [(.var 1), (.var 0)] [1, 0]), (.callP 11 [(.var 1), (.var 0)] [1, 0])]), .drop (.mutl .append 6 [(.callP 12 [(.var 1), (.var 0)] [1, 0])]), .freeze 6, .ret (.and (.prim .eq [(.prim .repr [(.var 6)]), (.prim .repr [(.var 5)])]) (.prim .eq [(.prim .repr [(.tup [(.var 0), (.var 1)])]), (.var 2)]))]⟩
/-- law -/
def d36 : Def := ⟨"law", ["_law_script"], ["_law_script", "_law_feed_here", "_law_told", "_law_lap", "_law_book_now"], [.gcall 1 13 [(.var 0)], .set (.nm 2) (.tup [(.tup [(.kint 0), (.kint 0), (.kint 0)]), (.tup [(.kint 2), (.kint 0), (.kint 0)]), (.tup [(.kint 0), (.kint 0), (.kint 1)]), (.tup [(.kint 0), (.kint 0), (.kint 0)])]), .ifS (.or (.not (.call 35 [(.call 31 []), (.tup [])])) (.not (.call 35 [(.call 18 []), (.var 2)]))) [.ret (.kbl false)] [], .ifS (.and (.prim .ne [(.var 0), (.lst [])]) (.and (.prim .eq [(.call 14 [(.gv 1), (.kint 8)]), (.kint 0)]) (.not (.call 35 [(.call 32 [(.kint 2)]), (.call 33 [])])))) [.ret (.kbl false)] [], .forS (.nm 3) .rng [(.kint 2)] [.set (.nm 4) (.call 17 [(.gv 1), (.prim .add [(.kint 2), (.call 14 [(.gv 1), (.kint 3)])]), (.kint 3), (.kint 5)]), .set (.nm 2) (.call 30 [(.gv 1), (.var 4)]), .ifS (.and (.prim .eq [(.prim .ix [(.call 29 [(.var 4), (.var 2)]), (.kint 0)]), (.kstr [116, 111, 108, 100])]) (.not (.call 35 [(.var 4), (.var 2)]))) [.ret (.kbl false)] []], .ret (.kbl true)]⟩
def fns : List Def := [d0, d1, d2, d3, d4, d5, d6, d7, d8, d9, d10, d11, d12, d13, d14, d15, d16, d17, d18, d19, d20, d21, d22, d23, d24, d25, d26, d27, d28, d29, d30, d31, d32, d33, d34, d35, d36]
def cs : List (Str × D) := [("LETTERS", (D.str [97, 98, 99, 100, 101, 102, 103, 104, 105, 106, 107, 108, 109, 110, 111, 112, 113, 114, 115, 116, 117, 118, 119, 120, 121, 122])), ("LONGEST", (D.int 8)), ("OUT", (D.str [111, 117, 116])), ("COUNT", (D.str [99, 111, 117, 110, 116]))]
def places : List Nat := [7, 8, 9, 11, 12, 13, 14, 18, 19, 20, 21, 22, 23, 25, 26, 27, 28, 29, 30, 31, 32, 33, 34, 35, 36, 37, 38, 39, 40, 41, 42, 43, 44, 45, 46, 47, 48]
theorem ok0 : defB (cfgOf fns cs) d0 (top 7) = true := by decide +kernel
theorem ok1 : defB (cfgOf fns cs) d1 (top 8) = true := by decide +kernel
theorem ok2 : defB (cfgOf fns cs) d2 (top 9) = true := by decide +kernel
theorem ok3 : defB (cfgOf fns cs) d3 (top 11) = true := by decide +kernel
theorem ok4 : defB (cfgOf fns cs) d4 (top 12) = true := by decide +kernel
theorem ok5 : defB (cfgOf fns cs) d5 (top 13) = true := by decide +kernel
theorem ok6 : defB (cfgOf fns cs) d6 (top 14) = true := by decide +kernel
theorem ok7 : defB (cfgOf fns cs) d7 (top 18) = true := by decide +kernel
theorem ok8 : defB (cfgOf fns cs) d8 (top 19) = true := by decide +kernel
theorem ok9 : defB (cfgOf fns cs) d9 (top 20) = true := by decide +kernel
theorem ok10 : defB (cfgOf fns cs) d10 (top 21) = true := by decide +kernel
theorem ok11 : defB (cfgOf fns cs) d11 (top 22) = true := by decide +kernel
theorem ok12 : defB (cfgOf fns cs) d12 (top 23) = true := by decide +kernel
theorem ok13 : defB (cfgOf fns cs) d13 (top 25) = true := by decide +kernel
theorem ok14 : defB (cfgOf fns cs) d14 (top 26) = true := by decide +kernel
theorem ok15 : defB (cfgOf fns cs) d15 (top 27) = true := by decide +kernel
theorem ok16 : defB (cfgOf fns cs) d16 (top 28) = true := by decide +kernel
theorem ok17 : defB (cfgOf fns cs) d17 (top 29) = true := by decide +kernel
theorem ok18 : defB (cfgOf fns cs) d18 (top 30) = true := by decide +kernel
theorem ok19 : defB (cfgOf fns cs) d19 (top 31) = true := by decide +kernel
theorem ok20 : defB (cfgOf fns cs) d20 (top 32) = true := by decide +kernel
theorem ok21 : defB (cfgOf fns cs) d21 (top 33) = true := by decide +kernel
theorem ok22 : defB (cfgOf fns cs) d22 (top 34) = true := by decide +kernel
theorem ok23 : defB (cfgOf fns cs) d23 (top 35) = true := by decide +kernel
theorem ok24 : defB (cfgOf fns cs) d24 (top 36) = true := by decide +kernel
theorem ok25 : defB (cfgOf fns cs) d25 (top 37) = true := by decide +kernel
theorem ok26 : defB (cfgOf fns cs) d26 (top 38) = true := by decide +kernel
theorem ok27 : defB (cfgOf fns cs) d27 (top 39) = true := by decide +kernel
theorem ok28 : defB (cfgOf fns cs) d28 (top 40) = true := by decide +kernel
theorem ok29 : defB (cfgOf fns cs) d29 (top 41) = true := by decide +kernel
theorem ok30 : defB (cfgOf fns cs) d30 (top 42) = true := by decide +kernel
theorem ok31 : defB (cfgOf fns cs) d31 (top 43) = true := by decide +kernel
theorem ok32 : defB (cfgOf fns cs) d32 (top 44) = true := by decide +kernel
theorem ok33 : defB (cfgOf fns cs) d33 (top 45) = true := by decide +kernel
theorem ok34 : defB (cfgOf fns cs) d34 (top 46) = true := by decide +kernel
theorem ok35 : defB (cfgOf fns cs) d35 (top 47) = true := by decide +kernel
theorem ok36 : defB (cfgOf fns cs) d36 (top 48) = true := by decide +kernel
end K17
end Rf

set_option Elab.async false
set_option linter.all false
set_option maxRecDepth 100000
set_option maxHeartbeats 4000000
namespace Rf
open PySem PySem.Spec PyProof.Rows L2
namespace K17
theorem t (n k : Nat) (d : Def) (h : fns[k]? = some d) : TB fns (n + 1) k = mirror (TB fns n) d := by
  show (match fns[k]? with | some d => mirror (TB fns n) d | none => fun _ _ => .bad) = _
  rw [h]
theorem bools_map {α : Type} : ∀ x : List α, boolsD (x.map fun _ => .bl true) = some (x.map fun _ => true)
  | [] => rfl
  | c :: x => by simp only [List.map_cons, boolsD, bools_map x]; rfl
theorem bd0 (b : Bk) : ixD (bD b) 0 = some (.tup (b.ps.map pD)) := by simp [bD]
theorem bd1 (b : Bk) : ixD (bD b) 1 = some (.tup (b.cs.map cD)) := by simp [bD]
theorem bd2 (b : Bk) : ixD (bD b) 2 = some (slD b.sl) := by simp [bD]
theorem bd3 (b : Bk) : ixD (bD b) 3 = some (.tup (b.rs.map rD)) := by simp [bD]
theorem bdx (b : Bk) (i : Int) : P.ap .ix [bD b, .int i] = ixD (bD b) i := rfl
theorem row_at {b : Bk} {t : Nat} {r : Rw} (h : b.rs[t]? = some r) : ixD (.tup (b.rs.map rD)) (t : Int) = some (rD r) := ix_nat (by rw [List.getElem?_map, h]; rfl)
theorem s0 (n : Nat) (i : Int) (g : List Gd) : TB fns (n + 1) 0 [.val (.int i)] g = .ret (.bl true) g := by
  rw [t n 0 d0 rfl]
  simp [mirror, d0, cutG, isTy, truth]
theorem s1 (n : Nat) (i : Int) (g : List Gd) : TB fns (n + 2) 1 [.val (.int i)] g = .ret (.bl (decide (0 ≤ i))) g := by
  rw [t (n + 1) 1 d1 rfl]
  simp [mirror, d1, cutG, s0]
theorem s2 (n : Nat) (x : Nm) (g : List Gd) (h : okNm x) : TB fns (n + 1) 2 [.val (.str x)] g = .ret (.bl true) g := by
  obtain ⟨h1, h2, h3⟩ := h
  rw [t n 2 d2 rfl]
  have e1 : (1 : Int) ≤ (x.length : Int) := by omega
  have e2 : (x.length : Int) ≤ 8 := by omega
  have hc := comp_map (T := TB fns n) (elt := (.prim .isin [(.var 1), (.glo "LETTERS" (D.str [97, 98, 99, 100, 101, 102, 103, 104, 105, 106, 107, 108, 109, 110, 111, 112, 113, 114, 115, 116, 117, 118, 119, 120, 121, 122]))])) (pt := .nm 1) (it := .str) (src := [.var 0]) (ws := [1]) (st := ⟨[.val (.str x), .none], g⟩) (s1 := ⟨[.val (.str x), .none], g⟩) (ds := [.str x]) (xs := x.map fun c => .str [c])
    (fun _ => .bl true) (by simp) rfl (by rw [List.length_map]; show x.length ≤ 16777216; omega) (by intro j hj; simp at hj; subst hj; simp) (r0 := [.val (.str x), .none]) rfl fun y hy => by
      obtain ⟨c, hc, rfl⟩ := List.mem_map.mp hy
      have hl := List.all_eq_true.mp h3 c hc
      have : c ∈ [97, 98, 99, 100, 101, 102, 103, 104, 105, 106, 107, 108, 109, 110, 111, 112, 113, 114, 115, 116, 117, 118, 119, 120, 121, 122] := by
        simp [lowC] at hl
        simp
        omega
      refine ⟨[.val (.str x), .val (.str [c])], by simp, rfl, ?_⟩
      simp only [ev_prim, evs_var, ev_var, evs_glo, ev_glo, evs_nil, bind_ok, List.getElem?_cons_succ, List.getElem?_cons_zero, ap_e22, inD, this, decide_true, Option.map_some, ofOpt_some]
  simp [mirror, d2, cutG, isTy, truth, e1, e2, hc, Function.comp_def, bools_map]
theorem s3 (n : Nat) (b : Bk) (w : WB b) (x : Nm) (hx : x ∈ b.ns) (g : List Gd) : TB fns (n + 2) 3 [.val (bD b), .val (.str x)] g = .ret .non g := by
  rw [t (n + 1) 3 d3 rfl]
  obtain ⟨p, hp, rfl⟩ := List.mem_map.mp hx
  have hok := (w.nm p hp).1
  have zp := w.zp
  have hc := comp_map (T := TB fns (n + 1)) (elt := .var 2) (pt := .tp [.nm 2, .nm 3, .nm 4]) (it := .seq) (src := [.prim .ix [.var 0, .kint 0]]) (ws := [2, 3, 4]) (st := ⟨[.val (bD b), .val (.str p.1), .none, .none, .none], g⟩) (s1 := ⟨[.val (bD b), .val (.str p.1), .none, .none, .none], g⟩) (ds := [.tup (b.ps.map pD)]) (xs := b.ps.map pD)
    (fun d => (ixD d 0).getD .non) (by simp [bdx, bd0]) rfl (by rw [List.length_map]; show b.ps.length ≤ 16777216; omega) (by intro j hj; simp at hj; rcases hj with rfl | rfl | rfl <;> simp) (r0 := [.val (bD b), .val (.str p.1), .none, .none, .none]) rfl fun y hy => by
      obtain ⟨q, _, rfl⟩ := List.mem_map.mp hy
      exact ⟨[.val (bD b), .val (.str p.1), .val (.str q.1), .val (.int q.2.1), .val (.int q.2.2)], by simp [pD], rfl, by simp [pD]⟩
  have e : ((b.ps.map pD).map fun d => (ixD d 0).getD .non) = b.ns.map .str := by
    simp [Bk.ns, pD]
  rw [e] at hc
  have hin := in_names (x := p.1) (xs := b.ns) hok.2.2 (fun y hy => by
    obtain ⟨q, hq, rfl⟩ := List.mem_map.mp hy
    exact (w.nm q hq).1.2.2)
  have hm : p.1 ∈ b.ns := hx
  simp [mirror, d3, cutG, s2 n p.1 _ hok, truth, hc, hin, hm]
theorem s4 (n : Nat) (b : Bk) (k : Nat) (hk : k < b.rs.length) (g : List Gd) : TB fns (n + 3) 4 [.val (bD b), .val (.int k)] g = .ret .non g := by
  rw [t (n + 2) 4 d4 rfl]
  have : ¬ ((b.rs.length : Int) ≤ (k : Int)) := by omega
  simp [mirror, d4, cutG, s1, truth, bdx, bd3, this]
theorem s5 (n : Nat) (r : Rw) (x : Nm) (g : List Gd) : TB fns (n + 1) 5 [.val (rD r), .val (.str x)] g = .ret (.int (chg r x)) g := by
  rw [t n 5 d5 rfl]
  cases r with
  | ct a m => simp [mirror, d5, cutG, rD, truth, eqD, chg]
  | mv a c m =>
    have hb := if_le (c = x) (a = x)
    simp [mirror, d5, cutG, rD, truth, eqD, chg, hb]
theorem s6 (n : Nat) (b : Bk) (w : WB b) (x : Nm) (hx : x ∈ b.ns) (k : Nat) (r : Rw) (hr : b.rs[k]? = some r) (g : List Gd) : TB fns (n + 4) 6 [.val (bD b), .val (.str x), .val (.int k)] g = .ret (.int (chg r x)) g := by
  rw [t (n + 3) 6 d6 rfl]
  have hk : k < b.rs.length := (List.getElem?_eq_some_iff.mp hr).1
  simp [mirror, d6, cutG, s3 (n + 1) b w x hx, s4 n b k hk, bdx, bd3, row_at hr, s5]
theorem set_last {α : Type} (g : List α) (x y : α) : (g ++ [x]).set g.length y = g ++ [y] := by
  rw [List.set_append_right _ _ (Nat.le_refl _)]
  simp
theorem dk_congr {ns : List Nm} {h h' : Nm → Int} (e : ∀ n ∈ ns, h n = h' n) : dk ns h = dk ns h' := by
  unfold dk
  exact List.map_congr_left fun n hn => by rw [e n hn]
theorem gaug_dk {T : Tbl} {q : P} {y : Int} {x : Nm} {ns : List Nm} {h : Nm → Int} {g : List Gd} {s : Sx} {ik iv sl : Nat} (hx : x ∈ ns) (hk : s.r[ik]? = some (.val (.str x))) (hv : s.r[iv]? = some (.val (.int y))) (hs : s.r[sl]? = some (.glb g.length)) (hg : s.g = g ++ [dk ns h]) (hl : ns.length < big) {z : Int} (hz : augI q (h x) y = some z) :
    run T (.gaug sl (.var ik) q (.var iv)) s = .nx ⟨s.r, g ++ [dk ns fun n => if n = x then z else h n]⟩ := by
  obtain ⟨r, gg⟩ := s
  simp only at hk hv hs hg
  subst hg
  have e1 : keyD (.str x) = some (nk x) := rfl
  rw [run_gaug]
  simp only [hs, ev_var, hk, onE_ok, List.getElem?_concat_length, e1, dk_get hx, hv, hz, dk_set hx, dk_len, if_pos hl, set_last]
/-- moved_levels -/
theorem s7loop (T : Tbl) (b : Bk) (w : WB b) (A B C : D) (g : List Gd) : ∀ (cs : List (Nm × Nm × Int)) (us : List Int) (h : Nm → Int), (∀ c ∈ cs, (c.1 = wO ∨ c.1 ∈ b.ns) ∧ (c.2.1 = wO ∨ c.2.1 ∈ b.ns)) → ∀ s4 s5 s6 s7 : Slot, ∃ s4' s5' s6' s7' : Slot,
    loopS (bindP (.tp [(.tp [(.nm 4), (.nm 5), (.nm 6)]), (.nm 7)])) (runs T [.ifS (.prim .ne [(.var 4), (.glo "OUT" (D.str [111, 117, 116]))]) [.gaug 3 (.var 4) .sub (.var 7)] [], .ifS (.prim .ne [(.var 5), (.glo "OUT" (D.str [111, 117, 116]))]) [.gaug 3 (.var 5) .add (.var 7)] []])
      (zipD (cs.map cD) (us.map .int)) ⟨[.val A, .val B, .val C, .glb g.length, s4, s5, s6, s7, .none, .none], g ++ [dk b.ns h]⟩ =
    .nx ⟨[.val A, .val B, .val C, .glb g.length, s4', s5', s6', s7', .none, .none], g ++ [dk b.ns fun n => h n + gain n cs us]⟩
  | [], us, h, _, s4, s5, s6, s7 => ⟨s4, s5, s6, s7, by simp [zipD, loopS, gain]⟩
  | c :: cs, [], h, _, s4, s5, s6, s7 => ⟨s4, s5, s6, s7, by simp [zipD, loopS, gain]⟩
  | c :: cs, u :: us, h, hc, s4, s5, s6, s7 => by
    obtain ⟨c1, c2⟩ := hc c (by simp)
    have hl : b.ns.length < big := by
      have := w.zp
      have hb : (big : Nat) = 16777216 := rfl
      unfold Bk.ns
      rw [List.length_map]
      omega
    have no : ∀ n ∈ b.ns, n ≠ wO := fun n hn => by
      obtain ⟨p, hp, rfl⟩ := List.mem_map.mp hn
      exact (w.nm p hp).2
    let R : List Slot := [.val A, .val B, .val C, .glb g.length, .val (.str c.1), .val (.str c.2.1), .val (.int c.2.2), .val (.int u), .none, .none]
    let h1 : Nm → Int := if c.1 = wO then h else fun n => if n = c.1 then h c.1 - u else h n
    have e1 : runs T [.ifS (.prim .ne [(.var 4), (.glo "OUT" (D.str [111, 117, 116]))]) [.gaug 3 (.var 4) .sub (.var 7)] [], .ifS (.prim .ne [(.var 5), (.glo "OUT" (D.str [111, 117, 116]))]) [.gaug 3 (.var 5) .add (.var 7)] []] ⟨R, g ++ [dk b.ns h]⟩ =
        runs T [.ifS (.prim .ne [(.var 5), (.glo "OUT" (D.str [111, 117, 116]))]) [.gaug 3 (.var 5) .add (.var 7)] []] ⟨R, g ++ [dk b.ns h1]⟩ := by
      by_cases z : c.1 = wO
      · simp [R, eqD_str, z, truth, h1]
      · have hm : c.1 ∈ b.ns := c1.resolve_left z
        have := gaug_dk (T := T) (q := .sub) (y := u) (ns := b.ns) (h := h) (g := g) (s := ⟨R, g ++ [dk b.ns h]⟩) (ik := 4) (iv := 7) (sl := 3) hm rfl rfl rfl rfl hl (z := h c.1 - u) rfl
        rw [runs_cons, run_if]
        simp only [evs_var, ev_prim, ev_var, evs_glo, ev_glo, evs_nil, bind_ok, R, List.getElem?_cons_succ, List.getElem?_cons_zero, ap_e17, eqD_str, z, decide_false, Option.map_some, Bool.not_false, ofOpt_some, onE_ok, truth, runs_cons, runs_nil]
        simp only [R] at this
        rw [this]
        simp only [h1, if_neg z]
    let h2 : Nm → Int := if c.2.1 = wO then h1 else fun n => if n = c.2.1 then h1 c.2.1 + u else h1 n
    have e2 : runs T [.ifS (.prim .ne [(.var 5), (.glo "OUT" (D.str [111, 117, 116]))]) [.gaug 3 (.var 5) .add (.var 7)] []] ⟨R, g ++ [dk b.ns h1]⟩ = .nx ⟨R, g ++ [dk b.ns h2]⟩ := by
      by_cases z : c.2.1 = wO
      · simp [R, eqD_str, z, truth, h2]
      · have hm : c.2.1 ∈ b.ns := c2.resolve_left z
        have := gaug_dk (T := T) (q := .add) (y := u) (ns := b.ns) (h := h1) (g := g) (s := ⟨R, g ++ [dk b.ns h1]⟩) (ik := 5) (iv := 7) (sl := 3) hm rfl rfl rfl rfl hl (z := h1 c.2.1 + u) rfl
        rw [runs_cons, run_if]
        simp only [evs_var, ev_prim, ev_var, evs_glo, ev_glo, evs_nil, bind_ok, R, List.getElem?_cons_succ, List.getElem?_cons_zero, ap_e17, eqD_str, z, decide_false, Option.map_some, Bool.not_false, ofOpt_some, onE_ok, truth, runs_cons, runs_nil]
        simp only [R] at this
        rw [this]
        simp only [h2, if_neg z]
    have e3 : dk b.ns h2 = dk b.ns fun n => h n + u * ((if c.2.1 = n then 1 else 0) - (if c.1 = n then 1 else 0)) := by
      refine dk_congr fun n hn => ?_
      have hno := no n hn
      have x1 : h1 n = h n - (if c.1 = n then u else 0) := by
        by_cases z : c.1 = wO
        · have : ¬ c.1 = n := fun e => hno (e.symm.trans z)
          simp only [h1, if_pos z, if_neg this]; omega
        · by_cases q : c.1 = n
          · subst q
            simp [h1, z]
          · have : ¬ n = c.1 := fun e => q e.symm
            simp [h1, z, q, this]
      have x2 : h2 n = h1 n + (if c.2.1 = n then u else 0) := by
        by_cases z : c.2.1 = wO
        · have : ¬ c.2.1 = n := fun e => hno (e.symm.trans z)
          simp only [h2, if_pos z, if_neg this]; omega
        · by_cases q : c.2.1 = n
          · subst q
            simp [h2, z]
          · have : ¬ n = c.2.1 := fun e => q e.symm
            simp [h2, z, q, this]
      rw [x2, x1]
      split <;> split <;> simp <;> omega
    obtain ⟨t4, t5, t6, t7, e4⟩ := s7loop T b w A B C g cs us (fun n => h n + u * ((if c.2.1 = n then 1 else 0) - (if c.1 = n then 1 else 0))) (fun d hd => hc d (List.mem_cons_of_mem _ hd)) (.val (.str c.1)) (.val (.str c.2.1)) (.val (.int c.2.2)) (.val (.int u))
    refine ⟨t4, t5, t6, t7, ?_⟩
    have e5 : bindP (.tp [(.tp [(.nm 4), (.nm 5), (.nm 6)]), (.nm 7)]) (.tup [cD c, .int u]) [.val A, .val B, .val C, .glb g.length, s4, s5, s6, s7, .none, .none] = some R := by
      simp [cD, R]
    simp only [List.map_cons, zipD, loopS, e5, e1, e2, e3]
    rw [e4, show (fun n => h n + gain n (c :: cs) (u :: us)) = fun n => h n + u * ((if c.2.1 = n then 1 else 0) - (if c.1 = n then 1 else 0)) + gain n cs us from by
      funext n
      simp only [gain]
      omega]
def fkD : D → Key
  | .tup [.tup (.str x :: _), _] => nk x
  | _ => .inl 0
def fvD : D → D
  | .tup [_, v] => v
  | d => d
theorem zip_unzip (kd : Gd) : (kd.map (·.1)).zip (kd.map (·.2)) = kd := by
  induction kd with
  | nil => rfl
  | cons x kd ih => simp [ih]
theorem s7 (n : Nat) (b : Bk) (w : WB b) (h : Nm → Int) (us : List Int) (g : List Gd) : TB fns (n + 1) 7 [.val (bD b), .val (hT b h), .val (iT us)] g = .ret (hT b (stepM b us h)) g := by
  rw [t n 7 d7 rfl]
  have zp := w.zp
  let S0 : List Slot := [.val (bD b), .val (hT b h), .val (iT us), .none, .none, .none, .none, .none, .none, .none]
  have hd := dcomp_pure (T := TB fns n) (k := .prim .ix [(.var 8), (.kint 0)]) (v := .var 9) (pt := .tp [(.nm 8), (.nm 9)]) (it := .zip) (src := [(.prim .ix [(.var 0), (.kint 0)]), (.var 1)]) (ws := [8, 9]) (st := ⟨S0, g⟩) (s1 := ⟨S0, g⟩) (ds := [.tup (b.ps.map pD), hT b h]) (xs := b.ps.map fun p => .tup [pD p, .int (h p.1)])
    fkD fvD (by simp [S0, bdx, bd0]) (by simp only [ItK.get, hT, zip_map]) (by rw [List.length_map]; show b.ps.length ≤ 16777216; omega) (by intro j hj; simp at hj; rcases hj with rfl | rfl <;> simp [S0]) (r0 := S0) rfl fun y hy => by
      obtain ⟨q, _, rfl⟩ := List.mem_map.mp hy
      exact ⟨[.val (bD b), .val (hT b h), .val (iT us), .none, .none, .none, .none, .none, .val (pD q), .val (.int (h q.1))], .str q.1, by simp [S0], rfl, by simp [pD], rfl, by simp [fvD]⟩
  have hf : (b.ps.map fun p => D.tup [pD p, .int (h p.1)]).foldl (fun a x => setK a (fkD x) (fvD x)) [] = dk b.ns h := by
    rw [fold_setK fkD fvD]
    · simp only [List.nil_append, List.map_map, dk, Bk.ns]
      rfl
    · have e : (b.ps.map fun p => D.tup [pD p, .int (h p.1)]).map fkD = b.ns.map nk := by
        simp only [List.map_map, Bk.ns]
        rfl
      rw [e, List.map_nil, List.nil_append]
      exact w.nd.map nk fun a c hac he => hac (nk_inj.mp he)
  rw [hf] at hd
  obtain ⟨t4, t5, t6, t7, e⟩ := s7loop (TB fns n) b w (bD b) (hT b h) (iT us) g b.cs us h w.ce .none .none .none .none
  have e0 : evs (TB fns n) [(.prim .ix [(.var 0), (.kint 1)]), (.var 2)] ⟨[.val (bD b), .val (hT b h), .val (iT us), .glb g.length, .none, .none, .none, .none, .none, .none], g ++ [dk b.ns h]⟩ = .ok [.tup (b.cs.map cD), iT us] ⟨[.val (bD b), .val (hT b h), .val (iT us), .glb g.length, .none, .none, .none, .none, .none, .none], g ++ [dk b.ns h]⟩ := by
    simp [bdx, bd1]
  have hlen : (dk b.ns fun n => h n + gain n b.cs us).length ≤ big := by
    rw [dk_len]
    unfold Bk.ns
    rw [List.length_map]
    show b.ps.length ≤ 16777216
    omega
  have hv : ((dk b.ns fun n => h n + gain n b.cs us).map (·.2)) = b.ps.map fun p => .int (h p.1 + gain p.1 b.cs us) := by
    simp only [dk, Bk.ns, List.map_map]
    rfl
  have hg : ItK.zip.get [.tup (b.cs.map cD), iT us] = some (zipD (b.cs.map cD) (us.map .int)) := rfl
  simp only [S0] at hd
  have hm : mirror (TB fns n) d7 [.val (bD b), .val (hT b h), .val (iT us)] g = .ret (.tup ((dk b.ns fun n => h n + gain n b.cs us).map (·.2))) g := by
    simp [mirror, d7, cutG, hd, zip_unzip, run_for, e0, hg, e, hlen]
  rw [hm, hv]
  rfl
end K17
end Rf

set_option Elab.async false
set_option linter.all false
set_option maxRecDepth 100000
set_option maxHeartbeats 4000000
namespace Rf
open PySem PySem.Spec PyProof.Rows L2
namespace K17
theorem bigE : (big : Nat) = 16777216 := rfl
def fS (F : Nm → Int → Int) : D → D
  | .tup [.tup (.str x :: _), .int l] => .int (F x l)
  | d => d
def fS2 (F : Nm → Int → Int) : D → D
  | .tup [.int l, .tup (.str x :: _)] => .int (F x l)
  | d => d
theorem s8 (n : Nat) (b : Bk) (w : WB b) (h : Nm → Int) (k : Nat) (r : Rw) (hr : b.rs[k]? = some r) (g : List Gd) : TB fns (n + 5) 8 [.val (bD b), .val (hT b h), .val (.int k)] g = .ret (hT b (stepD r h)) g := by
  rw [t (n + 4) 8 d8 rfl]
  have zp := w.zp
  let S0 : List Slot := [.val (bD b), .val (hT b h), .val (.int k), .none, .none]
  have hc := comp_map (T := TB fns (n + 4)) (elt := (.prim .add [(.var 4), (.call 6 [(.var 0), (.prim .ix [(.var 3), (.kint 0)]), (.var 2)])])) (pt := (.tp [(.nm 3), (.nm 4)])) (it := .zip) (src := [(.prim .ix [(.var 0), (.kint 0)]), (.var 1)]) (ws := [3, 4]) (st := ⟨S0, g⟩) (s1 := ⟨S0, g⟩) (ds := [.tup (b.ps.map pD), hT b h]) (xs := b.ps.map fun p => .tup [pD p, .int (h p.1)])
    (fS fun x l => l + chg r x) (by simp [S0, bdx, bd0]) (by simp only [ItK.get, hT, zip_map]) (by rw [List.length_map, bigE]; omega) (by intro j hj; simp at hj; rcases hj with rfl | rfl <;> simp [S0]) (r0 := S0) rfl fun y hy => by
      obtain ⟨q, hq, rfl⟩ := List.mem_map.mp hy
      have := s6 n b w q.1 (List.mem_map_of_mem hq) k r hr g
      refine ⟨[.val (bD b), .val (hT b h), .val (.int k), .val (pD q), .val (.int (h q.1))], by simp [S0], rfl, ?_⟩
      have e1 : P.ap .ix [pD q, .int 0] = some (.str q.1) := by simp [pD]
      simp [e1, this]
      rfl
  simp only [S0] at hc
  have e : (b.ps.map fun p => D.tup [pD p, .int (h p.1)]).map (fS fun x l => l + chg r x) = b.ps.map fun p => .int (stepD r h p.1) := by
    rw [List.map_map]; rfl
  rw [e] at hc
  have hm : mirror (TB fns (n + 4)) d8 [.val (bD b), .val (hT b h), .val (.int k)] g = .ret (.tup (b.ps.map fun p => .int (stepD r h p.1))) g := by
    simp [mirror, d8, cutG, hc]
  rw [hm]
  rfl
def st0 (b : Bk) : Nm → Int := fun x => ((b.ps.find? fun p => decide (p.1 = x)).map (·.2.1)).getD 0
theorem find_nd {α : Type} : ∀ {ps : List (Nm × α)} {p : Nm × α}, (ps.map (·.1)).Nodup → p ∈ ps → ps.find? (fun q => decide (q.1 = p.1)) = some p
  | [], p, _, hp => by simp at hp
  | q :: ps, p, nd, hp => by
    rw [List.find?_cons]
    simp only [List.map_cons, List.nodup_cons] at nd
    rcases List.mem_cons.mp hp with rfl | hp
    · simp
    · have : ¬ q.1 = p.1 := fun e => nd.1 (by rw [e]; exact List.mem_map_of_mem hp)
      simp only [this, decide_false]
      exact find_nd nd.2 hp
theorem st0_at {b : Bk} (w : WB b) {p : Nm × Int × Int} (hp : p ∈ b.ps) : st0 b p.1 = p.2.1 := by
  unfold st0
  rw [find_nd w.nd hp]
  rfl
theorem stocks (b : Bk) (w : WB b) : (b.ps.map fun p => D.int p.2.1) = b.ps.map fun p => .int (st0 b p.1) := List.map_congr_left fun p hp => by rw [st0_at w hp]
def i1D : D → D
  | .tup [_, s, _] => s
  | d => d
theorem s9 (n : Nat) (b : Bk) (w : WB b) (g : List Gd) : TB fns (n + 1) 9 [.val (bD b)] g = .ret (hT b (st0 b)) g := by
  rw [t n 9 d9 rfl]
  have zp := w.zp
  have hc := comp_map (T := TB fns n) (elt := .var 2) (pt := (.tp [(.nm 1), (.nm 2), (.nm 3)])) (it := .seq) (src := [(.prim .ix [(.var 0), (.kint 0)])]) (ws := [1, 2, 3]) (st := ⟨[.val (bD b), .none, .none, .none], g⟩) (s1 := ⟨[.val (bD b), .none, .none, .none], g⟩) (ds := [.tup (b.ps.map pD)]) (xs := b.ps.map pD)
    i1D (by simp [bdx, bd0]) rfl (by rw [List.length_map, bigE]; omega) (by intro j hj; simp at hj; rcases hj with rfl | rfl | rfl <;> simp) (r0 := [.val (bD b), .none, .none, .none]) rfl fun y hy => by
      obtain ⟨q, hq, rfl⟩ := List.mem_map.mp hy
      exact ⟨[.val (bD b), .val (.str q.1), .val (.int q.2.1), .val (.int q.2.2)], by simp [pD], rfl, by simp [pD, i1D]⟩
  have e : (b.ps.map pD).map i1D = b.ps.map fun p => .int (st0 b p.1) := by
    rw [← stocks b w, List.map_map]
    rfl
  rw [e] at hc
  have hm : mirror (TB fns n) d9 [.val (bD b)] g = .ret (.tup (b.ps.map fun p => .int (st0 b p.1))) g := by
    simp [mirror, d9, cutG, hc]
  rw [hm]
  rfl
theorem drop_at {α : Type} {l : List α} {k : Nat} {x : α} {r : List α} (h : l.drop k = x :: r) : l[k]? = some x ∧ l.drop (k + 1) = r := by
  constructor
  · have := congrArg (fun m => m[0]?) h
    simpa using this
  · rw [← List.drop_drop, h]; rfl
/-- the turns of levels_of -/
theorem s10loop (n : Nat) (b : Bk) (w : WB b) (A : D) (g : List Gd) : ∀ (us : List (List Int)) (k : Nat) (rs : List Rw) (h : Nm → Int) (acc : List D) (s4 s5 : Slot), b.rs.drop k = rs → us.length = rs.length → acc.length + us.length < big → ∃ s4' s5' : Slot,
    loopS (bindP (.tp [(.nm 4), (.nm 5)])) (runs (TB fns (n + 5)) [.set (.nm 2) (.call 7 [(.var 0), (.var 2), (.var 5)]), .drop (.mutl .append 3 [(.var 2)]), .set (.nm 2) (.call 8 [(.var 0), (.var 2), (.var 4)])])
      (enumD k (us.map iT)) ⟨[.val (bD b), .val A, .val (hT b h), .own acc, s4, s5], g⟩ = .nx ⟨[.val (bD b), .val A, .val (hT b (lvE b h rs us)), .own (acc ++ (lvF b h rs us).map (hT b)), s4', s5'], g⟩
  | [], k, rs, h, acc, s4, s5, hd, hl, _ => by
    cases rs with
    | cons r rs => simp at hl
    | nil => exact ⟨s4, s5, by simp [enumD, loopS, lvE, lvF]⟩
  | u :: us, k, rs, h, acc, s4, s5, hd, hl, hb => by
    cases rs with
    | nil => simp at hl
    | cons r rs =>
      obtain ⟨q1, q2⟩ := drop_at hd
      have a7 := s7 (n + 4) b w h u g
      have a8 := s8 n b w (stepM b u h) k r q1 g
      simp only [List.length_cons] at hb
      obtain ⟨t4, t5, e⟩ := s10loop n b w A g us (k + 1) rs (stepD r (stepM b u h)) (acc ++ [hT b (stepM b u h)]) (.val (.int k)) (.val (iT u)) q2 (by simpa using hl) (by simp; omega)
      have hb2 : acc.length < big := by omega
      refine ⟨t4, t5, ?_⟩
      simp only [List.map_cons, enumD, loopS]
      have e1 : bindP (.tp [(.nm 4), (.nm 5)]) (.tup [.int (k : Int), iT u]) [.val (bD b), .val A, .val (hT b h), .own acc, s4, s5] = some [.val (bD b), .val A, .val (hT b h), .own acc, .val (.int k), .val (iT u)] := by simp
      rw [e1]
      have e2 : runs (TB fns (n + 5)) [.set (.nm 2) (.call 7 [(.var 0), (.var 2), (.var 5)]), .drop (.mutl .append 3 [(.var 2)]), .set (.nm 2) (.call 8 [(.var 0), (.var 2), (.var 4)])] ⟨[.val (bD b), .val A, .val (hT b h), .own acc, .val (.int k), .val (iT u)], g⟩ =
          .nx ⟨[.val (bD b), .val A, .val (hT b (stepD r (stepM b u h))), .own (acc ++ [hT b (stepM b u h)]), .val (.int k), .val (iT u)], g⟩ := by
        simp [a7, MutK.ap, hb2, a8]
      simp only [e2, e]
      simp [lvE, lvF]
def tlD (ts : List (List Int)) : D := .tup (ts.map iT)
def lvAll (b : Bk) (ts : List (List Int)) : List D := (lvF b (st0 b) b.rs ts).map (hT b) ++ [hT b (lvE b (st0 b) b.rs ts)]
theorem s10 (n : Nat) (b : Bk) (w : WB b) (ts : List (List Int)) (hl : ts.length = b.rs.length) (g : List Gd) : TB fns (n + 6) 10 [.val (bD b), .val (tlD ts)] g = .ret (.tup (lvAll b ts)) g := by
  rw [t (n + 5) 10 d10 rfl]
  have zr := w.zr
  have a9 := s9 (n + 4) b w g
  obtain ⟨t4, t5, e⟩ := s10loop n b w (tlD ts) g ts 0 b.rs (st0 b) [] .none .none rfl hl (by simp [bigE]; omega)
  have hg : ItK.enum.get [tlD ts] = some (enumD 0 (ts.map iT)) := by
    simp only [ItK.get, tlD]
    rw [if_pos]
    rw [List.length_map, bigE]; omega
  have hlen : (lvF b (st0 b) b.rs ts).length + 1 ≤ big := by
    have : ∀ (rs : List Rw) (us : List (List Int)) (h : Nm → Int), (lvF b h rs us).length ≤ us.length := by
      intro rs
      induction rs with
      | nil => intro us h; simp [lvF]
      | cons r rs ih =>
        intro us h
        cases us with
        | nil => simp [lvF]
        | cons u us => simp [lvF]; exact ih us _
    have := this b.rs ts (st0 b)
    rw [bigE]; omega
  simp only [List.nil_append] at e
  simp [mirror, d10, cutG, a9, run_for, hg, e, seqD, hlen, lvAll]
end K17
end Rf

set_option Elab.async false
set_option linter.all false
set_option maxRecDepth 100000
set_option maxHeartbeats 4000000
namespace Rf
open PySem PySem.Spec PyProof.Rows L2
namespace K17
def absI (i : Int) : Int := if i < 0 then -i else i
def slipD (h : Nm → Int) : Rw → D
  | .ct a m => .int (absI (h a - m))
  | .mv _ _ _ => .non
theorem first_at {α : Type} [DecidableEq α] : ∀ {xs : List α} {a : α}, a ∈ xs → ∃ j : Nat, xs[j]? = some a ∧ ∀ i < j, xs[i]? ≠ some a
  | [], a, h => by simp at h
  | x :: xs, a, h => by
    by_cases z : x = a
    · exact ⟨0, by simp [z], by simp⟩
    · obtain ⟨j, h1, h2⟩ := first_at (xs := xs) (a := a) (by
        rcases List.mem_cons.mp h with e | e
        · exact absurd e.symm z
        · exact e)
      refine ⟨j + 1, by simpa using h1, fun i hi => ?_⟩
      cases i with
      | zero => simpa using z
      | succ i => simpa using h2 i (by omega)
theorem idx {b : Bk} (w : WB b) {a : Nm} (ha : a ∈ b.ns) (h : Nm → Int) : ∃ j : Nat, P.ap .index [.lst (b.ns.map .str), .str a] = some (.int j) ∧ ixD (hT b h) j = some (.int (h a)) := by
  obtain ⟨j, h1, h2⟩ := first_at ha
  have low : ∀ y ∈ b.ns, y.all lowC = true := fun y hy => by
    obtain ⟨q, hq, rfl⟩ := List.mem_map.mp hy
    exact (w.nm q hq).1.2.2
  refine ⟨j, ?_, ?_⟩
  · have := index_str a b.ns 0 j h1 h2
    rw [ap_e54, nms_lst low, nm_shaped (low a ha), if_pos (by decide), this]
    simp
  · refine ix_nat ?_
    have : (b.ps.map fun p => D.int (h p.1)) = b.ns.map fun n => D.int (h n) := by simp [Bk.ns]
    rw [this, List.getElem?_map, h1]
    rfl
theorem names_ev {T : Tbl} {b : Bk} (w : WB b) {r : List Slot} {g : List Gd} {i : Nat} {j : Nat} (h0 : r[i]? = some (.val (bD b))) (hij : i ≠ j) (hj : r[j]? = some .none) : ev T (.comp (.prim .ix [(.var j), (.kint 0)]) (.nm j) .seq [(.prim .ix [(.var i), (.kint 0)])] [] [j]) ⟨r, g⟩ = .ok (.lst (b.ns.map .str)) ⟨r, g⟩ := by
  have zp := w.zp
  have hjl : j < r.length := (List.getElem?_eq_some_iff.mp hj).1
  have wr : wipeR r [j] = r := by
    show r.set j .none = r
    refine List.ext_getElem? fun k => ?_
    by_cases z : j = k
    · subst z; rw [List.getElem?_set_self hjl, hj]
    · rw [List.getElem?_set_ne z]
  have := comp_map (T := T) (elt := .prim .ix [(.var j), (.kint 0)]) (pt := .nm j) (it := .seq) (src := [(.prim .ix [(.var i), (.kint 0)])]) (ws := [j]) (st := ⟨r, g⟩) (s1 := ⟨r, g⟩) (ds := [.tup (b.ps.map pD)]) (xs := b.ps.map pD)
    (fun d => (ixD d 0).getD .non) (by simp [h0, bdx, bd0]) rfl (by rw [List.length_map, bigE]; omega) (by intro k hk; simp at hk; subst hk; exact .inr (.inl hj)) (r0 := r) wr fun y hy => by
      obtain ⟨q, hq, rfl⟩ := List.mem_map.mp hy
      refine ⟨r.set j (.val (pD q)), by simp [hjl], ?_, ?_⟩
      · show (r.set j (.val (pD q))).set j .none = r
        rw [List.set_set]
        exact wr
      · have : (r.set j (.val (pD q)))[j]? = some (.val (pD q)) := List.getElem?_set_self hjl
        have e1 : P.ap .ix [pD q, .int 0] = some (.str q.1) := by simp [pD]
        have e2 : ixD (pD q) 0 = some (.str q.1) := by simp [pD]
        simp [this, e1, e2]
  rw [this]
  congr 2
  simp [Bk.ns, pD]
theorem s25 (n : Nat) (b : Bk) (w : WB b) (h : Nm → Int) (k : Nat) (r : Rw) (hr : b.rs[k]? = some r) (g : List Gd) : TB fns (n + 1) 25 [.val (bD b), .val (hT b h), .val (.int k)] g = .ret (slipD h r) g := by
  rw [t n 25 d25 rfl]
  have hmem : r ∈ b.rs := List.mem_of_getElem? hr
  cases r with
  | mv a c m =>
    have e : rD (.mv a c m) = .tup [.str wM, .str a, .str c, .int m] := rfl
    simp [mirror, d25, cutG, bdx, bd3, row_at hr, e, eqD, truth, slipD]
  | ct a m =>
    have ha := w.rc a m hmem
    obtain ⟨j, q1, q2⟩ := idx w ha h
    have e : rD (.ct a m) = .tup [.str wC, .str a, .int m] := rfl
    have hn := names_ev (T := TB fns n) w (r := [.val (bD b), .val (hT b h), .val (.int k), .val (rD (.ct a m)), .none]) (g := g) (i := 0) (j := 4) rfl (by decide) rfl
    rw [e] at hn
    have q3 : P.ap .ix [hT b h, .int j] = some (.int (h a)) := q2
    simp [mirror, d25, cutG, bdx, bd3, row_at hr, e, eqD, truth, slipD, hn, P.fits, q1, q3, absI, -ap_e54]
theorem s11loop (T : Tbl) (b : Bk) (w : WB b) (A : D) (L : List D) (g : List Gd) : ∀ (rs : List Rw) (hs : List (Nm → Int)) (k : Nat) (acc : List D) (s5 s6 s7 : Slot), rs.length = hs.length → (∀ r ∈ rs, r ∈ b.rs) → (∀ (j : Nat) (h : Nm → Int), hs[j]? = some h → L[k + j]? = some (hT b h)) → acc.length + rs.length < big → ∃ s5' s6' s7' : Slot,
    loopS (bindP (.tp [(.nm 5), (.nm 6)])) (runs T [.drop (.mutl .append 2 [(.ite (.prim .eq [(.prim .ix [(.var 6), (.kint 0)]), (.glo "COUNT" (D.str [99, 111, 117, 110, 116]))]) (.prim .abs [(.prim .sub [(.prim .ix [(.prim .ix [(.var 4), (.var 5)]), (.mth .index (.var 3) [(.prim .ix [(.var 6), (.kint 1)])])]), (.prim .ix [(.var 6), (.kint 2)])])]) .knon)])])
      (enumD k (rs.map rD)) ⟨[.val (bD b), .val A, .own acc, .val (.lst (b.ns.map .str)), .val (.tup L), s5, s6, s7], g⟩ = .nx ⟨[.val (bD b), .val A, .own (acc ++ (rs.zip hs).map fun q => slipD q.2 q.1), .val (.lst (b.ns.map .str)), .val (.tup L), s5', s6', s7'], g⟩
  | [], hs, k, acc, s5, s6, s7, hl, _, _, _ => ⟨s5, s6, s7, by simp [enumD, loopS]⟩
  | r :: rs, [], k, acc, s5, s6, s7, hl, _, _, _ => by simp at hl
  | r :: rs, h :: hs, k, acc, s5, s6, s7, hl, hm, hL, hb => by
    simp only [List.length_cons] at hb
    obtain ⟨t5, t6, t7, e⟩ := s11loop T b w A L g rs hs (k + 1) (acc ++ [slipD h r]) (.val (.int k)) (.val (rD r)) s7 (by simpa using hl) (fun q hq => hm q (List.mem_cons_of_mem _ hq)) (fun j h' hj => by
      have := hL (j + 1) h' (by simpa using hj)
      rwa [show k + (j + 1) = k + 1 + j by omega] at this) (by simp; omega)
    have h0 : ixD (.tup L) (k : Int) = some (hT b h) := ix_nat (by have := hL 0 h rfl; simpa using this)
    have hb2 : acc.length < big := by omega
    refine ⟨t5, t6, t7, ?_⟩
    simp only [List.map_cons, enumD, loopS]
    have e1 : bindP (.tp [(.nm 5), (.nm 6)]) (.tup [.int (k : Int), rD r]) [.val (bD b), .val A, .own acc, .val (.lst (b.ns.map .str)), .val (.tup L), s5, s6, s7] = some [.val (bD b), .val A, .own acc, .val (.lst (b.ns.map .str)), .val (.tup L), .val (.int k), .val (rD r), s7] := by simp
    have e2 : runs T [.drop (.mutl .append 2 [(.ite (.prim .eq [(.prim .ix [(.var 6), (.kint 0)]), (.glo "COUNT" (D.str [99, 111, 117, 110, 116]))]) (.prim .abs [(.prim .sub [(.prim .ix [(.prim .ix [(.var 4), (.var 5)]), (.mth .index (.var 3) [(.prim .ix [(.var 6), (.kint 1)])])]), (.prim .ix [(.var 6), (.kint 2)])])]) .knon)])] ⟨[.val (bD b), .val A, .own acc, .val (.lst (b.ns.map .str)), .val (.tup L), .val (.int k), .val (rD r), s7], g⟩ =
        .nx ⟨[.val (bD b), .val A, .own (acc ++ [slipD h r]), .val (.lst (b.ns.map .str)), .val (.tup L), .val (.int k), .val (rD r), s7], g⟩ := by
      cases r with
      | mv a c m => simp [rD, eqD, truth, MutK.ap, hb2, slipD]
      | ct a m =>
        obtain ⟨j, q1, q2⟩ := idx w (w.rc a m (hm _ (by simp))) h
        have q3 : P.ap .ix [hT b h, .int j] = some (.int (h a)) := q2
        simp [rD, eqD, truth, MutK.ap, hb2, slipD, h0, P.fits, q1, q3, absI, -ap_e54]
    simp only [e1, e2, e]
    simp
theorem lvF_len (b : Bk) : ∀ (rs : List Rw) (us : List (List Int)) (h : Nm → Int), us.length = rs.length → (lvF b h rs us).length = rs.length
  | [], us, h, _ => by simp [lvF]
  | r :: rs, [], h, hl => by simp at hl
  | r :: rs, u :: us, h, hl => by simp [lvF]; exact lvF_len b rs us _ (by simpa using hl)
def slips (b : Bk) (ts : List (List Int)) : List D := (b.rs.zip (lvF b (st0 b) b.rs ts)).map fun q => slipD q.2 q.1
theorem s11 (n : Nat) (b : Bk) (w : WB b) (ts : List (List Int)) (hl : ts.length = b.rs.length) (g : List Gd) : TB fns (n + 7) 11 [.val (bD b), .val (tlD ts)] g = .ret (.tup (slips b ts)) g := by
  rw [t (n + 6) 11 d11 rfl]
  have zr := w.zr
  have a10 := s10 n b w ts hl g
  have hn := names_ev (T := TB fns (n + 6)) w (r := [.val (bD b), .val (tlD ts), .own [], .none, .none, .none, .none, .none]) (g := g) (i := 0) (j := 7) rfl (by decide) rfl
  obtain ⟨t5, t6, t7, e⟩ := s11loop (TB fns (n + 6)) b w (tlD ts) (lvAll b ts) g b.rs (lvF b (st0 b) b.rs ts) 0 [] .none .none .none (lvF_len b _ _ _ hl).symm (fun _ h => h) (fun j h hj => by
    have hj' := (List.getElem?_eq_some_iff.mp hj).1
    unfold lvAll
    rw [List.getElem?_append_left (by simpa using hj'), Nat.zero_add, List.getElem?_map, hj]
    rfl) (by simp [bigE]; omega)
  have hg : ItK.enum.get [.tup (b.rs.map rD)] = some (enumD 0 (b.rs.map rD)) := by
    simp only [ItK.get]
    rw [if_pos]
    rw [List.length_map, bigE]; omega
  simp only [List.nil_append] at e
  simp [mirror, d11, cutG, hn, a10, run_for, bdx, bd3, hg, e, slips]
/-! ### what is missing -/
def prs (b : Bk) (ts : List (List Int)) : List ((Nm × Nm × Int) × Int) := ts.flatMap fun us => b.cs.zip us
def prD (p : (Nm × Nm × Int) × Int) : D := .tup [cD p.1, .int p.2]
theorem zip_cs : ∀ (cs : List (Nm × Nm × Int)) (us : List Int), zipD (cs.map cD) (us.map .int) = (cs.zip us).map prD
  | [], us => by simp [zipD]
  | c :: cs, [] => by simp [zipD]
  | c :: cs, u :: us => by simp [zipD, zip_cs cs us, prD]
theorem zip_len_le {α β : Type} (a : List α) (b : List β) : (a.zip b).length ≤ a.length := by rw [List.length_zip]; omega
theorem prs_len {b : Bk} : ∀ (ts : List (List Int)), (prs b ts).length ≤ ts.length * b.cs.length
  | [] => by simp [prs]
  | us :: ts => by
    have := prs_len (b := b) ts
    have h2 := zip_len_le b.cs us
    unfold prs at this ⊢
    rw [List.flatMap_cons, List.length_append, List.length_cons, Nat.add_mul]
    omega
theorem sum_ints : ∀ ns : List Int, intsD (ns.map .int) = some ns
  | [] => rfl
  | n :: ns => by simp [intsD, sum_ints ns]
def missL (b : Bk) (ts : List (List Int)) : Int := (ts.map fun us => gain wO b.cs us).sum
theorem gain_sum (p : Nm) : ∀ (cs : List (Nm × Nm × Int)) (us : List Int), (((cs.zip us).filter fun q => decide (q.1.2.1 = p)).map (·.2)).sum - (((cs.zip us).filter fun q => decide (q.1.1 = p)).map (·.2)).sum = gain p cs us
  | [], us => by simp [gain]
  | c :: cs, [] => by simp [gain]
  | c :: cs, u :: us => by
    have ih := gain_sum p cs us
    simp only [List.zip_cons_cons, List.filter_cons, gain]
    by_cases h1 : c.2.1 = p <;> by_cases h2 : c.1 = p <;> simp [h1, h2] at ih ⊢ <;> omega
theorem miss_sum (b : Bk) : ∀ ts : List (List Int), (((prs b ts).filter fun q => decide (q.1.2.1 = wO)).map (·.2)).sum - (((prs b ts).filter fun q => decide (q.1.1 = wO)).map (·.2)).sum = missL b ts
  | [] => by simp [prs, missL]
  | us :: ts => by
    have ih := miss_sum b ts
    have g := gain_sum wO b.cs us
    unfold prs at ih ⊢
    unfold missL at ih ⊢
    simp only [List.flatMap_cons, List.filter_append, List.map_append, List.sum_append, List.map_cons, List.sum_cons]
    omega
def kpO : D → Bool
  | .tup [.tup [_, .str y, _], _] => decide (y = wO)
  | _ => false
def kpF : D → Bool
  | .tup [.tup [.str y, _, _], _] => decide (y = wO)
  | _ => false
theorem s12 (n : Nat) (b : Bk) (w : WB b) (ts : List (List Int)) (hl : ts.length = b.rs.length) (g : List Gd) : TB fns (n + 1) 12 [.val (bD b), .val (tlD ts)] g = .ret (.int (missL b ts)) g := by
  rw [t n 12 d12 rfl]
  have zr := w.zr
  have zc := w.zc
  have pl := prs_len (b := b) ts
  have pm : ts.length * b.cs.length ≤ 50 * 20 := Nat.mul_le_mul (by omega) zc
  let S0 : List Slot := [.val (bD b), .val (tlD ts), .none, .none, .none, .none, .none, .none, .none, .none]
  have hfm : ((ts.map iT).flatMap fun x => ((match x with | .tup l => zipD (b.cs.map cD) l | _ => []).filter fun _ => true).map fun y => y) = (prs b ts).map prD := by
    unfold prs
    rw [List.flatMap_map, List.map_flatMap]
    congr 1
    funext us
    simp only [iT, zip_cs]
    rw [List.filter_eq_self.mpr (fun _ _ => rfl), List.map_id']
  have hc := comp2_pure (T := TB fns n) (elt := (.tup [(.var 5), (.var 6)])) (p1 := .nm 4) (i1 := .seq) (src1 := [(.var 1)]) (p2 := (.tp [(.nm 5), (.nm 6)])) (i2 := .zip) (src2 := [(.prim .ix [(.var 0), (.kint 1)]), (.var 4)]) (c2 := []) (ws := [4, 5, 6]) (ws2 := [5, 6]) (st := ⟨S0, g⟩) (s1 := ⟨S0, g⟩) (ds := [tlD ts]) (xs := ts.map iT)
    (fun x => match x with | .tup l => zipD (b.cs.map cD) l | _ => []) (fun _ _ => true) (fun _ y => y) (by simp [S0]) rfl (by rw [hfm, List.length_map, bigE]; omega) (by intro j hj; simp at hj; rcases hj with rfl | rfl | rfl <;> simp [S0]) (by decide) (r0 := S0) rfl fun x hx => by
      obtain ⟨us, _, rfl⟩ := List.mem_map.mp hx
      refine ⟨[.val (bD b), .val (tlD ts), .none, .none, .val (iT us), .none, .none, .none, .none, .none], [.tup (b.cs.map cD), iT us], [.val (bD b), .val (tlD ts), .none, .none, .val (iT us), .none, .none, .none, .none, .none], by simp [S0], by simp [bdx, bd1], rfl, rfl, rfl, fun y hy => ?_⟩
      have hy : y ∈ (b.cs.zip us).map prD := by rw [← zip_cs]; exact hy
      obtain ⟨q, _, rfl⟩ := List.mem_map.mp hy
      exact ⟨[.val (bD b), .val (tlD ts), .none, .none, .val (iT us), .val (cD q.1), .val (.int q.2), .none, .none, .none], by simp [prD], rfl, by simp, fun _ => by simp [prD, bigE]⟩
  rw [hfm] at hc
  simp only [S0] at hc
  have sums : ∀ (kp : D → Bool) (iv : Nat) (kq : (Nm × Nm × Int) × Int → Bool) (r3 : Slot), (iv = 8 ∨ iv = 7) → (∀ q, kp (prD q) = kq q) → (∀ (q : (Nm × Nm × Int) × Int), (if iv = 8 then q.1.2.1 else q.1.1) = wO ↔ kq q = true) → (r3 = .none ∨ ∃ d, r3 = .val d) →
      ev (TB fns n) (.comp (.var 6) (.tp [(.tp [(.nm 7), (.nm 8), (.nm 9)]), (.nm 6)]) .seq [(.var 2)] [(.prim .eq [(.var iv), (.glo "OUT" (D.str [111, 117, 116]))])] [7, 8, 9, 6]) ⟨[.val (bD b), .val (tlD ts), .val (.lst ((prs b ts).map prD)), r3, .none, .none, .none, .none, .none, .none], g⟩ =
        .ok (.lst (((prs b ts).filter kq).map fun q => .int q.2)) ⟨[.val (bD b), .val (tlD ts), .val (.lst ((prs b ts).map prD)), r3, .none, .none, .none, .none, .none, .none], g⟩ := by
    intro kp iv kq r3 hiv hkp hiff hr3
    have := comp_pure (T := TB fns n) (elt := .var 6) (pt := (.tp [(.tp [(.nm 7), (.nm 8), (.nm 9)]), (.nm 6)])) (it := .seq) (src := [(.var 2)]) (cs := [(.prim .eq [(.var iv), (.glo "OUT" (D.str [111, 117, 116]))])]) (ws := [7, 8, 9, 6]) (st := ⟨[.val (bD b), .val (tlD ts), .val (.lst ((prs b ts).map prD)), r3, .none, .none, .none, .none, .none, .none], g⟩) (s1 := ⟨[.val (bD b), .val (tlD ts), .val (.lst ((prs b ts).map prD)), r3, .none, .none, .none, .none, .none, .none], g⟩) (ds := [.lst ((prs b ts).map prD)]) (xs := (prs b ts).map prD)
      kp (fun d => (ixD d 1).getD .non) (by simp) rfl (by rw [List.length_map, bigE]; omega) (by intro j hj; simp at hj; rcases hj with rfl | rfl | rfl | rfl <;> simp) (r0 := [.val (bD b), .val (tlD ts), .val (.lst ((prs b ts).map prD)), r3, .none, .none, .none, .none, .none, .none]) rfl fun y hy => by
        obtain ⟨q, _, rfl⟩ := List.mem_map.mp hy
        have hq := hiff q
        refine ⟨[.val (bD b), .val (tlD ts), .val (.lst ((prs b ts).map prD)), r3, .none, .none, .val (.int q.2), .val (.str q.1.1), .val (.str q.1.2.1), .val (.int q.1.2.2)], by simp [prD, cD], rfl, ?_, fun _ => by simp [prD]⟩
        rw [hkp q]
        rcases hiv with rfl | rfl
        · simp only [if_true] at hq
          cases e : kq q with
          | true => simp [eqD_str, hq.mpr e, truth]
          | false =>
            have : ¬ q.1.2.1 = wO := fun z => by rw [hq.mp z] at e; cases e
            simp [eqD_str, this, truth]
        · simp only [show ¬ (7 = 8) by decide, if_false] at hq
          cases e : kq q with
          | true => simp [eqD_str, hq.mpr e, truth]
          | false =>
            have : ¬ q.1.1 = wO := fun z => by rw [hq.mp z] at e; cases e
            simp [eqD_str, this, truth]
    rw [this]
    congr 2
    rw [List.filter_map, List.map_map]
    have : (kp ∘ prD) = kq := funext hkp
    rw [this]
    rfl
  have c1 := sums kpO 8 (fun q => decide (q.1.2.1 = wO)) .none (.inl rfl) (fun q => rfl) (fun q => by simp) (.inl rfl)
  have gm : ∀ l : List ((Nm × Nm × Int) × Int), (l.map fun q => D.int q.2) = (l.map (·.2)).map .int := fun l => by simp
  rw [gm] at c1
  have c2 := sums kpF 7 (fun q => decide (q.1.1 = wO)) (.val (.int (((prs b ts).filter fun q => decide (q.1.2.1 = wO)).map (·.2)).sum)) (.inr rfl) (fun q => rfl) (fun q => by simp) (.inr ⟨_, rfl⟩)
  rw [gm] at c2
  have hm : mirror (TB fns n) d12 [.val (bD b), .val (tlD ts)] g = .ret (.int ((((prs b ts).filter fun q => decide (q.1.2.1 = wO)).map (·.2)).sum - (((prs b ts).filter fun q => decide (q.1.1 = wO)).map (·.2)).sum)) g := by
    simp only [mirror, d12, List.length_cons, List.length_nil, List.replicate, List.cons_append, List.nil_append, if_true, Nat.reduceAdd, Nat.reduceSub]
    simp [cutG, hc, c1, c2, sum_ints, -List.map_map]
  rw [hm, miss_sum]
end K17
end Rf

set_option Elab.async false
set_option linter.all false
set_option maxRecDepth 100000
set_option maxHeartbeats 4000000
namespace Rf
open PySem PySem.Spec PyProof.Rows L2

/-! ### the draws and books that the laws share -/
def hFeed : Def := ⟨"_law_feed", ["_law_script"], ["_law_script"], [.retDic [(.inr "cells"), (.inr "at"), (.inr "left"), (.inr "count")] [(.prim .list [(.cut (.var 0) [] [(.kint 63)])]), (.kint 0), (.kint 0), (.kint 0)]]⟩
def hDraw : Def := ⟨"_law_draw", ["_law_feed_here", "_law_many"], ["_law_feed_here", "_law_many", "_law_at", "_law_cell", "_law_mixed", "_law_digit"], [.gset 0 (.inr "count") (.prim .add [(.gget 0 (.inr "count")), (.kint 1)]), .ifS (.prim .gt [(.gget 0 (.inr "left")), (.kint 0)]) [.set (.nm 5) (.prim .mod [(.prim .int [(.gget 0 (.inr "left"))]), (.var 1)]), .gset 0 (.inr "left") (.prim .fdiv [(.gget 0 (.inr "left")), (.var 1)]), .ret (.var 5)] [], .set (.nm 2) (.gget 0 (.inr "at")), .gset 0 (.inr "at") (.prim .add [(.var 2), (.kint 1)]), .set (.nm 3) (.ite (.prim .ne [(.gget 0 (.inr "cells")), (.lst [])]) (.prim .ix [(.gget 0 (.inr "cells")), (.prim .mod [(.prim .int [(.var 2)]), (.prim .len [(.gget 0 (.inr "cells"))])])]) (.kint 71)), .ifS (.and (.prim .ge [(.var 3), (.prim .pow [(.kint 10), (.kint 18)])]) (.prim .lt [(.var 2), (.prim .len [(.gget 0 (.inr "cells"))])])) [.gset 0 (.inr "left") (.prim .fdiv [(.var 3), (.var 1)]), .ret (.prim .mod [(.prim .int [(.var 3)]), (.var 1)])] [], .set (.nm 4) (.prim .mod [(.prim .int [(.prim .add [(.prim .add [(.prim .mod [(.prim .int [(.var 3)]), (.kint 1000000289)]), (.prim .mul [(.kint 140009), (.gget 0 (.inr "count"))])]), (.kint 73)])]), (.kint 2147483269)]), .set (.nm 4) (.prim .mod [(.prim .int [(.prim .add [(.prim .add [(.prim .mul [(.var 4), (.var 4)]), (.prim .mul [(.kint 4300007), (.gget 0 (.inr "count"))])]), (.kint 37)])]), (.kint 2147483249)]), .ret (.prim .mod [(.prim .int [(.prim .fdiv [(.prim .mod [(.prim .int [(.prim .add [(.prim .mul [(.var 4), (.var 4)]), (.prim .mul [(.kint 103), (.var 4)])])]), (.kint 2147483237)]), (.kint 16)])]), (.var 1)])]⟩
def hBook (kd : Nat) : Def := ⟨"_law_book", ["_law_feed_here", "_law_size"], ["_law_feed_here", "_law_size", "_law_menus", "_law_spots", "_law_caps", "_law_names", "_law_pool", "_law_name", "_law_found", "_law_k", "_law_rows_in", "_law_late", "_law_most", "_law_own"], [.setOwn 2 (.lst [(.tup [(.tup [(.kstr [115, 104, 101, 108, 102]), (.kint 3), (.kint 9)]), (.tup [(.kstr [115, 116, 111, 114, 101]), (.kint 8), (.kint 20)])]), (.tup [(.tup [(.kstr [97]), (.kint 0), (.kint 4)])]), (.tup [(.tup [(.kstr [98]), (.kint 1), (.kint 5)]), (.tup [(.kstr [99, 111, 117, 110, 116]), (.kint 2), (.kint 2)]), (.tup [(.kstr [109, 111, 118, 101]), (.kint 0), (.kint 7)])])]), .drop (.mutl .append 2 [(.tup [(.tup [(.kstr [112]), (.kint 0), (.kint 1)]), (.tup [(.kstr [113]), (.kint 5), (.kint 5)]), (.tup [(.kstr [114]), (.kint 2), (.kint 6)]), (.tup [(.kstr [122, 122, 122, 122, 122, 122, 122, 122]), (.kint 19), (.kint 20)])])]), .freeze 2, .set (.nm 3) (.prim .ix [(.var 2), (.call kd [(.gv 0), (.kint 4)])]), .set (.nm 4) (.prim .dict [(.comp (.tup [(.prim .ix [(.var 13), (.kint 0)]), (.prim .ix [(.var 13), (.kint 2)])]) (.nm 13) .seq [(.var 3)] [] [13])]), .par 5 6 false true (.prim .add [(.comp (.prim .ix [(.var 13), (.kint 0)]) (.nm 13) .seq [(.var 3)] [] [13]), (.lst [(.kstr [111, 117, 116])])]) (.lst []), .forS (.nm 7) .seq [(.var 5)] [.drop (.mutl .extend 6 [(.comp (.tup [(.var 7), (.var 11)]) (.nm 11) .seq [(.var 5)] [(.prim .ne [(.var 11), (.var 7)])] [11])])], .setOwn 8 (.lst []), .forS (.nm 9) .rng [(.prim .min [(.prim .len [(.own 6)]), (.call kd [(.gv 0), (.kint 6)])])] [.drop (.mutl .append 8 [(.prim .add [(.mutl .pop 6 [(.call kd [(.gv 0), (.prim .len [(.own 6)])])]), (.tup [(.prim .add [(.kint 1), (.call kd [(.gv 0), (.kint 9)])])])])])], .freeze 8, .freeze 6, .setOwn 10 (.lst []), .forS (.nm 9) .rng [(.var 1)] [.set (.nm 7) (.prim .ix [(.var 5), (.call kd [(.gv 0), (.prim .len [(.var 5)])])]), .set (.nm 11) (.prim .ix [(.var 5), (.prim .mod [(.prim .int [(.prim .add [(.prim .add [(.mth .index (.var 5) [(.var 7)]), (.kint 1)]), (.call kd [(.gv 0), (.prim .sub [(.prim .len [(.var 5)]), (.kint 1)])])])]), (.prim .len [(.var 5)])])]), .set (.nm 12) (.prim .min [(.mth .get (.var 4) [(.var 7), (.kint 5)]), (.mth .get (.var 4) [(.var 11), (.kint 5)]), (.kint 5)]), .ifS (.or (.prim .gt [(.call kd [(.gv 0), (.kint 2)]), (.kint 0)]) (.prim .eq [(.var 7), (.kstr [111, 117, 116])])) [.drop (.mutl .append 10 [(.tup [(.kstr [109, 111, 118, 101]), (.var 7), (.var 11), (.prim .add [(.kint 1), (.call kd [(.gv 0), (.var 12)])])])])] [.drop (.mutl .append 10 [(.tup [(.kstr [99, 111, 117, 110, 116]), (.var 7), (.call kd [(.gv 0), (.prim .add [(.prim .ix [(.var 4), (.var 7)]), (.kint 1)])])])])]], .freeze 10, .ret (.tup [(.var 3), (.prim .tuple [(.prim .sorted [(.var 8)])]), (.prim .ix [(.lst [.knon, (.kint 4), (.kint 1), (.kint 9)]), (.call kd [(.gv 0), (.kint 4)])]), (.prim .tuple [(.var 10)])])]⟩
def hOdd (kd : Nat) : Def := ⟨"_law_odd", ["_law_feed_here"], ["_law_feed_here", "_law_odd_here"], [.set (.nm 1) (.lst [.knon, (.kbl true), (.kbl false), (.kint 0), (.prim .neg [(.kint 1)]), (.kint 1), (.kstr []), (.kstr [111, 117, 116]), (.kstr [115, 104, 101, 108, 102]), (.kstr [109, 111, 118, 101]), (.tup []), (.lst []), (.tup [(.kstr [97]), (.kint 0), (.kint 1)]), (.tup [(.kstr [99, 111, 117, 110, 116]), (.kstr [97]), (.kint 0)]), (.kint 5), (.tup [(.kstr [97])])]), .ret (.prim .ix [(.var 1), (.call kd [(.gv 0), (.kint 16)])])]⟩
def hBent (kd ko kb : Nat) : Def := ⟨"_law_bent", ["_law_feed_here", "_law_item"], ["_law_feed_here", "_law_item", "_law_way", "_law_at", "_law_some"], [.ifS (.and (.prim (.isa .tuple) [(.var 1)]) (.and (.prim .ne [(.var 1), (.tup [])]) (.prim .gt [(.call kd [(.gv 0), (.kint 6)]), (.kint 0)]))) [.set (.nm 3) (.call kd [(.gv 0), (.prim .len [(.var 1)])]), .ret (.prim .add [(.prim .add [(.cut (.var 1) [] [(.var 3)]), (.tup [(.call kb [(.gv 0), (.prim .ix [(.var 1), (.var 3)])])])]), (.cut (.var 1) [(.prim .add [(.var 3), (.kint 1)])] [])])] [], .set (.nm 2) (.call kd [(.gv 0), (.kint 9)]), .ifS (.and (.prim (.isa .tuple) [(.var 1)]) (.prim .lt [(.var 2), (.kint 7)])) [.set (.nm 4) (.lst [(.prim .list [(.var 1)]), (.cut (.var 1) [(.kint 1)] []), (.cut (.var 1) [] [(.prim .neg [(.kint 1)])]), (.prim .add [(.var 1), (.cut (.var 1) [(.prim .neg [(.kint 1)])] [])])]), .ret (.prim .ix [(.prim .add [(.var 4), (.lst [(.stp (.var 1) [] (-1)), (.tup [(.var 1)]), (.prim .add [(.var 1), (.tup [.knon])])])]), (.var 2)])] [], .ifS (.and (.prim (.isa .str) [(.var 1)]) (.prim .lt [(.var 2), (.kint 6)])) [.ret (.prim .ix [(.lst [(.prim .add [(.var 1), (.kstr [97])]), (.cut (.var 1) [] [(.prim .neg [(.kint 1)])]), (.mth .upper (.var 1) []), (.prim .add [(.var 1), (.kstr [32])]), (.lst [(.var 1)]), (.prim .add [(.var 1), (.kstr [97, 98, 99, 100, 101, 102, 103, 104])])]), (.var 2)])] [], .ifS (.and (.prim (.isa .int) [(.var 1)]) (.prim .lt [(.var 2), (.kint 6)])) [.ret (.prim .ix [(.lst [(.prim .add [(.var 1), (.kint 1)]), (.prim .sub [(.var 1), (.kint 1)]), (.prim .eq [(.var 1), (.kint 1)]), (.prim .str [(.var 1)]), (.prim .sub [(.kint 0), (.var 1)]), (.lst [(.var 1)])]), (.var 2)])] [], .ret (.call ko [(.gv 0)])]⟩
/-- what a feed holds -/
def fdOf (cells : List Int) (at' left count : Int) : Gd := [(.inr "cells", .lst (cells.map .int)), (.inr "at", .int at'), (.inr "left", .int left), (.inr "count", .int count)]
def Fd (kd : Gd) : Prop := ∃ cells a l c, kd = fdOf cells a l c ∧ 0 ≤ l
theorem ints_shaped : ∀ (x : List Int), PyData.canLayAll0 (toPL (x.map D.int)) = true ∧ PyData.depthAll (toPL (x.map D.int)) = 0
  | [] => by simp [toPL, PyData.canLayAll0, PyData.depthAll]
  | c :: x => by
    obtain ⟨h1, h2⟩ := ints_shaped x
    simp [toPL, toP, PyData.canLayAll0, PyData.depthAll, PyData.canLay0, PyData.depth, h1, h2]
theorem eqD_nilL {xs : List D} (h : SeqAt.shaped (toP (.lst xs)) = true) : eqD (.lst xs) (.lst []) = some xs.isEmpty := by
  have e : PyData.eqv (toP (.lst xs)) (toP (.lst [])) = xs.isEmpty := by cases xs <;> simp [toP, toPL, PyData.eqv, PyData.eqvAll]
  have s : SeqAt.shaped (toP (.lst [])) = true := rfl
  show (if SeqAt.shaped (toP (.lst xs)) && SeqAt.shaped (toP (.lst [])) then _ else _) = _
  rw [h, s, if_pos (by decide), e]
theorem cells_ne (x : List Int) : eqD (.lst (x.map D.int)) (.lst []) = some x.isEmpty := by
  obtain ⟨h1, h2⟩ := ints_shaped x
  have := eqD_nilL (xs := x.map D.int) (by simp [SeqAt.shaped, toP, PyData.canLay0, PyData.depth, h1, h2])
  rw [this]; cases x <;> rfl
theorem fmod_lt {a b : Int} (h : 0 < b) : 0 ≤ a.fmod b ∧ a.fmod b < b := ⟨Int.fmod_nonneg_of_pos a h, Int.fmod_lt_of_pos a h⟩
theorem get_cells (c : List Int) (a l k : Int) : getK (fdOf c a l k) (.inr "cells") = some (.lst (c.map .int)) := by simp [getK, fdOf]
theorem get_at (c : List Int) (a l k : Int) : getK (fdOf c a l k) (.inr "at") = some (.int a) := by
  have : ¬ ("cells" : Str) = "at" := by decide +kernel
  simp [getK, fdOf, List.find?_cons, this]
theorem get_left (c : List Int) (a l k : Int) : getK (fdOf c a l k) (.inr "left") = some (.int l) := by
  have h1 : ¬ ("cells" : Str) = "left" := by decide +kernel
  have h2 : ¬ ("at" : Str) = "left" := by decide +kernel
  simp [getK, fdOf, List.find?_cons, h1, h2]
theorem get_count (c : List Int) (a l k : Int) : getK (fdOf c a l k) (.inr "count") = some (.int k) := by
  have h1 : ¬ ("cells" : Str) = "count" := by decide +kernel
  have h2 : ¬ ("at" : Str) = "count" := by decide +kernel
  have h3 : ¬ ("left" : Str) = "count" := by decide +kernel
  simp [getK, fdOf, List.find?_cons, h1, h2, h3]
theorem set_at (c : List Int) (a l k x : Int) : setK (fdOf c a l k) (.inr "at") (.int x) = fdOf c x l k := by
  have h1 : ¬ ("cells" : Str) = "at" := by decide +kernel
  have h2 : ¬ ("left" : Str) = "at" := by decide +kernel
  have h3 : ¬ ("count" : Str) = "at" := by decide +kernel
  simp [setK, fdOf, h1, h2, h3]
theorem set_left (c : List Int) (a l k x : Int) : setK (fdOf c a l k) (.inr "left") (.int x) = fdOf c a x k := by
  have h1 : ¬ ("cells" : Str) = "left" := by decide +kernel
  have h2 : ¬ ("at" : Str) = "left" := by decide +kernel
  have h3 : ¬ ("count" : Str) = "left" := by decide +kernel
  simp [setK, fdOf, h1, h2, h3]
theorem set_count (c : List Int) (a l k x : Int) : setK (fdOf c a l k) (.inr "count") (.int x) = fdOf c a l x := by
  have h1 : ¬ ("cells" : Str) = "count" := by decide +kernel
  have h2 : ¬ ("at" : Str) = "count" := by decide +kernel
  have h3 : ¬ ("left" : Str) = "count" := by decide +kernel
  simp [setK, fdOf, h1, h2, h3]
theorem fd_len (c : List Int) (a l k : Int) : (fdOf c a l k).length < big := by
  have hb : (big : Nat) = 16777216 := rfl
  show 4 < big
  omega
theorem cell_get (c : List Int) (a : Int) (h : c.isEmpty = false) : ∃ v, ixD (.lst (c.map .int)) (a.fmod c.length) = some (.int v) := by
  have hl : 0 < (c.length : Int) := by
    cases c with
    | nil => simp at h
    | cons x xs => simp only [List.length_cons]; omega
  obtain ⟨h1, h2⟩ := fmod_lt (a := a) hl
  generalize a.fmod c.length = i at h1 h2
  have hn : i.toNat < c.length := by omega
  refine ⟨c[i.toNat], ?_⟩
  have e1 : ixN (c.map D.int).length i = some i.toNat := by
    unfold ixN
    rw [List.length_map]
    simp [h1]
    omega
  simp only [ixD, atI, e1]
  simp [hn]
theorem nb1 (x : Int) : (x.fmod 2147483269).natAbs < 18446744073709551616 := by
  obtain ⟨h1, h2⟩ := fmod_lt (a := x) (b := 2147483269) (by decide)
  omega
theorem nb2 (x : Int) : (x.fmod 2147483249).natAbs < 18446744073709551616 := by
  obtain ⟨h1, h2⟩ := fmod_lt (a := x) (b := 2147483249) (by decide)
  omega
def mx1 (cell k : Int) : Int := (cell.fmod 1000000289 + 140009 * k + 73).fmod 2147483269
def mx2 (cell k : Int) : Int := (mx1 cell k * mx1 cell k + 4300007 * k + 37).fmod 2147483249
def mx3 (cell k : Int) : Int := ((mx2 cell k * mx2 cell k + 103 * mx2 cell k).fmod 2147483237).fdiv 16
/-- a draw: a digit below many, and a feed -/
theorem draw_ok (T : Tbl) {g : List Gd} {j : Nat} {kd : Gd} {many : Int} (h : g[j]? = some kd) (hf : Fd kd) (h1 : 0 < many) (h2 : many < 1073741824) : ∃ r kd', 0 ≤ r ∧ r < many ∧ Fd kd' ∧ mirror T hDraw [.glb j, .val (.int many)] g = .ret (.int r) (g.set j kd') := by
  obtain ⟨c, a, l, k, rfl, hl⟩ := hf
  have hj : j < g.length := (List.getElem?_eq_some_iff.mp h).1
  have n0 : many ≠ 0 := by omega
  have nb : many.natAbs < 1073741824 := by omega
  have tk : ∀ x : Gd, (g.set j x).take g.length = g.set j x := fun x => by rw [List.take_of_length_le (by simp)]
  have gs : ∀ x : Gd, (g.set j x)[j]? = some x := fun x => List.getElem?_set_self hj
  by_cases hp : 0 < l
  · refine ⟨l.fmod many, fdOf c a (l.fdiv many) (k + 1), (fmod_lt h1).1, (fmod_lt h1).2, ⟨c, a, _, _, rfl, Int.fdiv_nonneg hl (by omega)⟩, ?_⟩
    simp [mirror, hDraw, h, get_count, set_count, get_left, set_left, fd_len, truth, hp, n0, nb, cutG, tk, gs, List.set_set]
  · have go : ∀ cell : Int, (∀ st : Sx, st.g = g.set j (fdOf c (a + 1) l (k + 1)) → st.r = [.glb j, .val (.int many), .val (.int a), .none, .none, .none] → ev T (.ite (.prim .ne [(.gget 0 (.inr "cells")), (.lst [])]) (.prim .ix [(.gget 0 (.inr "cells")), (.prim .mod [(.prim .int [(.var 2)]), (.prim .len [(.gget 0 (.inr "cells"))])])]) (.kint 71)) st = .ok (.int cell) st) →
        ∃ r kd', 0 ≤ r ∧ r < many ∧ Fd kd' ∧ mirror T hDraw [.glb j, .val (.int many)] g = .ret (.int r) (g.set j kd') := by
      intro cell hev
      have hev := hev ⟨[.glb j, .val (.int many), .val (.int a), .none, .none, .none], g.set j (fdOf c (a + 1) l (k + 1))⟩ rfl rfl
      by_cases hb : 1000000000000000000 ≤ cell
      · by_cases hc : a < c.length
        · refine ⟨cell.fmod many, fdOf c (a + 1) (cell.fdiv many) (k + 1), (fmod_lt h1).1, (fmod_lt h1).2, ⟨c, _, _, _, rfl, Int.fdiv_nonneg (by omega) (by omega)⟩, ?_⟩
          simp [-ev_ite, mirror, hDraw, h, get_count, set_count, get_left, set_left, get_at, set_at, get_cells, fd_len, truth, hp, n0, nb, cutG, tk, gs, List.set_set, hev, hb, hc]
        · refine ⟨(mx3 cell (k + 1)).fmod many, fdOf c (a + 1) l (k + 1), (fmod_lt h1).1, (fmod_lt h1).2, ⟨c, _, _, _, rfl, hl⟩, ?_⟩
          · simp [-ev_ite, mirror, hDraw, h, get_count, set_count, get_left, set_left, get_at, set_at, get_cells, fd_len, truth, hp, n0, nb, cutG, tk, gs, List.set_set, hev, hb, hc, nb1, nb2, mx1, mx2, mx3]
      · refine ⟨(mx3 cell (k + 1)).fmod many, fdOf c (a + 1) l (k + 1), (fmod_lt h1).1, (fmod_lt h1).2, ⟨c, _, _, _, rfl, hl⟩, ?_⟩
        · simp [-ev_ite, mirror, hDraw, h, get_count, set_count, get_left, set_left, get_at, set_at, get_cells, fd_len, truth, hp, n0, nb, cutG, tk, gs, List.set_set, hev, hb, nb1, nb2, mx1, mx2, mx3]
    cases hc : c.isEmpty with
    | true =>
      refine go 71 fun st eg er => ?_
      have : c = [] := List.isEmpty_iff.mp hc
      subst this
      have e0 : eqD (.lst []) (.lst []) = some true := rfl
      simp [er, eg, gs, get_cells, e0, truth]
    | false =>
      obtain ⟨v, hv⟩ := cell_get c a hc
      refine go v fun st eg er => ?_
      have cn : (c.length : Int) ≠ 0 := by
        cases c with
        | nil => simp at hc
        | cons x xs => simp only [List.length_cons]; omega
      have e1 := cells_ne c
      rw [hc] at e1
      have cn2 : ¬ c = [] := fun z => by rw [z] at hc; cases hc
      simp [er, eg, gs, get_cells, e1, truth, cn2, hv]
end Rf

set_option Elab.async false
set_option linter.all false
set_option maxRecDepth 100000
set_option maxHeartbeats 4000000
namespace Rf
open PySem PySem.Spec PyProof.Rows L2
namespace K17
theorem s19 (n : Nat) (r : Rw) (x : Nm) (g : List Gd) : TB fns (n + 1) 19 [.val (rD r), .val (.str x)] g = .ret (.int (chg r x)) g := by
  rw [t n 19 d19 rfl]
  cases r with
  | ct a m => simp [mirror, d19, cutG, rD, truth, eqD, chg]
  | mv a c m =>
    have hb := if_le (c = x) (a = x)
    simp [mirror, d19, cutG, rD, truth, eqD_str, chg, hb]
def bd21 : List S := [.set (.nm 7) (.prim .add [(.var 7), (.prim .mul [(.var 9), (.prim .sub [(.prim .int [(.prim .eq [(.prim .ix [(.var 8), (.kint 1)]), (.var 4)])]), (.prim .int [(.prim .eq [(.prim .ix [(.var 8), (.kint 0)]), (.var 4)])])])])])]
theorem s21in (T : Tbl) (A B C D0 S5 S6 : Slot) (x : Nm) (g : List Gd) : ∀ (cs : List (Nm × Nm × Int)) (us : List Int) (l : Int) (s8 s9 : Slot), ∃ s8' s9' : Slot,
    loopS (bindP (.tp [(.nm 8), (.nm 9)])) (runs T bd21) (zipD (cs.map cD) (us.map .int)) ⟨[A, B, C, D0, .val (.str x), S5, S6, .val (.int l), s8, s9], g⟩ = .nx ⟨[A, B, C, D0, .val (.str x), S5, S6, .val (.int (l + gain x cs us)), s8', s9'], g⟩
  | [], us, l, s8, s9 => ⟨s8, s9, by simp [zipD, loopS, gain]⟩
  | c :: cs, [], l, s8, s9 => ⟨s8, s9, by simp [zipD, loopS, gain]⟩
  | c :: cs, u :: us, l, s8, s9 => by
    obtain ⟨t8, t9, e⟩ := s21in T A B C D0 S5 S6 x g cs us (l + u * ((if c.2.1 = x then 1 else 0) - (if c.1 = x then 1 else 0))) (.val (cD c)) (.val (.int u))
    refine ⟨t8, t9, ?_⟩
    simp only [List.map_cons, zipD, loopS]
    have e1 : bindP (.tp [(.nm 8), (.nm 9)]) (.tup [cD c, .int u]) [A, B, C, D0, .val (.str x), S5, S6, .val (.int l), s8, s9] = some [A, B, C, D0, .val (.str x), S5, S6, .val (.int l), .val (cD c), .val (.int u)] := by simp
    have hb := if_le (c.2.1 = x) (c.1 = x)
    have e2 : runs T bd21 ⟨[A, B, C, D0, .val (.str x), S5, S6, .val (.int l), .val (cD c), .val (.int u)], g⟩ = .nx ⟨[A, B, C, D0, .val (.str x), S5, S6, .val (.int (l + u * ((if c.2.1 = x then 1 else 0) - (if c.1 = x then 1 else 0)))), .val (cD c), .val (.int u)], g⟩ := by
      simp [bd21, cD, eqD_str, hb]
    simp only [e1, e2, e]
    simp only [gain]
    rw [Int.add_assoc]
theorem s21out (T : Tbl) (b : Bk) (us : List Int) (h : Nm → Int) (A : D) (g : List Gd) : ∀ (ps : List (Nm × Int × Int)) (acc : List D) (s4 s5 s6 s7 s8 s9 : Slot), acc.length + ps.length < big → ∃ s4' s5' s6' s7' s8' s9' : Slot,
    loopS (bindP (.tp [(.tp [(.nm 4), (.nm 5), (.nm 6)]), (.nm 7)])) (runs T [.forS (.tp [(.nm 8), (.nm 9)]) .zip [(.prim .ix [(.var 0), (.kint 1)]), (.var 2)] bd21, .drop (.mutl .append 3 [(.var 7)])]) (ps.map fun p => .tup [pD p, .int (h p.1)])
      ⟨[.val (bD b), .val A, .val (iT us), .own acc, s4, s5, s6, s7, s8, s9], g⟩ = .nx ⟨[.val (bD b), .val A, .val (iT us), .own (acc ++ ps.map fun p => .int (stepM b us h p.1)), s4', s5', s6', s7', s8', s9'], g⟩
  | [], acc, s4, s5, s6, s7, s8, s9, _ => ⟨s4, s5, s6, s7, s8, s9, by simp [loopS]⟩
  | p :: ps, acc, s4, s5, s6, s7, s8, s9, hb => by
    simp only [List.length_cons] at hb
    obtain ⟨x8, x9, ei⟩ := s21in T (.val (bD b)) (.val A) (.val (iT us)) (.own acc) (.val (.int p.2.1)) (.val (.int p.2.2)) p.1 g b.cs us (h p.1) s8 s9
    obtain ⟨t4, t5, t6, t7, t8, t9, e⟩ := s21out T b us h A g ps (acc ++ [.int (stepM b us h p.1)]) (.val (.str p.1)) (.val (.int p.2.1)) (.val (.int p.2.2)) (.val (.int (stepM b us h p.1))) x8 x9 (by simp; omega)
    have hb2 : acc.length < big := by omega
    refine ⟨t4, t5, t6, t7, t8, t9, ?_⟩
    simp only [List.map_cons, loopS]
    have e1 : bindP (.tp [(.tp [(.nm 4), (.nm 5), (.nm 6)]), (.nm 7)]) (.tup [pD p, .int (h p.1)]) [.val (bD b), .val A, .val (iT us), .own acc, s4, s5, s6, s7, s8, s9] = some [.val (bD b), .val A, .val (iT us), .own acc, .val (.str p.1), .val (.int p.2.1), .val (.int p.2.2), .val (.int (h p.1)), s8, s9] := by simp [pD]
    have hg : ItK.zip.get [.tup (b.cs.map cD), iT us] = some (zipD (b.cs.map cD) (us.map .int)) := rfl
    have e2 : runs T [.forS (.tp [(.nm 8), (.nm 9)]) .zip [(.prim .ix [(.var 0), (.kint 1)]), (.var 2)] bd21, .drop (.mutl .append 3 [(.var 7)])] ⟨[.val (bD b), .val A, .val (iT us), .own acc, .val (.str p.1), .val (.int p.2.1), .val (.int p.2.2), .val (.int (h p.1)), s8, s9], g⟩ = .nx ⟨[.val (bD b), .val A, .val (iT us), .own (acc ++ [.int (stepM b us h p.1)]), .val (.str p.1), .val (.int p.2.1), .val (.int p.2.2), .val (.int (stepM b us h p.1)), x8, x9], g⟩ := by
      simp [run_for, bdx, bd1, hg, ei, MutK.ap, hb2, stepM]
    simp only [e1, e2, e]
    simp
theorem s21 (n : Nat) (b : Bk) (w : WB b) (h : Nm → Int) (us : List Int) (g : List Gd) : TB fns (n + 1) 21 [.val (bD b), .val (hT b h), .val (iT us)] g = .ret (hT b (stepM b us h)) g := by
  rw [t n 21 d21 rfl]
  have zp := w.zp
  obtain ⟨t4, t5, t6, t7, t8, t9, e⟩ := s21out (TB fns n) b us h (hT b h) g b.ps [] .none .none .none .none .none .none (by simp [bigE]; omega)
  have hg : ItK.zip.get [.tup (b.ps.map pD), hT b h] = some (b.ps.map fun p => .tup [pD p, .int (h p.1)]) := by simp only [ItK.get, hT, zip_map]
  simp only [List.nil_append, bd21] at e
  have hm : mirror (TB fns n) d21 [.val (bD b), .val (hT b h), .val (iT us)] g = .ret (.tup (b.ps.map fun p => .int (stepM b us h p.1))) g := by
    simp [mirror, d21, cutG, run_for, bdx, bd0, hg, e]
  rw [hm]
  rfl
theorem s22 (n : Nat) (b : Bk) (w : WB b) (h : Nm → Int) (k : Nat) (r : Rw) (hr : b.rs[k]? = some r) (g : List Gd) : TB fns (n + 2) 22 [.val (bD b), .val (hT b h), .val (.int k)] g = .ret (hT b (stepD r h)) g := by
  rw [t (n + 1) 22 d22 rfl]
  have zp := w.zp
  let S0 : List Slot := [.val (bD b), .val (hT b h), .val (.int k), .none, .none]
  have hc := comp_map (T := TB fns (n + 1)) (elt := (.prim .add [(.var 3), (.call 19 [(.prim .ix [(.prim .ix [(.var 0), (.kint 3)]), (.var 2)]), (.prim .ix [(.var 4), (.kint 0)])])])) (pt := (.tp [(.nm 3), (.nm 4)])) (it := .zip) (src := [(.var 1), (.prim .ix [(.var 0), (.kint 0)])]) (ws := [3, 4]) (st := ⟨S0, g⟩) (s1 := ⟨S0, g⟩) (ds := [hT b h, .tup (b.ps.map pD)]) (xs := b.ps.map fun p => .tup [.int (h p.1), pD p])
    (fS2 fun x l => l + chg r x) (by simp [S0, bdx, bd0]) (by simp only [ItK.get, hT, zip_map]) (by rw [List.length_map, bigE]; omega) (by intro j hj; simp at hj; rcases hj with rfl | rfl <;> simp [S0]) (r0 := S0) rfl fun y hy => by
      obtain ⟨q, hq, rfl⟩ := List.mem_map.mp hy
      have := s19 n r q.1 g
      refine ⟨[.val (bD b), .val (hT b h), .val (.int k), .val (.int (h q.1)), .val (pD q)], by simp [S0], rfl, ?_⟩
      have e1 : P.ap .ix [pD q, .int 0] = some (.str q.1) := by simp [pD]
      simp [e1, this, bdx, bd3, row_at hr]
      rfl
  simp only [S0] at hc
  have e : (b.ps.map fun p => D.tup [.int (h p.1), pD p]).map (fS2 fun x l => l + chg r x) = b.ps.map fun p => .int (stepD r h p.1) := by
    rw [List.map_map]; rfl
  rw [e] at hc
  have hm : mirror (TB fns (n + 1)) d22 [.val (bD b), .val (hT b h), .val (.int k)] g = .ret (.tup (b.ps.map fun p => .int (stepD r h p.1))) g := by
    simp [mirror, d22, cutG, hc]
  rw [hm]
  rfl
theorem s23loop (n : Nat) (b : Bk) (w : WB b) (A : D) (g : List Gd) : ∀ (us : List (List Int)) (k : Nat) (rs : List Rw) (h : Nm → Int) (acc : List D) (s4 s5 : Slot), b.rs.drop k = rs → us.length = rs.length → acc.length + us.length < big → ∃ s4' s5' : Slot,
    loopS (bindP (.tp [(.nm 4), (.nm 5)])) (runs (TB fns (n + 2)) [.set (.nm 2) (.call 21 [(.var 0), (.var 2), (.var 5)]), .drop (.mutl .append 3 [(.var 2)]), .set (.nm 2) (.call 22 [(.var 0), (.var 2), (.var 4)])])
      (enumD k (us.map iT)) ⟨[.val (bD b), .val A, .val (hT b h), .own acc, s4, s5, .none, .none, .none], g⟩ = .nx ⟨[.val (bD b), .val A, .val (hT b (lvE b h rs us)), .own (acc ++ (lvF b h rs us).map (hT b)), s4', s5', .none, .none, .none], g⟩
  | [], k, rs, h, acc, s4, s5, hd, hl, _ => by
    cases rs with
    | cons r rs => simp at hl
    | nil => exact ⟨s4, s5, by simp [enumD, loopS, lvE, lvF]⟩
  | u :: us, k, rs, h, acc, s4, s5, hd, hl, hb => by
    cases rs with
    | nil => simp at hl
    | cons r rs =>
      obtain ⟨q1, q2⟩ := drop_at hd
      have a7 := s21 (n + 1) b w h u g
      have a8 := s22 n b w (stepM b u h) k r q1 g
      simp only [List.length_cons] at hb
      obtain ⟨t4, t5, e⟩ := s23loop n b w A g us (k + 1) rs (stepD r (stepM b u h)) (acc ++ [hT b (stepM b u h)]) (.val (.int k)) (.val (iT u)) q2 (by simpa using hl) (by simp; omega)
      have hb2 : acc.length < big := by omega
      refine ⟨t4, t5, ?_⟩
      simp only [List.map_cons, enumD, loopS]
      have e1 : bindP (.tp [(.nm 4), (.nm 5)]) (.tup [.int (k : Int), iT u]) [.val (bD b), .val A, .val (hT b h), .own acc, s4, s5, .none, .none, .none] = some [.val (bD b), .val A, .val (hT b h), .own acc, .val (.int k), .val (iT u), .none, .none, .none] := by simp
      rw [e1]
      have e2 : runs (TB fns (n + 2)) [.set (.nm 2) (.call 21 [(.var 0), (.var 2), (.var 5)]), .drop (.mutl .append 3 [(.var 2)]), .set (.nm 2) (.call 22 [(.var 0), (.var 2), (.var 4)])] ⟨[.val (bD b), .val A, .val (hT b h), .own acc, .val (.int k), .val (iT u), .none, .none, .none], g⟩ =
          .nx ⟨[.val (bD b), .val A, .val (hT b (stepD r (stepM b u h))), .own (acc ++ [hT b (stepM b u h)]), .val (.int k), .val (iT u), .none, .none, .none], g⟩ := by
        simp [a7, MutK.ap, hb2, a8]
      simp only [e2, e]
      simp [lvE, lvF]
theorem wipe_len (r : List Slot) : ∀ ws : List Nat, (wipeR r ws).length = r.length
  | [] => rfl
  | v :: vs => by
    show ((wipeR r vs).set v .none).length = _
    rw [List.length_set, wipe_len r vs]
theorem wipe_at (r : List Slot) (k : Nat) : ∀ ws : List Nat, (wipeR r ws)[k]? = if k ∈ ws then (r[k]?.map fun _ => .none) else r[k]?
  | [] => by simp [wipeR]
  | v :: vs => by
    have ih := wipe_at r k vs
    show ((wipeR r vs).set v .none)[k]? = _
    have hl : (wipeR r vs).length = r.length := wipe_len r vs
    by_cases z : v = k
    · subst z
      by_cases q : v < r.length
      · rw [List.getElem?_set_self (by omega), if_pos (by simp), List.getElem?_eq_getElem q]; rfl
      · rw [List.getElem?_eq_none (by simp; omega), if_pos (by simp), List.getElem?_eq_none (by omega)]; rfl
    · rw [List.getElem?_set_ne z, ih]
      have : ¬ k = v := fun e => z e.symm
      simp [this]
theorem wipe_eq {r r' : List Slot} {ws : List Nat} (hl : r'.length = r.length) (h1 : ∀ k, k ∉ ws → r'[k]? = r[k]?) (h2 : ∀ k ∈ ws, r[k]? = some .none) : wipeR r' ws = r := by
  refine List.ext_getElem? fun k => ?_
  rw [wipe_at]
  by_cases z : k ∈ ws
  · rw [if_pos z, h2 k z]
    have := (List.getElem?_eq_some_iff.mp (h2 k z)).1
    rw [List.getElem?_eq_getElem (by omega)]
    rfl
  · rw [if_neg z, h1 k z]
/-- the stocks, as a comprehension over three names at i, i+1, i+2 -/
theorem stocks_ev {T : Tbl} {b : Bk} (w : WB b) {src : List E} {i : Nat} {st : Sx} (h1 : evs T src st = .ok [.tup (b.ps.map pD)] st) (hl : i + 2 < st.r.length) (n0 : st.r[i]? = some .none) (n1 : st.r[i + 1]? = some .none) (n2 : st.r[i + 2]? = some .none) : ev T (.comp (.var (i + 1)) (.tp [(.nm i), (.nm (i + 1)), (.nm (i + 2))]) .seq src [] [i, i + 1, i + 2]) st = .ok (.lst (b.ps.map fun p => .int (st0 b p.1))) st := by
  have zp := w.zp
  obtain ⟨r, g⟩ := st
  simp only at hl n0 n1 n2
  have wr : wipeR r [i, i + 1, i + 2] = r := wipe_eq rfl (fun _ _ => rfl) fun k hk => by
    simp at hk; rcases hk with rfl | rfl | rfl <;> assumption
  have := comp_map (T := T) (elt := .var (i + 1)) (pt := (.tp [(.nm i), (.nm (i + 1)), (.nm (i + 2))])) (it := .seq) (src := src) (ws := [i, i + 1, i + 2]) (st := ⟨r, g⟩) (s1 := ⟨r, g⟩) (ds := [.tup (b.ps.map pD)]) (xs := b.ps.map pD)
    i1D h1 rfl (by rw [List.length_map, bigE]; omega) (by intro j hj; simp at hj; rcases hj with rfl | rfl | rfl <;> exact .inr (.inl (by assumption))) (r0 := r) wr fun y hy => by
      obtain ⟨q, hq, rfl⟩ := List.mem_map.mp hy
      refine ⟨((r.set i (.val (.str q.1))).set (i + 1) (.val (.int q.2.1))).set (i + 2) (.val (.int q.2.2)), ?_, ?_, ?_⟩
      · simp [pD, hl, show i < r.length by omega, show i + 1 < r.length by omega]
      · refine wipe_eq (by simp) (fun k hk => ?_) fun k hk => by
          simp at hk; rcases hk with rfl | rfl | rfl <;> assumption
        simp only [List.mem_cons, List.not_mem_nil, or_false, not_or] at hk
        rw [List.getElem?_set_ne (by omega), List.getElem?_set_ne (by omega), List.getElem?_set_ne (by omega)]
      · have : (((r.set i (.val (.str q.1))).set (i + 1) (.val (.int q.2.1))).set (i + 2) (.val (.int q.2.2)))[i + 1]? = some (.val (.int q.2.1)) := by
          rw [List.getElem?_set_ne (by omega), List.getElem?_set_self (by simp; omega)]
        simp [this, pD, i1D]
  rw [this]
  congr 2
  rw [← stocks b w, List.map_map]
  rfl
theorem s23 (n : Nat) (b : Bk) (w : WB b) (ts : List (List Int)) (hl : ts.length = b.rs.length) (g : List Gd) : TB fns (n + 3) 23 [.val (bD b), .val (tlD ts)] g = .ret (.lst (lvAll b ts)) g := by
  rw [t (n + 2) 23 d23 rfl]
  have zr := w.zr
  obtain ⟨t4, t5, e⟩ := s23loop n b w (tlD ts) g ts 0 b.rs (st0 b) [] .none .none rfl hl (by simp [bigE]; omega)
  have hs := stocks_ev (T := TB fns (n + 2)) w (src := [(.prim .ix [(.var 0), (.kint 0)])]) (i := 6) (st := ⟨[.val (bD b), .val (tlD ts), .none, .none, .none, .none, .none, .none, .none], g⟩) (by simp [bdx, bd0]) (by simp) rfl rfl rfl
  have hg : ItK.enum.get [tlD ts] = some (enumD 0 (ts.map iT)) := by
    simp only [ItK.get, tlD]
    rw [if_pos]
    rw [List.length_map, bigE]; omega
  have hlen : (lvF b (st0 b) b.rs ts).length + 1 ≤ big := by
    have := lvF_len b b.rs ts (st0 b) hl
    rw [bigE]; omega
  have eh : hT b (st0 b) = .tup (b.ps.map fun p => .int (st0 b p.1)) := rfl
  simp only [List.nil_append] at e
  rw [eh] at e
  simp only [Nat.reduceAdd] at hs
  simp [mirror, d23, cutG, hs, run_for, hg, e, hlen, lvAll, bigE]
/-! ### missing, as the law counts it -/
def bd34 : List S := [.set (.nm 2) (.prim .add [(.var 2), (.prim .mul [(.var 5), (.prim .sub [(.prim .int [(.prim .eq [(.prim .ix [(.var 4), (.kint 1)]), (.kstr [111, 117, 116])])]), (.prim .int [(.prim .eq [(.prim .ix [(.var 4), (.kint 0)]), (.kstr [111, 117, 116])])])])])])]
theorem s34in (T : Tbl) (A B S3 : Slot) (g : List Gd) : ∀ (cs : List (Nm × Nm × Int)) (us : List Int) (l : Int) (s8 s9 : Slot), ∃ s8' s9' : Slot,
    loopS (bindP (.tp [(.nm 4), (.nm 5)])) (runs T bd34) (zipD (cs.map cD) (us.map .int)) ⟨[A, B, .val (.int l), S3, s8, s9], g⟩ = .nx ⟨[A, B, .val (.int (l + gain wO cs us)), S3, s8', s9'], g⟩
  | [], us, l, s8, s9 => ⟨s8, s9, by simp [zipD, loopS, gain]⟩
  | c :: cs, [], l, s8, s9 => ⟨s8, s9, by simp [zipD, loopS, gain]⟩
  | c :: cs, u :: us, l, s8, s9 => by
    obtain ⟨t8, t9, e⟩ := s34in T A B S3 g cs us (l + u * ((if c.2.1 = wO then 1 else 0) - (if c.1 = wO then 1 else 0))) (.val (cD c)) (.val (.int u))
    refine ⟨t8, t9, ?_⟩
    simp only [List.map_cons, zipD, loopS]
    have e1 : bindP (.tp [(.nm 4), (.nm 5)]) (.tup [cD c, .int u]) [A, B, .val (.int l), S3, s8, s9] = some [A, B, .val (.int l), S3, .val (cD c), .val (.int u)] := by simp
    have hb := if_le (c.2.1 = wO) (c.1 = wO)
    have e2 : runs T bd34 ⟨[A, B, .val (.int l), S3, .val (cD c), .val (.int u)], g⟩ = .nx ⟨[A, B, .val (.int (l + u * ((if c.2.1 = wO then 1 else 0) - (if c.1 = wO then 1 else 0)))), S3, .val (cD c), .val (.int u)], g⟩ := by
      simp [bd34, cD, eqD_str, hb]
    simp only [e1, e2, e]
    simp only [gain]
    rw [Int.add_assoc]
theorem s34out (T : Tbl) (b : Bk) (A : D) (g : List Gd) : ∀ (ts : List (List Int)) (l : Int) (s3 s4 s5 : Slot), ∃ s3' s4' s5' : Slot,
    loopS (bindP (.nm 3)) (runs T [.forS (.tp [(.nm 4), (.nm 5)]) .zip [(.prim .ix [(.var 0), (.kint 1)]), (.var 3)] bd34]) (ts.map iT) ⟨[.val (bD b), .val A, .val (.int l), s3, s4, s5], g⟩ = .nx ⟨[.val (bD b), .val A, .val (.int (l + missL b ts)), s3', s4', s5'], g⟩
  | [], l, s3, s4, s5 => ⟨s3, s4, s5, by simp [loopS, missL]⟩
  | us :: ts, l, s3, s4, s5 => by
    obtain ⟨x4, x5, ei⟩ := s34in T (.val (bD b)) (.val A) (.val (iT us)) g b.cs us l s4 s5
    obtain ⟨t3, t4, t5, e⟩ := s34out T b A g ts (l + gain wO b.cs us) (.val (iT us)) x4 x5
    refine ⟨t3, t4, t5, ?_⟩
    simp only [List.map_cons, loopS]
    have e1 : bindP (.nm 3) (iT us) [.val (bD b), .val A, .val (.int l), s3, s4, s5] = some [.val (bD b), .val A, .val (.int l), .val (iT us), s4, s5] := by simp
    have hg : ItK.zip.get [.tup (b.cs.map cD), iT us] = some (zipD (b.cs.map cD) (us.map .int)) := rfl
    have e2 : runs T [.forS (.tp [(.nm 4), (.nm 5)]) .zip [(.prim .ix [(.var 0), (.kint 1)]), (.var 3)] bd34] ⟨[.val (bD b), .val A, .val (.int l), .val (iT us), s4, s5], g⟩ = .nx ⟨[.val (bD b), .val A, .val (.int (l + gain wO b.cs us)), .val (iT us), x4, x5], g⟩ := by
      simp [run_for, bdx, bd1, hg, ei]
    simp only [e1, e2, e]
    simp only [missL, List.map_cons, List.sum_cons, Int.add_assoc]
theorem s34 (n : Nat) (b : Bk) (ts : List (List Int)) (g : List Gd) : TB fns (n + 1) 34 [.val (bD b), .val (tlD ts)] g = .ret (.int (missL b ts)) g := by
  rw [t n 34 d34 rfl]
  obtain ⟨t3, t4, t5, e⟩ := s34out (TB fns n) b (tlD ts) g ts 0 .none .none .none
  have hg : ItK.seq.get [tlD ts] = some (ts.map iT) := rfl
  simp only [Int.zero_add, bd34] at e
  simp [mirror, d34, cutG, run_for, hg, e]
end K17
end Rf

set_option Elab.async false
set_option linter.all false
set_option maxRecDepth 100000
set_option maxHeartbeats 4000000
namespace Rf
open PySem PySem.Spec PyProof.Rows L2
theorem rangeD_map : ∀ (n : Nat) (lo : Int), rangeD lo n = (List.range n).map fun i : Nat => D.int (lo + i)
  | 0, lo => by simp [rangeD]
  | n + 1, lo => by
    rw [List.range_succ_eq_map]
    simp only [rangeD, rangeD_map n (lo + 1), List.map_cons, List.map_map]
    congr 1
    · simp
    · refine List.map_congr_left fun i _ => ?_
      simp only [Function.comp]
      congr 1
      omega
theorem rangeD_mem {n : Nat} {x : D} (h : x ∈ rangeD 0 n) : ∃ k : Nat, k < n ∧ x = .int k := by
  rw [rangeD_map] at h
  obtain ⟨k, hk, rfl⟩ := List.mem_map.mp h
  exact ⟨k, by simpa using hk, by simp⟩
def atD (xs : List D) : D → D
  | .int k => (xs[k.toNat]?).getD .non
  | d => d
theorem range_at (xs : List D) : (rangeD 0 xs.length).map (atD xs) = xs := by
  rw [rangeD_map, List.map_map]
  refine List.ext_getElem (by simp) fun k h1 h2 => ?_
  simp [atD, h2]
theorem rng_get {n : Nat} (h : n ≤ 16777216) : ItK.rng.get [.int (n : Int)] = some (rangeD 0 n) := by
  simp only [ItK.get]
  rw [if_pos (by omega)]
  simp
namespace K17
theorem s35 (n : Nat) (b : Bk) (w : WB b) (ts : List (List Int)) (hl : ts.length = b.rs.length) (g : List Gd) {x y : List Nat} (h1 : reprD (.tup [bD b, tlD ts]) = some x) (h2 : reprD (.lst [.tup (lvAll b ts), .tup (slips b ts), .int (missL b ts)]) = some y) : TB fns (n + 8) 35 [.val (bD b), .val (tlD ts)] g = .ret (.bl true) g := by
  rw [t (n + 7) 35 d35 rfl]
  have zr := w.zr
  have a23 := s23 (n + 4) b w ts hl g
  have a10 := s10 (n + 1) b w ts hl g
  have a11 := s11 n b w ts hl g
  have a12 := s12 (n + 6) b w ts hl g
  have a34 := s34 (n + 6) b ts g
  have ll := lvF_len b b.rs ts (st0 b) hl
  have sl : (slips b ts).length = ts.length := by unfold slips; rw [List.length_map, List.length_zip, ll]; omega
  have hc := comp_map (T := TB fns (n + 7)) (elt := (.call 25 [(.var 0), (.prim .ix [(.var 3), (.var 7)]), (.var 7)])) (pt := .nm 7) (it := .rng) (src := [(.prim .len [(.var 1)])]) (ws := [7])
    (st := ⟨[.val (bD b), .val (tlD ts), .val (.str x), .val (.lst (lvAll b ts)), .none, .none, .none, .none], g⟩) (s1 := ⟨[.val (bD b), .val (tlD ts), .val (.str x), .val (.lst (lvAll b ts)), .none, .none, .none, .none], g⟩) (ds := [.int ts.length]) (xs := rangeD 0 ts.length)
    (atD (slips b ts)) (by simp [tlD]) (rng_get (by omega)) (by rw [rangeD_map, bigE]; simp; omega) (by intro j hj; simp at hj; subst hj; simp) (r0 := [.val (bD b), .val (tlD ts), .val (.str x), .val (.lst (lvAll b ts)), .none, .none, .none, .none]) rfl fun q hq => by
      obtain ⟨k, hk, rfl⟩ := rangeD_mem hq
      have k1 : k < b.rs.length := by omega
      have k2 : k < (lvF b (st0 b) b.rs ts).length := by omega
      refine ⟨[.val (bD b), .val (tlD ts), .val (.str x), .val (.lst (lvAll b ts)), .none, .none, .none, .val (.int k)], by simp, rfl, ?_⟩
      have e1 : P.ap .ix [.lst (lvAll b ts), .int (k : Int)] = some (hT b (lvF b (st0 b) b.rs ts)[k]) := by
        rw [ap_ix_lst]
        refine ixl_nat ?_
        unfold lvAll
        rw [List.getElem?_append_left (by simpa using k2), List.getElem?_map, List.getElem?_eq_getElem k2]
        rfl
      have a25 := s25 (n + 6) b w (lvF b (st0 b) b.rs ts)[k] k b.rs[k] (List.getElem?_eq_getElem k1) g
      have e2 : atD (slips b ts) (.int k) = slipD (lvF b (st0 b) b.rs ts)[k] b.rs[k] := by
        have z : (b.rs.zip (lvF b (st0 b) b.rs ts))[k]? = some (b.rs[k], (lvF b (st0 b) b.rs ts)[k]) := by
          rw [List.getElem?_eq_getElem (by rw [List.length_zip]; omega), List.getElem_zip]
        simp [atD, slips, z]
      simp [e1, a25, e2]
  rw [← sl, range_at] at hc
  have er : ∀ z : List Nat, eqD (.str z) (.str z) = some true := fun z => by rw [eqD_str]; simp
  have hm : mirror (TB fns (n + 7)) d35 [.val (bD b), .val (tlD ts)] g = .ret (.bl true) g := by
    simp [mirror, d35, cutG, h1, a23, hc, a10, a11, a12, a34, h2, er, pick, truth, MutK.ap, bigE]
  rw [hm]
end K17
end Rf

set_option Elab.async false
set_option linter.all false
set_option maxRecDepth 100000
set_option maxHeartbeats 4000000
namespace Rf
open PySem PySem.Spec PyProof.Rows L2

/-! ### small data -/
def Sc (s : Nat) : D → Prop
  | .non => True
  | .bl _ => True
  | .int i => i.natAbs ≤ s
  | .str x => x.length ≤ s ∧ ∀ c ∈ x, c < 128
  | _ => False
def Sm : Nat → Nat → Nat → D → Prop
  | 0, s, _, d => Sc s d
  | k + 1, s, m, d => Sc s d ∨ ∃ xs, (d = .tup xs ∨ d = .lst xs) ∧ xs.length ≤ m ∧ ∀ a ∈ xs, Sm k s m a
theorem Sc.mono {s s' : Nat} (h : s ≤ s') {d : D} (q : Sc s d) : Sc s' d := by
  cases d <;> simp only [Sc] at q ⊢ <;> try exact q
  · omega
  · exact ⟨by omega, q.2⟩
theorem Sm.mono : ∀ {k k' s s' m m' : Nat} {d : D}, k ≤ k' → s ≤ s' → m ≤ m' → Sm k s m d → Sm k' s' m' d
  | 0, 0, _, _, _, _, _, _, h2, _, q => Sc.mono h2 q
  | 0, _ + 1, _, _, _, _, _, _, h2, _, q => .inl (Sc.mono h2 q)
  | _ + 1, 0, _, _, _, _, _, h1, _, _, _ => by omega
  | k + 1, k' + 1, _, _, _, _, _, h1, h2, h3, q => by
    rcases q with q | ⟨xs, q1, q2, q3⟩
    · exact .inl (Sc.mono h2 q)
    · exact .inr ⟨xs, q1, by omega, fun a ha => Sm.mono (by omega) h2 h3 (q3 a ha)⟩
/-- what small data weighs at most -/
def wB (s m : Nat) : Nat → Nat
  | 0 => 10 * s + 1930
  | k + 1 => m * wB s m k + 2 * m + 3 + 10 * s + 1930
theorem wL_le {B : Nat} : ∀ {xs : List D}, (∀ a ∈ xs, wD a ≤ B) → wL xs ≤ xs.length * B
  | [], _ => by simp [wL]
  | x :: xs, h => by
    have h1 := h x (by simp)
    have h2 := wL_le fun a ha => h a (List.mem_cons_of_mem _ ha)
    simp only [wL, List.length_cons, Nat.add_mul]
    omega
theorem all_lay : ∀ {xs : List D}, (∀ a ∈ xs, (toP a).canLay0 = true ∧ (toP a).showable = true) → PyData.canLayAll0 (toPL xs) = true ∧ PyData.showableAll (toPL xs) = true
  | [], _ => by simp [toPL, PyData.canLayAll0, PyData.showableAll]
  | x :: xs, h => by
    obtain ⟨h1, h2⟩ := all_lay fun a ha => h a (List.mem_cons_of_mem _ ha)
    obtain ⟨h3, h4⟩ := h x (by simp)
    simp [toPL, PyData.canLayAll0, PyData.showableAll, h1, h2, h3, h4]
theorem all_depth {B : Nat} : ∀ {xs : List D}, (∀ a ∈ xs, (toP a).depth ≤ B) → PyData.depthAll (toPL xs) ≤ B
  | [], _ => by simp [toPL, PyData.depthAll]
  | x :: xs, h => by
    have h1 := all_depth fun a ha => h a (List.mem_cons_of_mem _ ha)
    have h2 := h x (by simp)
    simp only [toPL, PyData.depthAll]
    omega
theorem Sc.good {s : Nat} (hs : s ≤ 1000000) {d : D} (q : Sc s d) : (toP d).canLay0 = true ∧ (toP d).showable = true ∧ (toP d).depth = 0 ∧ wD d ≤ 10 * s + 1930 := by
  cases d with
  | non => simp [toP, PyData.canLay0, PyData.showable, PyData.depth, wD]
  | bl b => simp [toP, PyData.canLay0, PyData.showable, PyData.depth, wD]
  | int i =>
    simp only [Sc] at q
    have : i.natAbs.log2 < 1920 := by
      by_cases z : i.natAbs = 0
      · rw [z]; decide
      · have h20 : i.natAbs.log2 < 20 := by
          rw [Nat.log2_lt z]
          have : (1000000 : Nat) < 2 ^ 20 := by decide
          omega
        omega
    simp [toP, PyData.canLay0, PyData.showable, PyData.depth, wD, this]
  | str x =>
    simp only [Sc] at q
    have : PyData.strOk ⟨x.toArray⟩ = true := by
      simp only [PyData.strOk, Array.all_eq_true', List.mem_toArray, decide_eq_true_eq]
      exact fun c hc => Nat.lt_trans (q.2 c hc) (by decide)
    simp [toP, PyData.canLay0, PyData.showable, PyData.depth, wD, this]
    omega
  | _ => exact q.elim
theorem Sm.good {s m : Nat} (hs : s ≤ 1000000) : ∀ {k : Nat} {d : D}, Sm k s m d → (toP d).canLay0 = true ∧ (toP d).showable = true ∧ (toP d).depth ≤ k ∧ wD d ≤ wB s m k
  | 0, d, q => by
    obtain ⟨h1, h2, h3, h4⟩ := Sc.good hs q
    exact ⟨h1, h2, by omega, h4⟩
  | k + 1, d, q => by
    rcases q with q | ⟨xs, q1, q2, q3⟩
    · obtain ⟨h1, h2, h3, h4⟩ := Sc.good hs q
      exact ⟨h1, h2, by omega, by simp only [wB]; omega⟩
    · have ih := fun a ha => Sm.good hs (q3 a ha)
      obtain ⟨l1, l2⟩ := all_lay fun a ha => ⟨(ih a ha).1, (ih a ha).2.1⟩
      have l3 := all_depth (B := k) fun a ha => (ih a ha).2.2.1
      have l4 := wL_le (B := wB s m k) fun a ha => (ih a ha).2.2.2
      have l5 : xs.length * wB s m k ≤ m * wB s m k := Nat.mul_le_mul_right _ q2
      rcases q1 with rfl | rfl
      · simp only [toP, PyData.canLay0, PyData.showable, PyData.depth, wD, wB]
        exact ⟨l1, l2, by omega, by omega⟩
      · simp only [toP, PyData.canLay0, PyData.showable, PyData.depth, wD, wB]
        exact ⟨l1, l2, by omega, by omega⟩
/-! ### parts of lists -/
theorem cut_to {α : Type} (xs : List α) {i : Int} (h1 : 0 ≤ i) (h2 : i ≤ xs.length) : cutL xs none (some i) = xs.take i.toNat := by
  have e1 : HT.sIx xs.length 0 none = 0 := rfl
  have e2 : HT.sIx xs.length xs.length (some i) = i.toNat := by
    unfold HT.sIx
    simp only
    rw [if_neg (by omega)]
    omega
  unfold cutL
  rw [e1, e2]
  simp
theorem cut_from {α : Type} (xs : List α) {i : Int} (h1 : 0 ≤ i) (h2 : i ≤ xs.length) : cutL xs (some i) none = xs.drop i.toNat := by
  have e1 : HT.sIx xs.length 0 (some i) = i.toNat := by
    unfold HT.sIx
    simp only
    rw [if_neg (by omega)]
    omega
  have e2 : HT.sIx xs.length xs.length none = xs.length := rfl
  unfold cutL
  rw [e1, e2, List.take_of_length_le (by simp)]
theorem cut_last {α : Type} (xs : List α) : cutL xs none (some (-1)) = xs.take (xs.length - 1) := by
  have e1 : HT.sIx xs.length 0 none = 0 := rfl
  have e2 : HT.sIx xs.length xs.length (some (-1)) = xs.length - 1 := by
    unfold HT.sIx
    simp only
    rw [if_pos (by omega)]
    omega
  unfold cutL
  rw [e1, e2]
  simp
theorem cut_end {α : Type} (xs : List α) : cutL xs (some (-1)) none = xs.drop (xs.length - 1) := by
  have e1 : HT.sIx xs.length 0 (some (-1)) = xs.length - 1 := by
    unfold HT.sIx
    simp only
    rw [if_pos (by omega)]
    omega
  have e2 : HT.sIx xs.length xs.length none = xs.length := rfl
  unfold cutL
  rw [e1, e2, List.take_of_length_le (by simp)]
theorem cut_any {α : Type} {xs : List α} {lo hi : Option Int} {a : α} (h : a ∈ cutL xs lo hi) : a ∈ xs := by
  unfold cutL at h
  exact List.mem_of_mem_drop (List.mem_of_mem_take h)
theorem cut_len {α : Type} (xs : List α) (lo hi : Option Int) : (cutL xs lo hi).length ≤ xs.length := by
  unfold cutL
  rw [List.length_take, List.length_drop]
  omega
end Rf

set_option Elab.async false
set_option linter.all false
set_option maxRecDepth 100000
set_option maxHeartbeats 4000000
namespace Rf
open PySem PySem.Spec PyProof.Rows L2
def Ok (k W : Nat) (d : D) : Prop := (toP d).canLay0 = true ∧ (toP d).showable = true ∧ (toP d).depth ≤ k ∧ wD d ≤ W
theorem Ok.mono {k W k' W' : Nat} {d : D} (h : Ok k W d) (h1 : k ≤ k') (h2 : W ≤ W') : Ok k' W' d := ⟨h.1, h.2.1, Nat.le_trans h.2.2.1 h1, Nat.le_trans h.2.2.2 h2⟩
theorem Ok_int {i : Int} (h : i.natAbs ≤ 1000000) : Ok 0 1921 (.int i) := by
  have : i.natAbs.log2 < 1920 := by
    by_cases z : i.natAbs = 0
    · rw [z]; decide
    · have h20 : i.natAbs.log2 < 20 := by
        rw [Nat.log2_lt z]
        have : (1000000 : Nat) < 2 ^ 20 := by decide
        omega
      omega
  refine ⟨?_, ?_, ?_, ?_⟩ <;> simp [toP, PyData.canLay0, PyData.showable, PyData.depth, wD, this]
theorem Ok_non : Ok 0 1921 .non := by
  refine ⟨?_, ?_, ?_, ?_⟩ <;> simp [toP, PyData.canLay0, PyData.showable, PyData.depth, wD]
theorem Ok_str {x : Nm} (h : x.all lowC = true) (hl : x.length ≤ 8) : Ok 0 1921 (.str x) := by
  have := nm_lay h
  refine ⟨this, ?_, ?_, ?_⟩
  · simp [toP, PyData.showable]
  · simp [toP, PyData.depth]
  · simp only [wD]; omega
theorem Ok_tup {xs : List D} {k W m : Nat} (h : ∀ a ∈ xs, Ok k W a) (hm : xs.length ≤ m) : Ok (k + 1) (m * W + 2 * m + 3) (.tup xs) := by
  obtain ⟨l1, l2⟩ := all_lay fun a ha => ⟨(h a ha).1, (h a ha).2.1⟩
  have l3 := all_depth (B := k) fun a ha => (h a ha).2.2.1
  have l4 := wL_le (B := W) fun a ha => (h a ha).2.2.2
  have l5 : xs.length * W ≤ m * W := Nat.mul_le_mul_right _ hm
  refine ⟨?_, ?_, ?_, ?_⟩
  · simpa [toP, PyData.canLay0] using l1
  · simpa [toP, PyData.showable] using l2
  · simp only [toP, PyData.depth]; omega
  · simp only [wD]; omega
theorem Ok_lst {xs : List D} {k W m : Nat} (h : ∀ a ∈ xs, Ok k W a) (hm : xs.length ≤ m) : Ok (k + 1) (m * W + 2 * m + 3) (.lst xs) := by
  obtain ⟨l1, l2⟩ := all_lay fun a ha => ⟨(h a ha).1, (h a ha).2.1⟩
  have l3 := all_depth (B := k) fun a ha => (h a ha).2.2.1
  have l4 := wL_le (B := W) fun a ha => (h a ha).2.2.2
  have l5 : xs.length * W ≤ m * W := Nat.mul_le_mul_right _ hm
  refine ⟨?_, ?_, ?_, ?_⟩
  · simpa [toP, PyData.canLay0] using l1
  · simpa [toP, PyData.showable] using l2
  · simp only [toP, PyData.depth]; omega
  · simp only [wD]; omega
theorem Ok.repr {k W : Nat} {d : D} (h : Ok k W d) (h1 : k ≤ 30) (h2 : W ≤ 16777216) : ∃ r, reprD d = some r := repr_some h.1 h.2.1 (Nat.le_trans h.2.2.1 h1) (Nat.le_trans h.2.2.2 h2)
structure SB (b : Bk) : Prop where
  pn : ∀ p ∈ b.ps, p.2.1.natAbs ≤ 100 ∧ p.2.2.natAbs ≤ 100
  cn : ∀ c ∈ b.cs, c.2.2.natAbs ≤ 100
  sn : ∀ n, b.sl = some n → n.natAbs ≤ 100
  rm : ∀ a c m, Rw.mv a c m ∈ b.rs → okNm a ∧ okNm c ∧ m.natAbs ≤ 100
  rt : ∀ a m, Rw.ct a m ∈ b.rs → m.natAbs ≤ 100
def SU (b : Bk) (ts : List (List Int)) : Prop := ts.length = b.rs.length ∧ ∀ us ∈ ts, us.length ≤ 20 ∧ ∀ u ∈ us, u.natAbs ≤ 100
theorem ns_ok {b : Bk} (w : WB b) {a : Nm} (h : a ∈ b.ns) : okNm a := by
  obtain ⟨p, hp, rfl⟩ := List.mem_map.mp h
  exact (w.nm p hp).1
theorem wO_ok : okNm wO := ⟨by decide, by decide, by decide⟩
theorem wM_ok : okNm wM := ⟨by decide, by decide, by decide⟩
theorem wC_ok : okNm wC := ⟨by decide, by decide, by decide⟩
theorem okNm.ok {x : Nm} (h : okNm x) : Ok 0 1921 (.str x) := Ok_str h.2.2 h.2.1
theorem mem3 {P : D → Prop} {a b c : D} (h1 : P a) (h2 : P b) (h3 : P c) : ∀ x ∈ [a, b, c], P x := by
  intro x hx; simp at hx; rcases hx with rfl | rfl | rfl <;> assumption
theorem mem4 {P : D → Prop} {a b c d : D} (h1 : P a) (h2 : P b) (h3 : P c) (h4 : P d) : ∀ x ∈ [a, b, c, d], P x := by
  intro x hx; simp at hx; rcases hx with rfl | rfl | rfl | rfl <;> assumption
theorem bD_ok {b : Bk} (w : WB b) (s : SB b) : Ok 3 1600000 (bD b) := by
  have zp := w.zp
  have zc := w.zc
  have zr := w.zr
  have o1 : Ok 2 384853 (.tup (b.ps.map pD)) := (Ok_tup (k := 1) (W := 5772) (m := 10) (fun a ha => by
    obtain ⟨p, hp, rfl⟩ := List.mem_map.mp ha
    obtain ⟨q1, q2⟩ := s.pn p hp
    exact Ok_tup (m := 3) (mem3 (w.nm p hp).1.ok (Ok_int (by omega)) (Ok_int (by omega))) (by simp)) (by simpa using zp)).mono (by omega) (by omega)
  have o2 : Ok 2 384853 (.tup (b.cs.map cD)) := (Ok_tup (k := 1) (W := 5772) (m := 20) (fun a ha => by
    obtain ⟨p, hp, rfl⟩ := List.mem_map.mp ha
    have q1 := s.cn p hp
    obtain ⟨c1, c2⟩ := w.ce p hp
    have k1 : okNm p.1 := by rcases c1 with e | e
                             · rw [e]; exact wO_ok
                             · exact ns_ok w e
    have k2 : okNm p.2.1 := by rcases c2 with e | e
                               · rw [e]; exact wO_ok
                               · exact ns_ok w e
    exact Ok_tup (m := 3) (mem3 k1.ok k2.ok (Ok_int (by omega))) (by simp)) (by simpa using zc)).mono (by omega) (by omega)
  have o3 : Ok 2 384853 (slD b.sl) := by
    cases e : b.sl with
    | none => exact Ok_non.mono (by omega) (by omega)
    | some n => exact (Ok_int (by have := s.sn n e; omega)).mono (by omega) (by omega)
  have o4 : Ok 2 384853 (.tup (b.rs.map rD)) := (Ok_tup (k := 1) (W := 7695) (m := 50) (fun a ha => by
    obtain ⟨r, hr, rfl⟩ := List.mem_map.mp ha
    cases r with
    | mv a c m =>
      obtain ⟨k1, k2, k3⟩ := s.rm a c m hr
      exact Ok_tup (m := 4) (mem4 wM_ok.ok k1.ok k2.ok (Ok_int (by omega))) (by simp)
    | ct a m =>
      have k3 := s.rt a m hr
      exact Ok_tup (m := 4) (mem3 wC_ok.ok (ns_ok w (w.rc a m hr)).ok (Ok_int (by omega))) (by simp)) (by simpa using zr)).mono (by omega) (by omega)
  exact (Ok_tup (m := 4) (mem4 o1 o2 o3 o4) (by simp)).mono (by omega) (by omega)
theorem iT_ok {us : List Int} (h1 : us.length ≤ 20) (h2 : ∀ u ∈ us, u.natAbs ≤ 1000000) : Ok 1 38463 (iT us) := Ok_tup (m := 20) (fun a ha => by
  obtain ⟨u, hu, rfl⟩ := List.mem_map.mp ha
  exact Ok_int (h2 u hu)) (by simpa using h1)
theorem gain_bd (x : Nm) : ∀ (cs : List (Nm × Nm × Int)) (us : List Int), (∀ u ∈ us, u.natAbs ≤ 100) → (gain x cs us).natAbs ≤ us.length * 100
  | [], us, _ => by simp [gain]
  | c :: cs, [], _ => by simp [gain]
  | c :: cs, u :: us, h => by
    have ih := gain_bd x cs us fun v hv => h v (List.mem_cons_of_mem _ hv)
    have hu := h u (by simp)
    simp only [gain, List.length_cons]
    have : (u * ((if c.2.1 = x then 1 else 0) - (if c.1 = x then 1 else 0))).natAbs ≤ 100 := by
      split <;> split <;> simp <;> omega
    omega
theorem chg_bd {b : Bk} (s : SB b) {r : Rw} (hr : r ∈ b.rs) (x : Nm) : (chg r x).natAbs ≤ 100 := by
  cases r with
  | ct a m => simp [chg]
  | mv a c m =>
    have := (s.rm a c m hr).2.2
    simp only [chg]
    split <;> split <;> simp <;> omega
theorem lvF_bd {b : Bk} (s : SB b) : ∀ (rs : List Rw) (us : List (List Int)) (h : Nm → Int) (B : Nat), (∀ r ∈ rs, r ∈ b.rs) → (∀ u ∈ us, u.length ≤ 20 ∧ ∀ v ∈ u, v.natAbs ≤ 100) → (∀ x, (h x).natAbs ≤ B) →
    (∀ h' ∈ lvF b h rs us, ∀ x, (h' x).natAbs ≤ B + rs.length * 2100) ∧ ∀ x, (lvE b h rs us x).natAbs ≤ B + rs.length * 2100
  | [], us, h, B, _, _, hh => ⟨by simp [lvF], fun x => by simpa [lvE] using hh x⟩
  | r :: rs, [], h, B, _, _, hh => ⟨by simp [lvF], fun x => by have := hh x; simp only [lvE]; omega⟩
  | r :: rs, u :: us, h, B, hr, hu, hh => by
    obtain ⟨u1, u2⟩ := hu u (by simp)
    have e1 : ∀ x, (stepM b u h x).natAbs ≤ B + 2000 := fun x => by
      have a := hh x
      have c := gain_bd x b.cs u u2
      have : u.length * 100 ≤ 2000 := by omega
      simp only [stepM]
      omega
    have e2 : ∀ x, (stepD r (stepM b u h) x).natAbs ≤ B + 2100 := fun x => by
      have a := e1 x
      have c := chg_bd s (hr r (by simp)) x
      simp only [stepD]
      omega
    obtain ⟨i1, i2⟩ := lvF_bd s rs us (stepD r (stepM b u h)) (B + 2100) (fun q hq => hr q (List.mem_cons_of_mem _ hq)) (fun q hq => hu q (List.mem_cons_of_mem _ hq)) e2
    constructor
    · intro h' hm x
      simp only [lvF, List.mem_cons] at hm
      rw [List.length_cons]
      rcases hm with rfl | hm
      · have := e1 x; omega
      · have := i1 h' hm x; omega
    · intro x
      have := i2 x
      simp only [lvE, List.length_cons]
      omega
namespace K17
theorem reprs {b : Bk} (w : WB b) (s : SB b) {ts : List (List Int)} (u : SU b ts) : (∃ x, reprD (.tup [bD b, tlD ts]) = some x) ∧ ∃ y, reprD (.lst [.tup (lvAll b ts), .tup (slips b ts), .int (missL b ts)]) = some y := by
  have zp := w.zp
  have zr := w.zr
  obtain ⟨u1, u2⟩ := u
  have o1 := bD_ok w s
  have o2 : Ok 2 1923253 (tlD ts) := Ok_tup (m := 50) (fun a ha => by
    obtain ⟨us, hu, rfl⟩ := List.mem_map.mp ha
    exact iT_ok (u2 us hu).1 fun v hv => by have := (u2 us hu).2 v hv; omega) (by simp; omega)
  have st : ∀ x, (st0 b x).natAbs ≤ 100 := fun x => by
    unfold st0
    cases e : b.ps.find? (fun p : Nm × Int × Int => decide (p.1 = x)) with
    | none => simp
    | some p =>
      have := (s.pn p (List.mem_of_find?_eq_some e)).1
      simpa using this
  obtain ⟨l1, l2⟩ := lvF_bd s b.rs ts (st0 b) 100 (fun _ h => h) u2 st
  have lh : ∀ h : Nm → Int, (∀ x, (h x).natAbs ≤ 105100) → Ok 1 19233 (hT b h) := fun h hh => Ok_tup (m := 10) (xs := b.ps.map fun p => D.int (h p.1)) (fun a ha => by
    obtain ⟨p, hp, rfl⟩ := List.mem_map.mp ha
    exact Ok_int (Nat.le_trans (hh p.1) (by omega))) (by simpa using zp)
  have ll := lvF_len b b.rs ts (st0 b) u1
  have o3 : Ok 2 980988 (.tup (lvAll b ts)) := Ok_tup (m := 51) (xs := lvAll b ts) (fun a ha => by
    unfold lvAll at ha
    rcases List.mem_append.mp ha with z | z
    · obtain ⟨h, hm, rfl⟩ := List.mem_map.mp z
      exact lh h fun x => by have := l1 h hm x; omega
    · simp only [List.mem_singleton] at z
      subst z
      exact lh _ fun x => by have := l2 x; omega) (by unfold lvAll; simp; omega)
  have o4 : Ok 1 96153 (.tup (slips b ts)) := Ok_tup (m := 50) (xs := slips b ts) (fun a ha => by
    unfold slips at ha
    obtain ⟨q, hq, rfl⟩ := List.mem_map.mp ha
    obtain ⟨q1, q2⟩ := List.of_mem_zip hq
    obtain ⟨r, h⟩ := q
    cases r with
    | mv a c m => exact Ok_non
    | ct a m =>
      have k1 := s.rt a m q1
      have k2 := l1 h q2 a
      refine Ok_int ?_
      simp only [absI]
      split <;> omega) (by unfold slips; rw [List.length_map, List.length_zip]; omega)
  have ms : ∀ ts : List (List Int), (∀ us ∈ ts, us.length ≤ 20 ∧ ∀ v ∈ us, v.natAbs ≤ 100) → (missL b ts).natAbs ≤ ts.length * 2000 := by
    intro ts
    induction ts with
    | nil => intro _; simp [missL]
    | cons us ts ih =>
      intro h
      have i := ih fun q hq => h q (List.mem_cons_of_mem _ hq)
      have g := gain_bd wO b.cs us (h us (by simp)).2
      have := (h us (by simp)).1
      simp only [missL, List.map_cons, List.sum_cons, List.length_cons] at i ⊢
      omega
  have o5 : Ok 0 1921 (.int (missL b ts)) := Ok_int (by have := ms ts u2; omega)
  constructor
  · refine (Ok_tup (k := 3) (W := 1923253) (m := 2) (xs := [bD b, tlD ts]) (fun a ha => ?_) (by simp)).repr (by omega) (by omega)
    simp at ha
    rcases ha with rfl | rfl
    · exact o1.mono (by omega) (by omega)
    · exact o2.mono (by omega) (by omega)
  · exact (Ok_lst (k := 2) (W := 980988) (m := 3) (mem3 o3 (o4.mono (by omega) (by omega)) (o5.mono (by omega) (by omega))) (by simp)).repr (by omega) (by omega)
theorem s35' (n : Nat) (b : Bk) (w : WB b) (s : SB b) (ts : List (List Int)) (u : SU b ts) (g : List Gd) : TB fns (n + 8) 35 [.val (bD b), .val (tlD ts)] g = .ret (.bl true) g := by
  obtain ⟨⟨x, hx⟩, y, hy⟩ := reprs w s u
  exact s35 n b w ts u.1 g hx hy
end K17
end Rf

set_option Elab.async false
set_option linter.all false
set_option maxRecDepth 100000
set_option maxHeartbeats 4000000
namespace Rf
open PySem PySem.Spec PyProof.Rows L2
namespace K17
theorem nb3 (x : Int) : (x.fmod 2147483549).natAbs < 18446744073709551616 := by
  obtain ⟨h1, h2⟩ := fmod_lt (a := x) (b := 2147483549) (by decide)
  omega
theorem nb4 (x : Int) : (x.fmod 2147483489).natAbs < 18446744073709551616 := by
  obtain ⟨h1, h2⟩ := fmod_lt (a := x) (b := 2147483489) (by decide)
  omega
def my1 (cell k : Int) : Int := (cell.fmod 1000001951 + 97001 * k + 659).fmod 2147483549
def my2 (cell k : Int) : Int := (my1 cell k ^ 3 + 7400717 * k + 373).fmod 2147483489
def my3 (cell k : Int) : Int := ((my2 cell k ^ 3 + 359 * my2 cell k).fmod 2147483399).fdiv 32
/-- a draw -/
theorem s14 (n : Nat) {g : List Gd} {j : Nat} {kd : Gd} {many : Int} (h : g[j]? = some kd) (hf : Fd kd) (h1 : 0 < many) (h2 : many < 1073741824) : ∃ r kd', 0 ≤ r ∧ r < many ∧ Fd kd' ∧ TB fns (n + 1) 14 [.glb j, .val (.int many)] g = .ret (.int r) (g.set j kd') := by
  rw [t n 14 d14 rfl]
  obtain ⟨c, a, l, k, rfl, hl⟩ := hf
  have hj : j < g.length := (List.getElem?_eq_some_iff.mp h).1
  have n0 : many ≠ 0 := by omega
  have nb : many.natAbs < 1073741824 := by omega
  have tk : ∀ x : Gd, (g.set j x).take g.length = g.set j x := fun x => by rw [List.take_of_length_le (by simp)]
  have gs : ∀ x : Gd, (g.set j x)[j]? = some x := fun x => List.getElem?_set_self hj
  cases hc0 : c.isEmpty with
  | true =>
    have : c = [] := List.isEmpty_iff.mp hc0
    subst this
    have e0 : eqD (.lst []) (.lst []) = some true := rfl
    refine ⟨(k + 1).fmod many, fdOf [] a l (k + 1), (fmod_lt h1).1, (fmod_lt h1).2, ⟨_, _, _, _, rfl, hl⟩, ?_⟩
    simp [mirror, d14, h, get_count, set_count, get_cells, fd_len, truth, n0, nb, cutG, tk, gs, List.set_set, e0]
  | false =>
  have e1 := cells_ne c
  rw [hc0] at e1
  by_cases hp : 0 < l
  · refine ⟨l.fmod many, fdOf c a (l.fdiv many) (k + 1), (fmod_lt h1).1, (fmod_lt h1).2, ⟨c, a, _, _, rfl, Int.fdiv_nonneg hl (by omega)⟩, ?_⟩
    simp [mirror, d14, h, get_count, set_count, get_left, set_left, get_cells, e1, fd_len, truth, hp, n0, nb, cutG, tk, gs, List.set_set]
  · obtain ⟨cell, hv⟩ := cell_get c a hc0
    have cn : (c.length : Int) ≠ 0 := by
      cases c with
      | nil => simp at hc0
      | cons x xs => simp only [List.length_cons]; omega
    have cn2 : ¬ c = [] := fun z => by rw [z] at hc0; cases hc0
    by_cases hb : 1000000000000000000 ≤ cell
    · by_cases hc : a < c.length
      · refine ⟨cell.fmod many, fdOf c (a + 1) (cell.fdiv many) (k + 1), (fmod_lt h1).1, (fmod_lt h1).2, ⟨c, _, _, _, rfl, Int.fdiv_nonneg (by omega) (by omega)⟩, ?_⟩
        simp [mirror, d14, h, get_count, set_count, get_left, set_left, get_at, set_at, get_cells, e1, cn2, hv, fd_len, truth, hp, n0, nb, cutG, tk, gs, List.set_set, hb, hc]
      · refine ⟨(my3 cell (k + 1)).fmod many, fdOf c (a + 1) l (k + 1), (fmod_lt h1).1, (fmod_lt h1).2, ⟨c, _, _, _, rfl, hl⟩, ?_⟩
        simp [mirror, d14, h, get_count, set_count, get_left, set_left, get_at, set_at, get_cells, e1, cn2, hv, fd_len, truth, hp, n0, nb, cutG, tk, gs, List.set_set, hb, hc, nb3, nb4, my1, my2, my3]
    · refine ⟨(my3 cell (k + 1)).fmod many, fdOf c (a + 1) l (k + 1), (fmod_lt h1).1, (fmod_lt h1).2, ⟨c, _, _, _, rfl, hl⟩, ?_⟩
      simp [mirror, d14, h, get_count, set_count, get_left, set_left, get_at, set_at, get_cells, e1, cn2, hv, fd_len, truth, hp, n0, nb, cutG, tk, gs, List.set_set, hb, nb3, nb4, my1, my2, my3]
/-- one of some -/
theorem s15 (n : Nat) {g : List Gd} {j : Nat} {kd : Gd} {xs : List D} (h : g[j]? = some kd) (hf : Fd kd) (h1 : 0 < xs.length) (h2 : xs.length < 1073741824) (v : D) (hv : v = .tup xs ∨ v = .lst xs) : ∃ x kd', x ∈ xs ∧ Fd kd' ∧ TB fns (n + 2) 15 [.glb j, .val v] g = .ret x (g.set j kd') := by
  obtain ⟨r, kd', r1, r2, hf', e⟩ := s14 n (many := xs.length) h hf (by omega) (by omega)
  have hr : r.toNat < xs.length := by omega
  have tk : (g.set j kd').take g.length = g.set j kd' := by rw [List.take_of_length_le (by simp)]
  refine ⟨xs[r.toNat], kd', List.getElem_mem hr, hf', ?_⟩
  rw [t (n + 1) 15 d15 rfl]
  have hx : xs[r.toNat]? = some xs[r.toNat] := List.getElem?_eq_getElem hr
  have rr : ((r.toNat : Nat) : Int) = r := by omega
  rcases hv with rfl | rfl
  · have := ix_nat hx
    rw [rr] at this
    simp [mirror, d15, h, cutG, e, this, tk]
  · have := ixl_nat hx
    rw [rr] at this
    simp [mirror, d15, h, cutG, e, this, tk]
end K17
end Rf

set_option Elab.async false
set_option linter.all false
set_option maxRecDepth 100000
set_option maxHeartbeats 4000000
namespace Rf
open PySem PySem.Spec PyProof.Rows L2
theorem runs_app (T : Tbl) : ∀ (a b : List S) (st : Sx), runs T (a ++ b) st = match runs T a st with | .nx s => runs T b s | r => r
  | [], b, st => by simp
  | s :: a, b, st => by
    rw [List.cons_append, runs_cons, runs_cons]
    cases run T s st with
    | nx s1 => exact runs_app T a b s1
    | _ => rfl
structure Spots (ps : List (Nm × Int × Int)) : Prop where
  nd : (ps.map (·.1)).Nodup
  ok : ∀ p ∈ ps, okNm p.1 ∧ p.1 ≠ wO ∧ 0 ≤ p.2.1 ∧ p.2.1 ≤ 90 ∧ 1 ≤ p.2.2 ∧ p.2.2 ≤ 90
  lo : 1 ≤ ps.length
  hi : ps.length ≤ 10
def capF (ps : List (Nm × Int × Int)) : Nm → Int := fun x => ((ps.find? fun p => decide (p.1 = x)).map (·.2.2)).getD 0
def rowOk (ns : List Nm) : Rw → Prop
  | .ct a m => a ∈ ns ∧ m.natAbs ≤ 100
  | .mv a c m => okNm a ∧ okNm c ∧ m.natAbs ≤ 100
theorem pairs_ok : ∀ ps : List (Nm × Int × Int), pairsD (ps.map fun p => .tup [.str p.1, .int p.2.2]) = some (ps.map fun p => (nk p.1, .int p.2.2))
  | [] => rfl
  | p :: ps => by
    simp only [List.map_cons, pairsD, pairs_ok ps, keyD]
    rfl
theorem merge_ok {ps : List (Nm × Int × Int)} (h : (ps.map (·.1)).Nodup) : mergeD [] (ps.map fun p => (nk p.1, D.int p.2.2)) = dk (ps.map (·.1)) (capF ps) := by
  unfold mergeD
  rw [List.foldl_map, fold_setK (fun p : Nm × Int × Int => nk p.1) (fun p => D.int p.2.2)]
  · unfold dk
    rw [List.map_map, List.nil_append]
    refine List.map_congr_left fun p hp => ?_
    simp only [Function.comp]
    unfold capF
    rw [K17.find_nd h hp]
    rfl
  · rw [List.map_nil, List.nil_append]
    have e : ps.map (fun p => nk p.1) = (ps.map (·.1)).map nk := by rw [List.map_map]; rfl
    rw [e]
    exact h.map nk fun a c hac he => hac (nk_inj.mp he)
theorem cap_ok {ps : List (Nm × Int × Int)} (s : Spots ps) {a : Nm} (h : a ∈ ps.map (·.1)) : 1 ≤ capF ps a ∧ capF ps a ≤ 90 := by
  obtain ⟨p, hp, rfl⟩ := List.mem_map.mp h
  unfold capF
  rw [K17.find_nd s.nd hp]
  have := s.ok p hp
  simp only [Option.map_some, Option.getD_some]
  omega
theorem dk_none {h : Nm → Int} {n : Nm} : ∀ {ns : List Nm}, n ∉ ns → getK (dk ns h) (nk n) = none
  | [], _ => rfl
  | m :: ns, hm => by
    simp only [List.mem_cons, not_or] at hm
    have ih := dk_none (h := h) hm.2
    unfold getK dk at ih ⊢
    rw [List.map_cons, List.find?_cons]
    have : (decide (nk m = nk n)) = false := by
      simp only [decide_eq_false_iff_not, nk_inj]
      exact fun e => hm.1 e.symm
    simp only [this]
    exact ih
namespace K17
theorem pv (n : Nat) {g : List Gd} {j : Nat} {f : Gd} {many : Int} (hj : j < g.length) (hf : Fd f) (h1 : 0 < many) (h2 : many < 1073741824) : ∃ r f', 0 ≤ r ∧ r < many ∧ Fd f' ∧ TB fns (n + 1) 14 [.glb j, .val (.int many)] (g.set j f) = .ret (.int r) (g.set j f') := by
  obtain ⟨r, f', a, b, c, e⟩ := s14 n (g := g.set j f) (j := j) (kd := f) (List.getElem?_set_self hj) hf h1 h2
  rw [List.set_set] at e
  exact ⟨r, f', a, b, c, e⟩
theorem pa (n : Nat) {g : List Gd} {j : Nat} {f : Gd} {xs : List D} (hj : j < g.length) (hf : Fd f) (h1 : 0 < xs.length) (h2 : xs.length < 1073741824) (v : D) (hv : v = .tup xs ∨ v = .lst xs) : ∃ x f', x ∈ xs ∧ Fd f' ∧ TB fns (n + 2) 15 [.glb j, .val v] (g.set j f) = .ret x (g.set j f') := by
  obtain ⟨r, f', a, c, e⟩ := s15 n (g := g.set j f) (j := j) (kd := f) (List.getElem?_set_self hj) hf h1 h2 v hv
  rw [List.set_set] at e
  exact ⟨r, f', a, c, e⟩
/-- a drawn row -/
theorem s16 (n : Nat) {g : List Gd} {j : Nat} {f : Gd} (hj : j < g.length) (hf : Fd f) {ps : List (Nm × Int × Int)} (sp : Spots ps) : ∃ r f', rowOk (ps.map (·.1)) r ∧ Fd f' ∧ TB fns (n + 3) 16 [.glb j, .val (.lst (ps.map pD))] (g.set j f) = .ret (rD r) (g.set j f') := by
  rw [t (n + 2) 16 d16 rfl]
  have lo := sp.lo
  have hi := sp.hi
  have tk : ∀ x : Gd, (g.set j x).take g.length = g.set j x := fun x => by rw [List.take_of_length_le (by simp)]
  have hc := comp_map (T := TB fns (n + 2)) (elt := (.tup [(.var 3), (.var 7)])) (pt := (.tp [(.nm 3), (.nm 6), (.nm 7)])) (it := .seq) (src := [(.var 1)]) (ws := [3, 6, 7]) (st := ⟨[.glb j, .val (.lst (ps.map pD)), .none, .none, .none, .none, .none, .none, .none], g.set j f⟩) (s1 := ⟨[.glb j, .val (.lst (ps.map pD)), .none, .none, .none, .none, .none, .none, .none], g.set j f⟩) (ds := [.lst (ps.map pD)]) (xs := ps.map pD)
    (fun d => .tup [(ixD d 0).getD .non, (ixD d 2).getD .non]) (by simp) rfl (by rw [List.length_map, bigE]; omega) (by intro k hk; simp at hk; rcases hk with rfl | rfl | rfl <;> simp) (r0 := [.glb j, .val (.lst (ps.map pD)), .none, .none, .none, .none, .none, .none, .none]) rfl fun y hy => by
      obtain ⟨q, hq, rfl⟩ := List.mem_map.mp hy
      exact ⟨[.glb j, .val (.lst (ps.map pD)), .none, .val (.str q.1), .none, .none, .val (.int q.2.1), .val (.int q.2.2), .none], by simp [pD], rfl, by simp [pD, bigE]⟩
  have e1 : (ps.map pD).map (fun d => D.tup [(ixD d 0).getD .non, (ixD d 2).getD .non]) = ps.map fun p => .tup [.str p.1, .int p.2.2] := by
    rw [List.map_map]
    refine List.map_congr_left fun p _ => ?_
    simp [pD]
  rw [e1] at hc
  obtain ⟨ns, hns⟩ : ∃ ns, ns = ps.map (·.1) := ⟨_, rfl⟩
  obtain ⟨kd, hkd⟩ : ∃ kd, kd = dk ns (capF ps) := ⟨_, rfl⟩
  have ed : P.ap .dict [.lst (ps.map fun p => .tup [.str p.1, .int p.2.2])] = some (.dct (kd.map (·.1)) (kd.map (·.2))) := by
    rw [ap_e51, if_pos (by rw [List.length_map, bigE]; omega), pairs_ok, Option.map_some, merge_ok sp.nd, hkd, hns]
  obtain ⟨x, f1, hx, hf1, ex⟩ := pa n (g := g) (j := j) (f := f) (xs := ps.map pD) hj hf (by simp; omega) (by simp; omega) (.lst (ps.map pD)) (.inr rfl)
  obtain ⟨p, hp, rfl⟩ := List.mem_map.mp hx
  have okp := sp.ok p hp
  have hm0 : p.1 ∈ ps.map (·.1) := List.mem_map_of_mem hp
  have hm : p.1 ∈ ns := by rw [hns]; exact hm0
  have cp := cap_ok sp hm0
  obtain ⟨c, f2, c1, c2, hf2, ec⟩ := pv (n + 1) (g := g) (j := j) (f := f1) (many := 5) hj hf1 (by decide) (by decide)
  have px : P.ap .ix [pD p, .int 0] = some (.str p.1) := by simp [pD]
  have kp : P.ap .ix [.dct (kd.map (·.1)) (kd.map (·.2)), .str p.1] = some (.int (capF ps p.1)) := by
    have q1 : keyD (.str p.1) = some (nk p.1) := rfl
    have q2 : getK kd (nk p.1) = some (.int (capF ps p.1)) := by rw [hkd]; exact dk_get hm
    rw [ap_e26, q1]
    simp only [zip_unzip, q2]
  let S1 : List Slot := [.glb j, .val (.lst (ps.map pD)), .val (.dct (kd.map (·.1)) (kd.map (·.2))), .val (.str p.1), .none, .none, .none, .none, .none]
  have q1 : runs (TB fns (n + 2)) (d16.body.take 2) ⟨[.glb j, .val (.lst (ps.map pD)), .none, .none, .none, .none, .none, .none, .none], g.set j f⟩ = .nx ⟨S1, g.set j f1⟩ := by
    simp [d16, hc, ed, ex, px, S1]
  have mir : mirror (TB fns (n + 2)) d16 [.glb j, .val (.lst (ps.map pD))] (g.set j f) = cutG (g.set j f).length (runs (TB fns (n + 2)) d16.body ⟨[.glb j, .val (.lst (ps.map pD)), .none, .none, .none, .none, .none, .none, .none], g.set j f⟩) := rfl
  by_cases hlow : c < 2
  · obtain ⟨m, f3, m1, m2, hf3, em⟩ := pv (n + 1) (g := g) (j := j) (f := f2) (many := capF ps p.1 + 1) hj hf2 (by omega) (by omega)
    refine ⟨.ct p.1 m, f3, ⟨hm0, by omega⟩, hf3, ?_⟩
    have q2 : runs (TB fns (n + 2)) (d16.body.drop 2) ⟨S1, g.set j f1⟩ = .ret (rD (.ct p.1 m)) ⟨S1, g.set j f3⟩ := by
      simp [d16, S1, ec, hlow, truth, kp, em, bigE, rD]
    have body : d16.body = d16.body.take 2 ++ d16.body.drop 2 := rfl
    rw [mir, body, runs_app, q1]
    simp only [q2, cutG, List.length_set, tk]
  · have fit : (kd.map (·.1)).all keyFit = true := by
      rw [List.all_eq_true]
      intro k hk
      obtain ⟨⟨k', v⟩, hk', rfl⟩ := List.mem_map.mp hk
      rw [hkd] at hk'
      obtain ⟨a, ha, e⟩ := List.mem_map.mp hk'
      obtain ⟨rfl, _⟩ := Prod.mk.inj e
      rw [hns] at ha
      obtain ⟨q, hq, rfl⟩ := List.mem_map.mp ha
      have := (sp.ok q hq).1.2.1
      simp [keyFit, nk, bigE]
      omega
    have kl : (kd.map (·.1)).map kD = ns.map .str := by
      rw [hkd]
      simp only [dk, List.map_map]
      refine List.map_congr_left fun a _ => ?_
      simp [kD, nk]
    have nl : ns.length = ps.length := by simp [hns]
    have hg := comp_pure (T := TB fns (n + 2)) (elt := .var 8) (pt := .nm 8) (it := .seq) (src := [(.prim .add [(.prim .list [(.var 2)]), (.lst [(.kstr [111, 117, 116])])])]) (cs := [(.prim .ne [(.var 8), (.var 3)])]) (ws := [8]) (st := ⟨S1, g.set j f2⟩) (s1 := ⟨S1, g.set j f2⟩) (ds := [.lst (ns.map .str ++ [.str wO])]) (xs := ns.map .str ++ [.str wO])
      (fun d : D => match d with | .str y => decide (¬ y = p.1) | _ => false) (fun d => d) (by simp [S1, fit, kl, bigE, nl, show ps.length + 1 ≤ 16777216 by omega]) rfl (by simp [bigE, nl]; omega) (by intro k hk; simp at hk; subst hk; simp [S1]) (r0 := S1) rfl fun y hy => by
        have : ∃ z : Nm, y = .str z := by
          rcases List.mem_append.mp hy with q | q
          · obtain ⟨z, _, rfl⟩ := List.mem_map.mp q; exact ⟨z, rfl⟩
          · exact ⟨wO, by simpa using q⟩
        obtain ⟨z, rfl⟩ := this
        refine ⟨[.glb j, .val (.lst (ps.map pD)), .val (.dct (kd.map (·.1)) (kd.map (·.2))), .val (.str p.1), .none, .none, .none, .none, .val (.str z)], by simp [S1], rfl, ?_, fun _ => by simp⟩
        by_cases zz : z = p.1 <;> simp [eqD_str, zz, truth]
    rw [List.map_id'] at hg
    obtain ⟨gs, hgs⟩ : ∃ gs, gs = (ns.map D.str ++ [D.str wO]).filter (fun d : D => match d with | .str y => decide (¬ y = p.1) | _ => false) := ⟨_, rfl⟩
    rw [← hgs] at hg
    have og : D.str wO ∈ gs := by
      rw [hgs]
      refine List.mem_filter.mpr ⟨by simp, ?_⟩
      simp only [decide_eq_true_eq]
      exact fun e => okp.2.1 e.symm
    have gl : gs.length ≤ 11 := by
      have := List.length_filter_le (fun d : D => match d with | .str y => decide (¬ y = p.1) | _ => false) (ns.map D.str ++ [.str wO])
      rw [← hgs] at this
      simp [nl] at this
      omega
    have gp : 0 < gs.length := List.length_pos_of_mem og
    obtain ⟨gy, f3, hgy, hf3, eg⟩ := pa n (g := g) (j := j) (f := f2) (xs := gs) hj hf2 gp (by omega) (.lst gs) (.inr rfl)
    have hgy' := hgy
    rw [hgs] at hgy'
    replace hgy' := (List.mem_filter.mp hgy').1
    have : ∃ z : Nm, gy = .str z ∧ (z ∈ ns ∨ z = wO) := by
      rcases List.mem_append.mp hgy' with q | q
      · obtain ⟨z, hz, rfl⟩ := List.mem_map.mp q; exact ⟨z, rfl, .inl hz⟩
      · exact ⟨wO, by simpa using q, .inr rfl⟩
    obtain ⟨z, rfl, hz⟩ := this
    have zok : okNm z := by
      rcases hz with q | rfl
      · rw [hns] at q
        obtain ⟨p', hp', rfl⟩ := List.mem_map.mp q
        exact (sp.ok p' hp').1
      · exact wO_ok
    have kz : ∃ cz : Int, 1 ≤ cz ∧ P.ap .get [.dct (kd.map (·.1)) (kd.map (·.2)), .str z, .int 9] = some (.int cz) := by
      have q1 : keyD (.str z) = some (nk z) := rfl
      by_cases q : z ∈ ns
      · have q2 : getK kd (nk z) = some (.int (capF ps z)) := by rw [hkd]; exact dk_get q
        exact ⟨capF ps z, (cap_ok sp (by rw [hns] at q; exact q)).1, by rw [ap_e52, q1]; simp only [zip_unzip, q2, Option.map_some, Option.getD_some]⟩
      · have q2 : getK kd (nk z) = none := by rw [hkd]; exact dk_none q
        exact ⟨9, by decide, by rw [ap_e52, q1]; simp only [zip_unzip, q2, Option.map_some, Option.getD_none]⟩
    obtain ⟨cz, cz1, ecz⟩ := kz
    have mn : 1 ≤ min2 (min2 (capF ps p.1) cz) 3 ∧ min2 (min2 (capF ps p.1) cz) 3 ≤ 3 := by
      unfold min2
      split <;> split <;> omega
    obtain ⟨m, f4, m1, m2, hf4, em⟩ := pv (n + 1) (g := g) (j := j) (f := f3) (many := min2 (min2 (capF ps p.1) cz) 3) hj hf3 (by omega) (by omega)
    obtain ⟨w, f5, w1, w2, hf5, ew⟩ := pv (n + 1) (g := g) (j := j) (f := f4) (many := 3) hj hf4 (by decide) (by decide)
    let S2 : List Slot := [.glb j, .val (.lst (ps.map pD)), .val (.dct (kd.map (·.1)) (kd.map (·.2))), .val (.str p.1), .val (.str z), .val (.int (1 + m)), .none, .none, .none]
    have q2 : runs (TB fns (n + 2)) ((d16.body.drop 2).take 3) ⟨S1, g.set j f1⟩ = .nx ⟨S2, g.set j f4⟩ := by
      simp only [S1] at hg
      have fitP : P.fits .get (D.dct (kd.map (·.1)) (kd.map (·.2))) = true := rfl
      simp [d16, S1, ec, hlow, truth, hg, eg, kp, ecz, em, S2, fitP, -ap_e52, -ap_e26, -zip_unzip]
    have body : d16.body = d16.body.take 2 ++ ((d16.body.drop 2).take 3 ++ d16.body.drop 5) := rfl
    by_cases hw : 0 < w
    · refine ⟨.mv p.1 z (1 + m), f5, ⟨okp.1, zok, by omega⟩, hf5, ?_⟩
      have q3 : runs (TB fns (n + 2)) (d16.body.drop 5) ⟨S2, g.set j f4⟩ = .ret (rD (.mv p.1 z (1 + m))) ⟨S2, g.set j f5⟩ := by
        simp [d16, S2, ew, hw, truth, bigE, rD]
      rw [mir, body, runs_app, q1]
      simp only [runs_app, q2, q3, cutG, List.length_set, tk]
    · refine ⟨.mv z p.1 (1 + m), f5, ⟨zok, okp.1, by omega⟩, hf5, ?_⟩
      have q3 : runs (TB fns (n + 2)) (d16.body.drop 5) ⟨S2, g.set j f4⟩ = .ret (rD (.mv z p.1 (1 + m))) ⟨S2, g.set j f5⟩ := by
        simp [d16, S2, ew, hw, truth, bigE, rD]
      rw [mir, body, runs_app, q1]
      simp only [runs_app, q2, q3, cutG, List.length_set, tk]
end K17
end Rf

set_option Elab.async false
set_option linter.all false
set_option maxRecDepth 100000
set_option maxHeartbeats 4000000
namespace Rf
open PySem PySem.Spec PyProof.Rows L2
abbrev wA : Nm := [97]
abbrev wB' : Nm := [98]
abbrev wS : Nm := [115, 104, 101, 108, 102]
def spotOk (p : Nm × Int × Int) : Prop := 0 ≤ p.2.1 ∧ p.2.1 ≤ 90 ∧ 1 ≤ p.2.2 ∧ p.2.2 ≤ 90
def costOk (ns : List Nm) (c : Nm × Nm × Int) : Prop := (c.1 = wO ∨ c.1 ∈ ns) ∧ (c.2.1 = wO ∨ c.2.1 ∈ ns) ∧ c.2.2.natAbs ≤ 100
namespace K17
def bS (j : Nat) (cnt : Int) (s4 s5 s6 s7 s8 s9 s10 s11 s12 : Slot) : List Slot := [.glb j, .val (.int cnt), .val (.int 3), .val (.int 5), s4, s5, s6, s7, s8, s9, s10, s11, s12, .none, .none]
def bd1' : List S := [.set (.nm 11) (.prim .add [(.kint 2), (.call 14 [(.gv 0), (.prim .sub [(.var 3), (.kint 1)])])]), .drop (.mutl .append 4 [(.tup [(.var 6), (.call 14 [(.gv 0), (.prim .add [(.var 11), (.kint 1)])]), (.var 11)])])]
theorem bk1 (n : Nat) {g : List Gd} {j : Nat} (hj : j < g.length) (cnt : Int) : ∀ (xs : List Nm) (ps : List (Nm × Int × Int)) (f : Gd) (s6 s11 : Slot), Fd f → (∀ p ∈ ps, spotOk p) → ps.length + xs.length ≤ 10 → ∃ (qs : List (Nm × Int × Int)) (f' : Gd) (s6' s11' : Slot), Fd f' ∧ (∀ p ∈ qs, spotOk p) ∧ qs.map (·.1) = ps.map (·.1) ++ xs ∧
    loopS (bindP (.nm 6)) (runs (TB fns (n + 1)) bd1') (xs.map .str) ⟨bS j cnt (.own (ps.map pD)) (.own []) s6 .none .none .none .none s11 .none, g.set j f⟩ = .nx ⟨bS j cnt (.own (qs.map pD)) (.own []) s6' .none .none .none .none s11' .none, g.set j f'⟩
  | [], ps, f, s6, s11, hf, hp, _ => ⟨ps, f, s6, s11, hf, hp, by simp, rfl⟩
  | x :: xs, ps, f, s6, s11, hf, hp, hl => by
    simp only [List.length_cons] at hl
    obtain ⟨m, f1, m1, m2, hf1, em⟩ := pv n (g := g) (j := j) (f := f) (many := 4) hj hf (by decide) (by decide)
    obtain ⟨a, f2, a1, a2, hf2, ea⟩ := pv n (g := g) (j := j) (f := f1) (many := 2 + m + 1) hj hf1 (by omega) (by omega)
    obtain ⟨qs, f', t6, t11, h1, h2, h3, e⟩ := bk1 n hj cnt xs (ps ++ [(x, a, 2 + m)]) f2 (.val (.str x)) (.val (.int (2 + m))) hf2 (by
      intro p hp'
      rcases List.mem_append.mp hp' with z | z
      · exact hp p z
      · simp only [List.mem_singleton] at z
        subst z
        exact ⟨by simp only; omega, by simp only; omega, by simp only; omega, by simp only; omega⟩) (by simp; omega)
    refine ⟨qs, f', t6, t11, h1, h2, by rw [h3]; simp, ?_⟩
    simp only [List.map_cons, loopS]
    have e1 : bindP (.nm 6) (.str x) (bS j cnt (.own (ps.map pD)) (.own []) s6 .none .none .none .none s11 .none) = some (bS j cnt (.own (ps.map pD)) (.own []) (.val (.str x)) .none .none .none .none s11 .none) := by simp [bS]
    have hl2 : ps.length < 16777216 := by omega
    have e2 : runs (TB fns (n + 1)) bd1' ⟨bS j cnt (.own (ps.map pD)) (.own []) (.val (.str x)) .none .none .none .none s11 .none, g.set j f⟩ = .nx ⟨bS j cnt (.own ((ps ++ [(x, a, 2 + m)]).map pD)) (.own []) (.val (.str x)) .none .none .none .none (.val (.int (2 + m))) .none, g.set j f2⟩ := by
      simp [bd1', bS, em, ea, MutK.ap, bigE, hl2, pD]
    simp only [e1, e2, e]
def bd2' : List S := [.ifS (.and (.prim .ne [(.var 8), (.var 12)]) (.and (.prim .lt [(.prim .len [(.own 5)]), (.kint 4)]) (.prim .gt [(.call 14 [(.gv 0), (.kint 3)]), (.kint 0)]))) [.drop (.mutl .append 5 [(.tup [(.var 8), (.var 12), (.prim .add [(.kint 1), (.call 14 [(.gv 0), (.kint 4)])])])])] []]
theorem bk2 (n : Nat) {g : List Gd} {j : Nat} (hj : j < g.length) (cnt : Int) (ns : List Nm) (a : Nm) (ha : a = wO ∨ a ∈ ns) (S4 S6 S7 S11 : Slot) : ∀ (xs : List Nm) (cs : List (Nm × Nm × Int)) (f : Gd) (s12 : Slot), (∀ x ∈ xs, x = wO ∨ x ∈ ns) → Fd f → (∀ c ∈ cs, costOk ns c) → cs.length ≤ 4 → ∃ (ds : List (Nm × Nm × Int)) (f' : Gd) (s12' : Slot), Fd f' ∧ (∀ c ∈ ds, costOk ns c) ∧ ds.length ≤ 4 ∧
    loopS (bindP (.nm 12)) (runs (TB fns (n + 1)) bd2') (xs.map .str) ⟨bS j cnt S4 (.own (cs.map cD)) S6 S7 (.val (.str a)) .none .none S11 s12, g.set j f⟩ = .nx ⟨bS j cnt S4 (.own (ds.map cD)) S6 S7 (.val (.str a)) .none .none S11 s12', g.set j f'⟩
  | [], cs, f, s12, _, hf, hc, hl => ⟨cs, f, s12, hf, hc, hl, rfl⟩
  | x :: xs, cs, f, s12, hx, hf, hc, hl => by
    have hx' : ∀ y ∈ xs, y = wO ∨ y ∈ ns := fun y hy => hx y (List.mem_cons_of_mem _ hy)
    have e1 : bindP (.nm 12) (.str x) (bS j cnt S4 (.own (cs.map cD)) S6 S7 (.val (.str a)) .none .none S11 s12) = some (bS j cnt S4 (.own (cs.map cD)) S6 S7 (.val (.str a)) .none .none S11 (.val (.str x))) := by simp [bS]
    by_cases z : a = x
    · obtain ⟨ds, f', t12, h1, h2, h3, e⟩ := bk2 n hj cnt ns a ha S4 S6 S7 S11 xs cs f (.val (.str x)) hx' hf hc hl
      refine ⟨ds, f', t12, h1, h2, h3, ?_⟩
      simp only [List.map_cons, loopS]
      have e2 : runs (TB fns (n + 1)) bd2' ⟨bS j cnt S4 (.own (cs.map cD)) S6 S7 (.val (.str a)) .none .none S11 (.val (.str x)), g.set j f⟩ = .nx ⟨bS j cnt S4 (.own (cs.map cD)) S6 S7 (.val (.str a)) .none .none S11 (.val (.str x)), g.set j f⟩ := by
        simp [bd2', bS, eqD_str, z, truth]
      simp only [e1, e2, e]
    · by_cases z2 : (cs.length : Int) < 4
      · obtain ⟨m, f1, m1, m2, hf1, em⟩ := pv n (g := g) (j := j) (f := f) (many := 3) hj hf (by decide) (by decide)
        by_cases z3 : 0 < m
        · obtain ⟨q, f2, q1, q2, hf2, eq⟩ := pv n (g := g) (j := j) (f := f1) (many := 4) hj hf1 (by decide) (by decide)
          obtain ⟨ds, f', t12, h1, h2, h3, e⟩ := bk2 n hj cnt ns a ha S4 S6 S7 S11 xs (cs ++ [(a, x, 1 + q)]) f2 (.val (.str x)) hx' hf2 (by
            intro c hc'
            rcases List.mem_append.mp hc' with y | y
            · exact hc c y
            · simp only [List.mem_singleton] at y
              subst y
              exact ⟨ha, hx x (by simp), by simp only; omega⟩) (by simp; omega)
          refine ⟨ds, f', t12, h1, h2, h3, ?_⟩
          simp only [List.map_cons, loopS]
          have hl2 : cs.length < 16777216 := by omega
          have e2 : runs (TB fns (n + 1)) bd2' ⟨bS j cnt S4 (.own (cs.map cD)) S6 S7 (.val (.str a)) .none .none S11 (.val (.str x)), g.set j f⟩ = .nx ⟨bS j cnt S4 (.own ((cs ++ [(a, x, 1 + q)]).map cD)) S6 S7 (.val (.str a)) .none .none S11 (.val (.str x)), g.set j f2⟩ := by
            simp [bd2', bS, eqD_str, z, z2, z3, em, eq, truth, MutK.ap, bigE, hl2, cD]
          simp only [e1, e2, e]
        · obtain ⟨ds, f', t12, h1, h2, h3, e⟩ := bk2 n hj cnt ns a ha S4 S6 S7 S11 xs cs f1 (.val (.str x)) hx' hf1 hc hl
          refine ⟨ds, f', t12, h1, h2, h3, ?_⟩
          simp only [List.map_cons, loopS]
          have e2 : runs (TB fns (n + 1)) bd2' ⟨bS j cnt S4 (.own (cs.map cD)) S6 S7 (.val (.str a)) .none .none S11 (.val (.str x)), g.set j f⟩ = .nx ⟨bS j cnt S4 (.own (cs.map cD)) S6 S7 (.val (.str a)) .none .none S11 (.val (.str x)), g.set j f1⟩ := by
            simp [bd2', bS, eqD_str, z, z2, z3, em, truth]
          simp only [e1, e2, e]
      · obtain ⟨ds, f', t12, h1, h2, h3, e⟩ := bk2 n hj cnt ns a ha S4 S6 S7 S11 xs cs f (.val (.str x)) hx' hf hc hl
        refine ⟨ds, f', t12, h1, h2, h3, ?_⟩
        simp only [List.map_cons, loopS]
        have e2 : runs (TB fns (n + 1)) bd2' ⟨bS j cnt S4 (.own (cs.map cD)) S6 S7 (.val (.str a)) .none .none S11 (.val (.str x)), g.set j f⟩ = .nx ⟨bS j cnt S4 (.own (cs.map cD)) S6 S7 (.val (.str a)) .none .none S11 (.val (.str x)), g.set j f⟩ := by
          simp [bd2', bS, eqD_str, z, z2, truth]
        simp only [e1, e2, e]
theorem bk3 (n : Nat) {g : List Gd} {j : Nat} (hj : j < g.length) (cnt : Int) (ns : List Nm) (S4 S6 S11 : Slot) (all : List Nm) (hall : ∀ x ∈ all, x = wO ∨ x ∈ ns) : ∀ (xs : List Nm) (cs : List (Nm × Nm × Int)) (f : Gd) (s8 s12 : Slot), (∀ x ∈ xs, x = wO ∨ x ∈ ns) → Fd f → (∀ c ∈ cs, costOk ns c) → cs.length ≤ 4 → ∃ (ds : List (Nm × Nm × Int)) (f' : Gd) (s8' s12' : Slot), Fd f' ∧ (∀ c ∈ ds, costOk ns c) ∧ ds.length ≤ 4 ∧
    loopS (bindP (.nm 8)) (runs (TB fns (n + 1)) [.forS (.nm 12) .seq [(.var 7)] bd2']) (xs.map .str) ⟨bS j cnt S4 (.own (cs.map cD)) S6 (.val (.lst (all.map .str))) s8 .none .none S11 s12, g.set j f⟩ = .nx ⟨bS j cnt S4 (.own (ds.map cD)) S6 (.val (.lst (all.map .str))) s8' .none .none S11 s12', g.set j f'⟩
  | [], cs, f, s8, s12, _, hf, hc, hl => ⟨cs, f, s8, s12, hf, hc, hl, rfl⟩
  | x :: xs, cs, f, s8, s12, hx, hf, hc, hl => by
    obtain ⟨c1, f1, x12, k1, k2, k3, ei⟩ := bk2 n hj cnt ns x (hx x (by simp)) S4 S6 (.val (.lst (all.map .str))) S11 all cs f s12 hall hf hc hl
    obtain ⟨ds, f', t8, t12, h1, h2, h3, e⟩ := bk3 n hj cnt ns S4 S6 S11 all hall xs c1 f1 (.val (.str x)) x12 (fun y hy => hx y (List.mem_cons_of_mem _ hy)) k1 k2 k3
    refine ⟨ds, f', t8, t12, h1, h2, h3, ?_⟩
    simp only [List.map_cons, loopS]
    have e1 : bindP (.nm 8) (.str x) (bS j cnt S4 (.own (cs.map cD)) S6 (.val (.lst (all.map .str))) s8 .none .none S11 s12) = some (bS j cnt S4 (.own (cs.map cD)) S6 (.val (.lst (all.map .str))) (.val (.str x)) .none .none S11 s12) := by simp [bS]
    have ev7 : evs (TB fns (n + 1)) [(.var 7)] ⟨bS j cnt S4 (.own (cs.map cD)) S6 (.val (.lst (all.map .str))) (.val (.str x)) .none .none S11 s12, g.set j f⟩ = .ok [.lst (all.map .str)] ⟨bS j cnt S4 (.own (cs.map cD)) S6 (.val (.lst (all.map .str))) (.val (.str x)) .none .none S11 s12, g.set j f⟩ := by simp [bS]
    have e2 : runs (TB fns (n + 1)) [.forS (.nm 12) .seq [(.var 7)] bd2'] ⟨bS j cnt S4 (.own (cs.map cD)) S6 (.val (.lst (all.map .str))) (.val (.str x)) .none .none S11 s12, g.set j f⟩ = .nx ⟨bS j cnt S4 (.own (c1.map cD)) S6 (.val (.lst (all.map .str))) (.val (.str x)) .none .none S11 x12, g.set j f1⟩ := by
      rw [runs_cons, run_for, ev7]
      simp only [onE_ok, ItK.get, ei, runs_nil]
    simp only [e1, e2, e]
end K17
end Rf

set_option Elab.async false
set_option linter.all false
set_option maxRecDepth 100000
set_option maxHeartbeats 4000000
namespace Rf
open PySem PySem.Spec PyProof.Rows L2

section
variable (T : Tbl) (st : Sx)
theorem ev_cut {a : E} {lo hi : List E} (h : a.isOwn = none) : ev T (.cut a lo hi) st = (ev T a st).bind fun d s0 => (evp T lo s0).bind fun l s1 => (evp T hi s1).bind fun h s2 => ofOpt (cutD d l h) s2 := by rw [ev, h]
theorem ev_stp {a : E} {lo : List E} {k : Int} (h : a.isOwn = none) : ev T (.stp a lo k) st = (ev T a st).bind fun d s0 => (evp T lo s0).bind fun l s1 => ofOpt (stpD d l k) s1 := by rw [ev, h]
@[simp] theorem ev_cut_var (i : Nat) (lo hi : List E) : ev T (.cut (.var i) lo hi) st = (ev T (.var i) st).bind fun d s0 => (evp T lo s0).bind fun l s1 => (evp T hi s1).bind fun h s2 => ofOpt (cutD d l h) s2 := ev_cut T st rfl
@[simp] theorem ev_cut_prim (p : P) (es lo hi : List E) : ev T (.cut (.prim p es) lo hi) st = (ev T (.prim p es) st).bind fun d s0 => (evp T lo s0).bind fun l s1 => (evp T hi s1).bind fun h s2 => ofOpt (cutD d l h) s2 := ev_cut T st rfl
@[simp] theorem ev_stp_var (i : Nat) (lo : List E) (k : Int) : ev T (.stp (.var i) lo k) st = (ev T (.var i) st).bind fun d s0 => (evp T lo s0).bind fun l s1 => ofOpt (stpD d l k) s1 := ev_stp T st rfl
@[simp] theorem ev_stp_call (i : Nat) (es lo : List E) (k : Int) : ev T (.stp (.call i es) lo k) st = (ev T (.call i es) st).bind fun d s0 => (evp T lo s0).bind fun l s1 => ofOpt (stpD d l k) s1 := ev_stp T st rfl
end
theorem ix_lst {xs : List D} {i : Int} (h1 : 0 ≤ i) (h2 : i < xs.length) : ∃ a, ixD (.lst xs) i = some a ∧ a ∈ xs := by
  have hn : i.toNat < xs.length := by omega
  refine ⟨xs[i.toNat], ?_, List.getElem_mem hn⟩
  have e1 : ixN xs.length i = some i.toNat := by unfold ixN; rw [if_pos h1, if_pos h2]
  simp only [ixD, atI, e1]
  simp [hn]
theorem ix_tup {xs : List D} {i : Int} (h1 : 0 ≤ i) (h2 : i < xs.length) : ∃ a, ixD (.tup xs) i = some a ∧ a ∈ xs := by
  have hn : i.toNat < xs.length := by omega
  refine ⟨xs[i.toNat], ?_, List.getElem_mem hn⟩
  have e1 : ixN xs.length i = some i.toNat := by unfold ixN; rw [if_pos h1, if_pos h2]
  simp only [ixD, atI, e1]
  simp [hn]
def DrawOk (F : Mirror) : Prop := ∀ (g : List Gd) (j : Nat) (kd : Gd) (many : Int), g[j]? = some kd → Fd kd → 0 < many → many < 1073741824 → ∃ r kd', 0 ≤ r ∧ r < many ∧ Fd kd' ∧ F [.glb j, .val (.int many)] g = .ret (.int r) (g.set j kd')
theorem hDraw_ok (T : Tbl) : DrawOk (mirror T hDraw) := fun g j kd many h hf h1 h2 => draw_ok T h hf h1 h2
theorem take_set (g : List Gd) (j : Nat) (x : Gd) : (g.set j x).take g.length = g.set j x := by rw [List.take_of_length_le (by simp)]
theorem odd_ok {T : Tbl} {kd : Nat} (hd : DrawOk (T kd)) {g : List Gd} {j : Nat} {f : Gd} (h : g[j]? = some f) (hf : Fd f) : ∃ r f', Sm 1 20 3 r ∧ Fd f' ∧ mirror T (hOdd kd) [.glb j] g = .ret r (g.set j f') := by
  obtain ⟨r, f', h1, h2, h3, e⟩ := hd g j f 16 h hf (by decide) (by decide)
  have al : ∀ a ∈ ([.non, .bl true, .bl false, .int 0, .int (-1), .int 1, .str [], .str [111, 117, 116], .str [115, 104, 101, 108, 102], .str [109, 111, 118, 101], .tup [], .lst [], .tup [.str [97], .int 0, .int 1], .tup [.str [99, 111, 117, 110, 116], .str [97], .int 0], .int 5, .tup [.str [97]]] : List D), Sm 1 20 3 a := by
    intro a ha
    simp only [List.mem_cons, List.not_mem_nil, or_false] at ha
    rcases ha with rfl | rfl | rfl | rfl | rfl | rfl | rfl | rfl | rfl | rfl | rfl | rfl | rfl | rfl | rfl | rfl <;> first
      | (left; simp [Sc]; done)
      | (right; exact ⟨_, .inl rfl, by decide, by simp [Sm, Sc]⟩)
      | (right; exact ⟨_, .inr rfl, by decide, by simp [Sm, Sc]⟩)
  obtain ⟨a, ea, ma⟩ := ix_lst (xs := [.non, .bl true, .bl false, .int 0, .int (-1), .int 1, .str [], .str [111, 117, 116], .str [115, 104, 101, 108, 102], .str [109, 111, 118, 101], .tup [], .lst [], .tup [.str [97], .int 0, .int 1], .tup [.str [99, 111, 117, 110, 116], .str [97], .int 0], .int 5, .tup [.str [97]]]) h1 h2
  refine ⟨a, f', al a ma, h3, ?_⟩
  simp [mirror, hOdd, cutG, e, ea, take_set, big]
end Rf

set_option Elab.async false
set_option linter.all false
set_option maxRecDepth 100000
set_option maxHeartbeats 4000000
namespace Rf
open PySem PySem.Spec PyProof.Rows L2
theorem so0 {xs : List D} (h : (alikeL xs && (xs.all isTupC || xs.all notTupNon) && decide (xs.length ≤ big) && xs.all (fun a => (toP a).canLay0 && decide ((toP a).depth ≤ 30))) = true) : sortD xs = some (xs.mergeSort (PySem.W.dataLe false toP)) := by
  unfold sortD
  rw [if_pos h]
theorem so1 : sortD [.str wA, .str wO] = some ([.str wA, .str wO]) := by
  rw [so0 (by decide +kernel), List.mergeSort_of_pairwise (by decide +kernel)]
theorem so2 : sortD [.str wA, .str wB', .str wO] = some ([.str wA, .str wB', .str wO]) := by
  rw [so0 (by decide +kernel), List.mergeSort_of_pairwise (by decide +kernel)]
theorem so3 : sortD [.str wA, .str wB', .str wS, .str wO] = some ([.str wA, .str wB', .str wO, .str wS]) := by
  rw [so0 (by decide +kernel)]
  have h1 : PySem.W.dataLe false toP (.str wA) (.str wB') = true := by decide +kernel
  have h2 : PySem.W.dataLe false toP (.str wS) (.str wO) = false := by decide +kernel
  have h3 : PySem.W.dataLe false toP (.str wA) (.str wO) = true := by decide +kernel
  have h4 : PySem.W.dataLe false toP (.str wB') (.str wO) = true := by decide +kernel
  simp [List.mergeSort, List.MergeSort.Internal.splitInTwo, List.merge, h1, h2, h3, h4]

@[simp] theorem ev_cut_lst (T : Tbl) (st : Sx) (es lo hi : List E) : ev T (.cut (.lst es) lo hi) st = (ev T (.lst es) st).bind fun d s0 => (evp T lo s0).bind fun l s1 => (evp T hi s1).bind fun h s2 => ofOpt (cutD d l h) s2 := ev_cut T st rfl
namespace K17
/-- the rest of a book, once its places are drawn -/
theorem bkR (n : Nat) {g : List Gd} {j : Nat} {f : Gd} (hj : j < g.length) (hf : Fd f) {cnt : Int} (c0 : 0 ≤ cnt) (c1 : cnt ≤ 50) {ps : List (Nm × Int × Int)} (sp : Spots ps) (s6 s11 : Slot) {all : List Nm} (hall : ∀ x ∈ all, x = wO ∨ x ∈ ps.map (·.1)) (so : sortD ((ps.map (·.1)).map .str ++ [.str wO]) = some (all.map .str)) :
    ∃ b f', b.ps = ps ∧ WB b ∧ SB b ∧ b.rs.length = cnt.toNat ∧ Fd f' ∧ ∃ s', runs (TB fns (n + 3)) (d17.body.drop 2) ⟨bS j cnt (.own (ps.map pD)) (.own []) s6 .none .none .none .none s11 .none, g.set j f⟩ = .ret (bD b) ⟨s', g.set j f'⟩ := by
  have lo := sp.lo
  have hi := sp.hi
  have ll : all.length = ps.length + 1 := by
    have : (all.map D.str).length = ((ps.map fun p => p.1).map D.str ++ [D.str wO]).length := by
      unfold sortD at so
      split at so
      · have := Option.some.inj so
        rw [← this, List.length_mergeSort]
      · cases so
    simpa using this
  let P0 : Slot := .val (.lst (ps.map pD))
  have hc := comp_map (T := TB fns (n + 3)) (elt := (.prim .ix [(.var 14), (.kint 0)])) (pt := (.nm 14)) (it := .seq) (src := [(.var 4)]) (ws := [14]) (st := ⟨bS j cnt P0 (.own []) s6 .none .none .none .none s11 .none, g.set j f⟩) (s1 := ⟨bS j cnt P0 (.own []) s6 .none .none .none .none s11 .none, g.set j f⟩) (ds := [.lst (ps.map pD)]) (xs := ps.map pD)
    (fun d => (ixD d 0).getD .non) (by simp [bS, P0]) rfl (by rw [List.length_map, bigE]; omega) (by intro k hk; simp at hk; subst hk; simp [bS]) (r0 := bS j cnt P0 (.own []) s6 .none .none .none .none s11 .none) rfl fun y hy => by
      obtain ⟨q, hq, rfl⟩ := List.mem_map.mp hy
      refine ⟨(bS j cnt P0 (.own []) s6 .none .none .none .none s11 .none).set 14 (.val (pD q)), by simp [bS], rfl, ?_⟩
      have e1 : P.ap .ix [pD q, .int 0] = some (.str q.1) := by simp [pD]
      simp [bS, e1]
      simp [pD]
  have e1 : (ps.map pD).map (fun d => (ixD d 0).getD .non) = (ps.map (·.1)).map .str := by
    rw [List.map_map, List.map_map]
    refine List.map_congr_left fun p _ => ?_
    simp [pD]
  rw [e1] at hc
  have ap : P.ap .add [.lst ((ps.map (·.1)).map .str), .lst [.str wO]] = some (.lst ((ps.map (·.1)).map .str ++ [.str wO])) := by
    rw [ap_e5, if_pos (by simp [bigE]; omega)]
  have q1 : runs (TB fns (n + 3)) ((d17.body.drop 2).take 2) ⟨bS j cnt (.own (ps.map pD)) (.own []) s6 .none .none .none .none s11 .none, g.set j f⟩ = .nx ⟨bS j cnt P0 (.own []) s6 (.val (.lst (all.map .str))) .none .none .none s11 .none, g.set j f⟩ := by
    simp only [bS, P0] at hc ⊢
    simp [d17, hc, ap, so, bigE, -List.map_map, -ap_e5]
  obtain ⟨cs, f1, s8, s12, hf1, hcs, lcs, el⟩ := bk3 (n + 2) hj cnt (ps.map (·.1)) P0 s6 s11 all hall all [] f .none .none hall hf (by simp) (by simp)
  have ev7 : evs (TB fns (n + 3)) [(.var 7)] ⟨bS j cnt P0 (.own []) s6 (.val (.lst (all.map .str))) .none .none .none s11 .none, g.set j f⟩ = .ok [.lst (all.map .str)] ⟨bS j cnt P0 (.own []) s6 (.val (.lst (all.map .str))) .none .none .none s11 .none, g.set j f⟩ := by simp [bS]
  have q2 : runs (TB fns (n + 3)) ((d17.body.drop 4).take 1) ⟨bS j cnt P0 (.own []) s6 (.val (.lst (all.map .str))) .none .none .none s11 .none, g.set j f⟩ = .nx ⟨bS j cnt P0 (.own (cs.map cD)) s6 (.val (.lst (all.map .str))) s8 .none .none s11 s12, g.set j f1⟩ := by
    have hs : (d17.body.drop 4).take 1 = [.forS (.nm 8) .seq [(.var 7)] [.forS (.nm 12) .seq [(.var 7)] bd2']] := rfl
    rw [hs, runs_cons, run_for, ev7]
    have : ItK.seq.get [.lst (all.map .str)] = some (all.map .str) := rfl
    simp only [List.map_nil] at el
    simp only [onE_ok, this, el, runs_nil]
  obtain ⟨k, f2, k1, k2, hf2, ek⟩ := pv (n + 2) (g := g) (j := j) (f := f1) (many := 3) hj hf1 (by decide) (by decide)
  have hk : ∃ sl : Option Int, (∀ m, sl = some m → m.natAbs ≤ 100) ∧ ixD (.lst [.non, .int 1, .int 3]) k = some (slD sl) := by
    have : k = 0 ∨ k = 1 ∨ k = 2 := by omega
    rcases this with rfl | rfl | rfl
    · exact ⟨none, by simp, rfl⟩
    · exact ⟨some 1, by simp, rfl⟩
    · exact ⟨some 3, by simp, rfl⟩
  obtain ⟨sl, sl1, hsl⟩ := hk
  let C0 : Slot := .val (.lst (cs.map cD))
  let R : List Slot := bS j cnt P0 C0 s6 (.val (.lst (all.map .str))) s8 (.val (slD sl)) .none s11 s12
  have q3 : runs (TB fns (n + 3)) ((d17.body.drop 5).take 2) ⟨bS j cnt P0 (.own (cs.map cD)) s6 (.val (.lst (all.map .str))) s8 .none .none s11 s12, g.set j f1⟩ = .nx ⟨R, g.set j f2⟩ := by
    simp [d17, R, C0, bS, ek, hsl, bigE]
  obtain ⟨rs, g', er, ⟨f3, hf3, rfl⟩, F⟩ := comp_inv (T := TB fns (n + 3)) (elt := (.call 16 [(.gv 0), (.var 4)])) (pt := .nm 13) (it := .rng) (src := [(.var 1)]) (ws := [13]) (st := ⟨R, g.set j f2⟩) (s1 := ⟨R, g.set j f2⟩) (ds := [.int cnt]) (xs := rangeD 0 cnt.toNat)
    (fun _ d => ∃ r, d = rD r ∧ rowOk (ps.map (·.1)) r) (fun g' => ∃ f, Fd f ∧ g' = g.set j f) (by simp [R, bS]) (by have := rng_get (n := cnt.toNat) (by omega); rwa [Int.toNat_of_nonneg c0] at this) (by rw [rangeD_map, bigE]; simp; omega) (by intro k hk; simp at hk; subst hk; simp [R, bS]) (r0 := R) rfl ⟨f2, hf2, rfl⟩ fun x hx g' ⟨f, hf, eg⟩ => by
      subst eg
      obtain ⟨r, f', r1, r2, e⟩ := s16 n hj hf sp
      obtain ⟨i, hi, rfl⟩ := rangeD_mem hx
      refine ⟨R.set 13 (.val (.int i)), rD r, R.set 13 (.val (.int i)), g.set j f', by simp [R, bS], ?_, rfl, ⟨r, rfl, r1⟩, f', r2, rfl⟩
      simp [R, bS, P0, e]
  have hrs : ∃ rws : List Rw, rs = rws.map rD ∧ (∀ r ∈ rws, rowOk (ps.map (·.1)) r) := by
    clear er
    have : ∀ (xs ys : List D), F2 (fun _ d => ∃ r, d = rD r ∧ rowOk (ps.map (·.1)) r) xs ys → ∃ rws : List Rw, ys = rws.map rD ∧ (∀ r ∈ rws, rowOk (ps.map (·.1)) r) := by
      intro xs ys h
      induction h with
      | nil => exact ⟨[], rfl, by simp⟩
      | cons h _ ih =>
        obtain ⟨r, rfl, hr⟩ := h
        obtain ⟨rws, rfl, hw⟩ := ih
        exact ⟨r :: rws, rfl, fun q hq => by
          rcases List.mem_cons.mp hq with rfl | z
          · exact hr
          · exact hw q z⟩
    exact this _ _ F
  obtain ⟨rws, rfl, hrws⟩ := hrs
  have lr : rws.length = cnt.toNat := by
    have := F.length_eq
    rw [rangeD_map] at this
    simpa using this.symm
  refine ⟨⟨ps, cs, sl, rws⟩, f3, rfl, ⟨sp.nd, fun p hp => ⟨(sp.ok p hp).1, (sp.ok p hp).2.1⟩, fun c hc => ⟨(hcs c hc).1, (hcs c hc).2.1⟩, fun a m h => (hrws _ h).1, hi, by simp only; omega, by simp only; omega⟩, ⟨fun p hp => ?_, fun c hc => (hcs c hc).2.2, sl1, fun a c m h => hrws _ h, fun a m h => (hrws _ h).2⟩, lr, hf3, ?_⟩
  · have := sp.ok p hp
    constructor <;> omega
  · have body : d17.body.drop 2 = (d17.body.drop 2).take 2 ++ ((d17.body.drop 4).take 1 ++ ((d17.body.drop 5).take 2 ++ d17.body.drop 7)) := rfl
    refine ⟨bS j cnt P0 C0 s6 (.val (.lst (all.map .str))) s8 (.val (slD sl)) (.val (.tup (rws.map rD))) s11 s12, ?_⟩
    have q4 : runs (TB fns (n + 3)) (d17.body.drop 7) ⟨R, g.set j f2⟩ = .ret (bD ⟨ps, cs, sl, rws⟩) ⟨bS j cnt P0 C0 s6 (.val (.lst (all.map .str))) s8 (.val (slD sl)) (.val (.tup (rws.map rD))) s11 s12, g.set j f3⟩ := by
      simp only [R, bS, P0, C0] at er ⊢
      simp [d17, er, bigE, bD]
    rw [body, runs_app, q1]
    simp only
    rw [runs_app, q2]
    simp only
    rw [runs_app, q3]
    simp only [q4]
theorem s17 (n : Nat) {g : List Gd} {j : Nat} {f : Gd} (hj : j < g.length) (hf : Fd f) {cnt : Int} (c0 : 0 ≤ cnt) (c1 : cnt ≤ 50) : ∃ b f', WB b ∧ SB b ∧ b.rs.length = cnt.toNat ∧ Fd f' ∧ TB fns (n + 4) 17 [.glb j, .val (.int cnt), .val (.int 3), .val (.int 5)] (g.set j f) = .ret (bD b) (g.set j f') := by
  rw [t (n + 3) 17 d17 rfl]
  have tk : ∀ x : Gd, (g.set j x).take g.length = g.set j x := fun x => by rw [List.take_of_length_le (by simp)]
  have mir : mirror (TB fns (n + 3)) d17 [.glb j, .val (.int cnt), .val (.int 3), .val (.int 5)] (g.set j f) = cutG (g.set j f).length (runs (TB fns (n + 3)) d17.body ⟨bS j cnt .none .none .none .none .none .none .none .none .none, g.set j f⟩) := rfl
  obtain ⟨k, f1, k1, k2, hf1, ek⟩ := pv (n + 2) (g := g) (j := j) (f := f) (many := 3) hj hf (by decide) (by decide)
  have hk : ∃ xs all : List Nm, xs ++ [] = xs ∧ cutL [D.str wA, .str wB', .str wS] none (some (1 + k)) = xs.map .str ∧ sortD (xs.map .str ++ [.str wO]) = some (all.map .str) ∧ (∀ x ∈ all, x = wO ∨ x ∈ xs) ∧ xs.Nodup ∧ (∀ x ∈ xs, okNm x ∧ x ≠ wO) ∧ 1 ≤ xs.length ∧ xs.length ≤ 10 := by
    have a1 : okNm wA := ⟨by decide, by decide, by decide⟩
    have a2 : okNm wB' := ⟨by decide, by decide, by decide⟩
    have a3 : okNm wS := ⟨by decide, by decide, by decide⟩
    have : k = 0 ∨ k = 1 ∨ k = 2 := by omega
    rcases this with rfl | rfl | rfl
    · exact ⟨[wA], [wA, wO], rfl, rfl, so1, by decide, by decide, by simp [a1], by decide, by decide⟩
    · exact ⟨[wA, wB'], [wA, wB', wO], rfl, rfl, so2, by decide, by decide, by simp [a1, a2], by decide, by decide⟩
    · exact ⟨[wA, wB', wS], [wA, wB', wO, wS], rfl, rfl, so3, by decide, by decide, by simp [a1, a2, a3], by decide, by decide⟩
  obtain ⟨xs, all, _, hx, so, hall, nd, ok, x1, x2⟩ := hk
  obtain ⟨ps, f2, s6, s11, hf2, hps, nps, el⟩ := bk1 (n + 2) hj cnt xs [] f1 .none .none hf1 (by simp) (by simpa using x2)
  simp only [List.map_nil, List.nil_append] at nps el
  have lps : ps.length = xs.length := by rw [← nps]; simp
  have sp : Spots ps := ⟨by rw [nps]; exact nd, fun p hp => by
    have hm : p.1 ∈ xs := by rw [← nps]; exact List.mem_map_of_mem hp
    exact ⟨(ok _ hm).1, (ok _ hm).2, (hps p hp).1, (hps p hp).2.1, (hps p hp).2.2.1, (hps p hp).2.2.2⟩, by omega, by omega⟩
  obtain ⟨b, f', _, b1, b2, b3, b4, s', e⟩ := bkR n hj hf2 c0 c1 sp s6 s11 (all := all) (by rw [nps]; exact hall) (by rw [nps]; exact so)
  refine ⟨b, f', b1, b2, b3, b4, ?_⟩
  have q0 : runs (TB fns (n + 3)) (d17.body.take 2) ⟨bS j cnt .none .none .none .none .none .none .none .none .none, g.set j f⟩ = .nx ⟨bS j cnt (.own (ps.map pD)) (.own []) s6 .none .none .none .none s11 .none, g.set j f2⟩ := by
    have hs : d17.body.take 2 = [.par 4 5 true true (.lst []) (.lst []), .forS (.nm 6) .seq [(.cut (.lst [(.kstr [97]), (.kstr [98]), (.kstr [115, 104, 101, 108, 102])]) [] [(.prim .add [(.kint 1), (.call 14 [(.gv 0), (.var 2)])])])] bd1'] := rfl
    have p0 : runs (TB fns (n + 3)) [.par 4 5 true true (.lst []) (.lst [])] ⟨bS j cnt .none .none .none .none .none .none .none .none .none, g.set j f⟩ = .nx ⟨bS j cnt (.own []) (.own []) .none .none .none .none .none .none .none, g.set j f⟩ := by
      simp [bS, bigE]
    have p1 : evs (TB fns (n + 3)) [(.cut (.lst [(.kstr [97]), (.kstr [98]), (.kstr [115, 104, 101, 108, 102])]) [] [(.prim .add [(.kint 1), (.call 14 [(.gv 0), (.var 2)])])])] ⟨bS j cnt (.own []) (.own []) .none .none .none .none .none .none .none, g.set j f⟩ = .ok [.lst (xs.map .str)] ⟨bS j cnt (.own []) (.own []) .none .none .none .none .none .none .none, g.set j f1⟩ := by
      simp [bS, bigE, ek, cutD, hx, ev_cut]
    have hg : ItK.seq.get [.lst (xs.map .str)] = some (xs.map .str) := rfl
    have e3 : [S.par 4 5 true true (.lst []) (.lst []), .forS (.nm 6) .seq [(.cut (.lst [(.kstr [97]), (.kstr [98]), (.kstr [115, 104, 101, 108, 102])]) [] [(.prim .add [(.kint 1), (.call 14 [(.gv 0), (.var 2)])])])] bd1'] = [S.par 4 5 true true (.lst []) (.lst [])] ++ [.forS (.nm 6) .seq [(.cut (.lst [(.kstr [97]), (.kstr [98]), (.kstr [115, 104, 101, 108, 102])]) [] [(.prim .add [(.kint 1), (.call 14 [(.gv 0), (.var 2)])])])] bd1'] := rfl
    rw [hs, e3, runs_app, p0]
    simp only
    rw [runs_cons, run_for, p1]
    simp only [onE_ok, hg, el, runs_nil]
  have body : d17.body = d17.body.take 2 ++ d17.body.drop 2 := rfl
  rw [mir, body, runs_app, q0]
  simp only [e, cutG, List.length_set, tk]
end K17
end Rf

set_option Elab.async false
set_option linter.all false
set_option maxRecDepth 100000
set_option maxHeartbeats 4000000
namespace Rf
open PySem PySem.Spec PyProof.Rows L2
theorem eq2 {x a y c : Nm} (h1 : x.all lowC = true) (h2 : a.all lowC = true) (h3 : y.all lowC = true) (h4 : c.all lowC = true) : eqD (.tup [.str x, .str a]) (.tup [.str y, .str c]) = some (decide (x = y) && decide (a = c)) := by
  have sh : ∀ {x a : Nm}, x.all lowC = true → a.all lowC = true → SeqAt.shaped (toP (.tup [.str x, .str a])) = true := fun {x a} h1 h2 => by
    have q1 := nm_lay h1
    have q2 := nm_lay h2
    simp only [toP, PyData.canLay0] at q1 q2
    simp [SeqAt.shaped, toP, toPL, PyData.canLay0, PyData.canLayAll0, PyData.depth, PyData.depthAll, q1, q2]
  have e : ∀ a c : Nm, ((⟨a.toArray⟩ : Str) == (⟨c.toArray⟩ : Str)) = decide (a = c) := fun a c => by
    by_cases z : a = c
    · subst z; simp
    · have : ¬ (⟨a.toArray⟩ : Str) = ⟨c.toArray⟩ := fun e => z (by simpa using congrArg (fun s : Str => s.cps.toList) e)
      simp [z, this]
  show (if SeqAt.shaped (toP _) && SeqAt.shaped (toP _) then _ else _) = _
  rw [sh h1 h2, sh h3 h4, if_pos (by decide)]
  simp [toP, toPL, PyData.eqv, PyData.eqvAll, e]
namespace K17
def lhD (q : Int × Int) : D := .tup [.int q.1, .int q.2]
def bd20 : List S := [.set (.nm 7) (.call 19 [(.var 2), (.var 4)]), .par 8 9 false false (.prim .max [(.kint 0), (.prim .neg [(.var 7)])]) (.prim .min [(.var 6), (.prim .sub [(.var 6), (.var 7)])]), .ifS (.and (.prim .eq [(.cut (.var 2) [] [(.kint 2)]), (.tup [(.kstr [99, 111, 117, 110, 116]), (.var 4)])]) (.prim .isNone [(.prim .ix [(.var 0), (.kint 2)])])) [.par 8 9 false false (.prim .ix [(.var 2), (.kint 2)]) (.prim .ix [(.var 2), (.kint 2)])] [], .drop (.mutl .append 3 [(.tup [(.var 8), (.var 9)])])]
theorem isNon_sl (o : Option Int) : (slD o).isNon = o.isNone := by cases o <;> rfl
theorem s20loop (n : Nat) {b : Bk} (w : WB b) (s : SB b) {r : Rw} (hr : r ∈ b.rs) (k : Nat) (g : List Gd) : ∀ (ps : List (Nm × Int × Int)) (acc : List (Int × Int)) (s4 s5 s6 s7 s8 s9 : Slot), (∀ p ∈ ps, p ∈ b.ps) → acc.length + ps.length ≤ 10 → ∃ (out : List (Int × Int)) (s4' s5' s6' s7' s8' s9' : Slot), out.length = acc.length + ps.length ∧
    loopS (bindP (.tp [(.nm 4), (.nm 5), (.nm 6)])) (runs (TB fns (n + 1)) bd20) (ps.map pD) ⟨[.val (bD b), .val (.int k), .val (rD r), .own (acc.map lhD), s4, s5, s6, s7, s8, s9], g⟩ = .nx ⟨[.val (bD b), .val (.int k), .val (rD r), .own (out.map lhD), s4', s5', s6', s7', s8', s9'], g⟩
  | [], acc, s4, s5, s6, s7, s8, s9, _, _ => ⟨acc, s4, s5, s6, s7, s8, s9, by simp, rfl⟩
  | p :: ps, acc, s4, s5, s6, s7, s8, s9, hp, hl => by
    simp only [List.length_cons] at hl
    have ok := (w.nm p (hp p (by simp))).1
    have hp' : ∀ q ∈ ps, q ∈ b.ps := fun q hq => hp q (List.mem_cons_of_mem _ hq)
    have a19 := s19 n r p.1 g
    have e1 : bindP (.tp [(.nm 4), (.nm 5), (.nm 6)]) (pD p) [.val (bD b), .val (.int k), .val (rD r), .own (acc.map lhD), s4, s5, s6, s7, s8, s9] = some [.val (bD b), .val (.int k), .val (rD r), .own (acc.map lhD), .val (.str p.1), .val (.int p.2.1), .val (.int p.2.2), s7, s8, s9] := by simp [pD]
    have hl2 : acc.length < 16777216 := by omega
    have step : ∃ (l h : Int), runs (TB fns (n + 1)) bd20 ⟨[.val (bD b), .val (.int k), .val (rD r), .own (acc.map lhD), .val (.str p.1), .val (.int p.2.1), .val (.int p.2.2), s7, s8, s9], g⟩ = .nx ⟨[.val (bD b), .val (.int k), .val (rD r), .own ((acc ++ [(l, h)]).map lhD), .val (.str p.1), .val (.int p.2.1), .val (.int p.2.2), .val (.int (chg r p.1)), .val (.int l), .val (.int h)], g⟩ := by
      have c2 : ∀ (x y : D) (l : List D), cutL (x :: y :: l) none (some 2) = [x, y] := fun x y l => by rw [cut_to _ (by decide) (by simp; omega)]; simp
      cases r with
      | mv a c m =>
        have q := s.rm a c m hr
        have eq := eq2 wM_ok.2.2 q.1.2.2 wC_ok.2.2 ok.2.2
        have ne : ¬ (wM = wC) := by decide
        refine ⟨max2 0 (-chg (.mv a c m) p.1), min2 p.2.2 (p.2.2 - chg (.mv a c m) p.1), ?_⟩
        have er : rD (.mv a c m) = .tup [.str wM, .str a, .str c, .int m] := rfl
        rw [er] at a19 ⊢
        simp [bd20, a19, cutD, c2, eq, bigE, truth, MutK.ap, hl2, lhD]
      | ct a m =>
        have q := ns_ok w (w.rc a m hr)
        have eq := eq2 wC_ok.2.2 q.2.2 wC_ok.2.2 ok.2.2
        have er : rD (.ct a m) = .tup [.str wC, .str a, .int m] := rfl
        by_cases z : a = p.1
        · rw [← z] at eq
          cases hs : b.sl with
          | none =>
            refine ⟨m, m, ?_⟩
            rw [er, ← z] at a19
            rw [er]
            simp [bd20, a19, cutD, c2, eq, ← z, bdx, bd2, hs, slD, D.isNon, bigE, truth, MutK.ap, hl2, lhD]
          | some v =>
            refine ⟨max2 0 (-chg (.ct a m) p.1), min2 p.2.2 (p.2.2 - chg (.ct a m) p.1), ?_⟩
            rw [er, ← z] at a19
            rw [er]
            simp [bd20, a19, cutD, c2, eq, ← z, bdx, bd2, hs, slD, D.isNon, bigE, truth, MutK.ap, hl2, lhD]
        · refine ⟨max2 0 (-chg (.ct a m) p.1), min2 p.2.2 (p.2.2 - chg (.ct a m) p.1), ?_⟩
          rw [er] at a19 ⊢
          simp [bd20, a19, cutD, c2, eq, z, bigE, truth, MutK.ap, hl2, lhD]
    obtain ⟨l, h, e2⟩ := step
    obtain ⟨out, t4, t5, t6, t7, t8, t9, o1, e⟩ := s20loop n w s hr k g ps (acc ++ [(l, h)]) (.val (.str p.1)) (.val (.int p.2.1)) (.val (.int p.2.2)) (.val (.int (chg r p.1))) (.val (.int l)) (.val (.int h)) hp' (by simp; omega)
    refine ⟨out, t4, t5, t6, t7, t8, t9, by rw [o1]; simp; omega, ?_⟩
    simp only [List.map_cons, loopS, e1, e2, e]
theorem s20 (n : Nat) {b : Bk} (w : WB b) (s : SB b) (k : Nat) (r : Rw) (hr : b.rs[k]? = some r) (g : List Gd) : ∃ out : List (Int × Int), out.length = b.ps.length ∧ TB fns (n + 2) 20 [.val (bD b), .val (.int k)] g = .ret (.lst (out.map lhD)) g := by
  rw [t (n + 1) 20 d20 rfl]
  have zp := w.zp
  obtain ⟨out, t4, t5, t6, t7, t8, t9, o1, e⟩ := s20loop n w s (List.mem_of_getElem? hr) k g b.ps [] .none .none .none .none .none .none (fun _ h => h) (by simpa using zp)
  refine ⟨out, by simpa using o1, ?_⟩
  simp only [List.map_nil, bd20] at e
  have hg : ItK.seq.get [.tup (b.ps.map pD)] = some (b.ps.map pD) := rfl
  simp [mirror, d20, cutG, run_for, bdx, bd0, bd3, row_at hr, hg, e, bigE]
theorem s24 (n : Nat) {b : Bk} (w : WB b) (s : SB b) (h : Nm → Int) (k : Nat) (r : Rw) (hr : b.rs[k]? = some r) (g : List Gd) : ∃ v : D, (v = .non ∨ ∃ i, v = .int i) ∧ TB fns (n + 3) 24 [.val (bD b), .val (hT b h), .val (.int k)] g = .ret v g := by
  rw [t (n + 2) 24 d24 rfl]
  have zp := w.zp
  obtain ⟨out, o1, e20⟩ := s20 n w s k r hr g
  have loop : ∀ (qs : List (Int × Int)) (i : Nat) (s3 s4 s5 : Slot), i + qs.length ≤ b.ps.length → ∃ (s3' s4' s5' : Slot), loopS (bindP (.tp [(.nm 3), (.tp [(.nm 4), (.nm 5)])])) (runs (TB fns (n + 2)) [.ifS (.not (.chain .le .le (.var 4) (.prim .ix [(.var 1), (.var 3)]) (.var 5))) [.ret (.var 3)] []]) (enumD i (qs.map lhD)) ⟨[.val (bD b), .val (hT b h), .val (.int k), s3, s4, s5], g⟩ = .nx ⟨[.val (bD b), .val (hT b h), .val (.int k), s3', s4', s5'], g⟩ ∨
      ∃ j : Int, loopS (bindP (.tp [(.nm 3), (.tp [(.nm 4), (.nm 5)])])) (runs (TB fns (n + 2)) [.ifS (.not (.chain .le .le (.var 4) (.prim .ix [(.var 1), (.var 3)]) (.var 5))) [.ret (.var 3)] []]) (enumD i (qs.map lhD)) ⟨[.val (bD b), .val (hT b h), .val (.int k), s3, s4, s5], g⟩ = .ret (.int j) ⟨[.val (bD b), .val (hT b h), .val (.int k), s3', s4', s5'], g⟩ := by
    intro qs
    induction qs with
    | nil => intro i s3 s4 s5 _; exact ⟨s3, s4, s5, .inl rfl⟩
    | cons q qs ih =>
      intro i s3 s4 s5 hi
      simp only [List.length_cons] at hi
      obtain ⟨t3, t4, t5, e⟩ := ih (i + 1) (.val (.int i)) (.val (.int q.1)) (.val (.int q.2)) (by omega)
      have hp : i < b.ps.length := by omega
      have ix : P.ap .ix [hT b h, .int (i : Int)] = some (.int (h b.ps[i].1)) := by
        have q : ixD (hT b h) (i : Int) = some (.int (h b.ps[i].1)) := by
          refine ix_nat ?_
          rw [List.getElem?_map, List.getElem?_eq_getElem hp]
          rfl
        exact q
      have e1 : bindP (.tp [(.nm 3), (.tp [(.nm 4), (.nm 5)])]) (.tup [.int (i : Int), lhD q]) [.val (bD b), .val (hT b h), .val (.int k), s3, s4, s5] = some [.val (bD b), .val (hT b h), .val (.int k), .val (.int i), .val (.int q.1), .val (.int q.2)] := by simp [lhD]
      by_cases c1 : q.1 ≤ h b.ps[i].1
      · by_cases c2 : h b.ps[i].1 ≤ q.2
        · have e2 : runs (TB fns (n + 2)) [.ifS (.not (.chain .le .le (.var 4) (.prim .ix [(.var 1), (.var 3)]) (.var 5))) [.ret (.var 3)] []] ⟨[.val (bD b), .val (hT b h), .val (.int k), .val (.int i), .val (.int q.1), .val (.int q.2)], g⟩ = .nx ⟨[.val (bD b), .val (hT b h), .val (.int k), .val (.int i), .val (.int q.1), .val (.int q.2)], g⟩ := by
            simp [ix, c1, c2, truth]
          refine ⟨t3, t4, t5, ?_⟩
          simp only [List.map_cons, enumD, loopS, e1, e2]
          exact e
        · refine ⟨.val (.int i), .val (.int q.1), .val (.int q.2), .inr ⟨i, ?_⟩⟩
          have e2 : runs (TB fns (n + 2)) [.ifS (.not (.chain .le .le (.var 4) (.prim .ix [(.var 1), (.var 3)]) (.var 5))) [.ret (.var 3)] []] ⟨[.val (bD b), .val (hT b h), .val (.int k), .val (.int i), .val (.int q.1), .val (.int q.2)], g⟩ = .ret (.int i) ⟨[.val (bD b), .val (hT b h), .val (.int k), .val (.int i), .val (.int q.1), .val (.int q.2)], g⟩ := by
            simp [ix, c1, c2, truth]
          simp only [List.map_cons, enumD, loopS, e1, e2]
      · refine ⟨.val (.int i), .val (.int q.1), .val (.int q.2), .inr ⟨i, ?_⟩⟩
        have e2 : runs (TB fns (n + 2)) [.ifS (.not (.chain .le .le (.var 4) (.prim .ix [(.var 1), (.var 3)]) (.var 5))) [.ret (.var 3)] []] ⟨[.val (bD b), .val (hT b h), .val (.int k), .val (.int i), .val (.int q.1), .val (.int q.2)], g⟩ = .ret (.int i) ⟨[.val (bD b), .val (hT b h), .val (.int k), .val (.int i), .val (.int q.1), .val (.int q.2)], g⟩ := by
          simp [ix, c1, truth]
        simp only [List.map_cons, enumD, loopS, e1, e2]
  have hg : ItK.enum.get [.lst (out.map lhD)] = some (enumD 0 (out.map lhD)) := by
    simp only [ItK.get]
    rw [if_pos]
    rw [List.length_map, bigE]; omega
  obtain ⟨t3, t4, t5, e | ⟨i, e⟩⟩ := loop out 0 .none .none .none (by omega)
  · refine ⟨.non, .inl rfl, ?_⟩
    simp [mirror, d24, cutG, run_for, e20, hg, e]
  · refine ⟨.int i, .inr ⟨i, rfl⟩, ?_⟩
    simp [mirror, d24, cutG, run_for, e20, hg, e]
end K17
end Rf

set_option Elab.async false
set_option linter.all false
set_option maxRecDepth 100000
set_option maxHeartbeats 4000000
namespace Rf
open PySem PySem.Spec PyProof.Rows L2
namespace K17
def wTold : Nm := [116, 111, 108, 100]
def wPaper : Nm := [112, 97, 112, 101, 114]
def mulD : D → D
  | .tup [.tup [_, _, .int c], .int u] => .int (c * u)
  | d => d
def bd26 : List S := [.set (.nm 3) (.prim .add [(.var 3), (.prim .sum [(.comp (.prim .mul [(.prim .ix [(.var 6), (.kint 2)]), (.var 7)]) (.tp [(.nm 6), (.nm 7)]) .zip [(.prim .ix [(.var 0), (.kint 1)]), (.var 5)] [] [6, 7])])]), .set (.nm 3) (.prim .add [(.var 3), (.prim .mul [(.orV (.prim .ix [(.var 0), (.kint 2)]) (.kint 0)), (.orV (.call 25 [(.var 0), (.prim .ix [(.var 2), (.var 4)]), (.var 4)]) (.kint 0))])])]
theorem s26loop (n : Nat) {b : Bk} (w : WB b) (s : SB b) (A : D) (L : List D) (g : List Gd) : ∀ (us : List (List Int)) (hs : List (Nm → Int)) (k : Nat) (z : Int) (s4 s5 : Slot), us.length = hs.length → k + us.length ≤ b.rs.length → (∀ (j : Nat) (h : Nm → Int), hs[j]? = some h → L[k + j]? = some (hT b h)) → ∃ (z' : Int) (s4' s5' : Slot),
    loopS (bindP (.tp [(.nm 4), (.nm 5)])) (runs (TB fns (n + 1)) bd26) (enumD k (us.map iT)) ⟨[.val (bD b), .val A, .val (.lst L), .val (.int z), s4, s5, .none, .none], g⟩ = .nx ⟨[.val (bD b), .val A, .val (.lst L), .val (.int z'), s4', s5', .none, .none], g⟩
  | [], hs, k, z, s4, s5, _, _, _ => ⟨z, s4, s5, rfl⟩
  | u :: us, [], k, z, s4, s5, hl, _, _ => by simp at hl
  | u :: us, h :: hs, k, z, s4, s5, hl, hk, hL => by
    simp only [List.length_cons] at hk
    have kl : k < b.rs.length := by omega
    have zc := w.zc
    have hr : b.rs[k]? = some b.rs[k] := List.getElem?_eq_getElem kl
    have a25 := s25 n b w h k b.rs[k] hr g
    have h0 : P.ap .ix [.lst L, .int (k : Int)] = some (hT b h) := by
      have q : ixD (.lst L) (k : Int) = some (hT b h) := ixl_nat (by simpa using hL 0 h rfl)
      exact q
    let S0 : List Slot := [.val (bD b), .val A, .val (.lst L), .val (.int z), .val (.int k), .val (iT u), .none, .none]
    have hc := comp_map (T := TB fns (n + 1)) (elt := (.prim .mul [(.prim .ix [(.var 6), (.kint 2)]), (.var 7)])) (pt := (.tp [(.nm 6), (.nm 7)])) (it := .zip) (src := [(.prim .ix [(.var 0), (.kint 1)]), (.var 5)]) (ws := [6, 7]) (st := ⟨S0, g⟩) (s1 := ⟨S0, g⟩) (ds := [.tup (b.cs.map cD), iT u]) (xs := (b.cs.zip u).map prD)
      mulD (by simp [S0, bdx, bd1]) (by rw [← zip_cs]; rfl) (by rw [List.length_map, List.length_zip, bigE]; omega) (by intro j hj; simp at hj; rcases hj with rfl | rfl <;> simp [S0]) (r0 := S0) rfl fun y hy => by
        obtain ⟨q, hq, rfl⟩ := List.mem_map.mp hy
        have cb := s.cn q.1 (List.of_mem_zip hq).1
        have cb' : q.1.2.2.natAbs < 18446744073709551616 := by omega
        exact ⟨[.val (bD b), .val A, .val (.lst L), .val (.int z), .val (.int k), .val (iT u), .val (cD q.1), .val (.int q.2)], by simp [S0, prD], rfl, by simp [cD, prD, mulD, cb']⟩
    have em : ((b.cs.zip u).map prD).map mulD = ((b.cs.zip u).map fun q => q.1.2.2 * q.2).map .int := by
      rw [List.map_map, List.map_map]
      rfl
    rw [em] at hc
    simp only [S0] at hc
    have o1 : ∀ st : Sx, st.r[0]? = some (.val (bD b)) → ∃ v : Int, v.natAbs ≤ 100 ∧ ev (TB fns (n + 1)) (.orV (.prim .ix [(.var 0), (.kint 2)]) (.kint 0)) st = .ok (.int v) st := by
      intro st hst
      cases hs : b.sl with
      | none => exact ⟨0, by decide, by simp [hst, bdx, bd2, hs, slD, truS]⟩
      | some m =>
        by_cases zm : m = 0
        · exact ⟨0, by decide, by simp [hst, bdx, bd2, hs, slD, truS, zm]⟩
        · have mz : (m != 0) = true := by simpa using zm
          exact ⟨m, s.sn m hs, by simp [hst, bdx, bd2, hs, slD, truS, mz]⟩
    let z1 := z + ((b.cs.zip u).map fun q => q.1.2.2 * q.2).sum
    obtain ⟨v, v1, ov⟩ := o1 ⟨[.val (bD b), .val A, .val (.lst L), .val (.int z1), .val (.int k), .val (iT u), .none, .none], g⟩ rfl
    have o2 : ∃ x : Int, ev (TB fns (n + 1)) (.orV (.call 25 [(.var 0), (.prim .ix [(.var 2), (.var 4)]), (.var 4)]) (.kint 0)) ⟨[.val (bD b), .val A, .val (.lst L), .val (.int z1), .val (.int k), .val (iT u), .none, .none], g⟩ = .ok (.int x) ⟨[.val (bD b), .val A, .val (.lst L), .val (.int z1), .val (.int k), .val (iT u), .none, .none], g⟩ := by
      have : slipD h b.rs[k] = .non ∨ ∃ x, slipD h b.rs[k] = .int x := by
        cases b.rs[k] with
        | mv a c m => exact .inl rfl
        | ct a m => exact .inr ⟨_, rfl⟩
      rcases this with e | ⟨x, e⟩
      · rw [e] at a25
        exact ⟨0, by simp [h0, a25, truS]⟩
      · rw [e] at a25
        by_cases zx : x = 0
        · exact ⟨0, by simp [h0, a25, truS, zx]⟩
        · have xz : (x != 0) = true := by simpa using zx
          exact ⟨x, by simp [h0, a25, truS, xz]⟩
    obtain ⟨x, ox⟩ := o2
    obtain ⟨z', t4, t5, e⟩ := s26loop n w s A L g us hs (k + 1) (z1 + v * x) (.val (.int k)) (.val (iT u)) (by simpa using hl) (by omega) (fun j h' hj => by
      have := hL (j + 1) h' (by simpa using hj)
      rwa [show k + (j + 1) = k + 1 + j by omega] at this)
    refine ⟨z', t4, t5, ?_⟩
    simp only [List.map_cons, enumD, loopS]
    have e1 : bindP (.tp [(.nm 4), (.nm 5)]) (.tup [.int (k : Int), iT u]) [.val (bD b), .val A, .val (.lst L), .val (.int z), s4, s5, .none, .none] = some [.val (bD b), .val A, .val (.lst L), .val (.int z), .val (.int k), .val (iT u), .none, .none] := by simp
    have vb : v.natAbs < 18446744073709551616 := by omega
    have e2 : runs (TB fns (n + 1)) bd26 ⟨[.val (bD b), .val A, .val (.lst L), .val (.int z), .val (.int k), .val (iT u), .none, .none], g⟩ = .nx ⟨[.val (bD b), .val A, .val (.lst L), .val (.int (z1 + v * x)), .val (.int k), .val (iT u), .none, .none], g⟩ := by
      simp only [z1] at ov ox ⊢
      simp [bd26, hc, sum_ints, ov, ox, vb, -List.map_map, -ev_orV]
    simp only [e1, e2, e]
theorem s26 (n : Nat) {b : Bk} (w : WB b) (s : SB b) (ts : List (List Int)) (hl : ts.length = b.rs.length) (g : List Gd) : ∃ z : Int, TB fns (n + 4) 26 [.val (bD b), .val (tlD ts)] g = .ret (.int z) g := by
  rw [t (n + 3) 26 d26 rfl]
  have zr := w.zr
  have a23 := s23 n b w ts hl g
  have ll := lvF_len b b.rs ts (st0 b) hl
  obtain ⟨z, t4, t5, e⟩ := s26loop (n + 2) w s (tlD ts) (lvAll b ts) g ts (lvF b (st0 b) b.rs ts) 0 0 .none .none (by omega) (by omega) (fun j h hj => by
    have hj' := (List.getElem?_eq_some_iff.mp hj).1
    unfold lvAll
    rw [List.getElem?_append_left (by simpa using hj'), Nat.zero_add, List.getElem?_map, hj]
    rfl)
  have hg : ItK.enum.get [tlD ts] = some (enumD 0 (ts.map iT)) := by
    simp only [ItK.get, tlD]
    rw [if_pos]
    rw [List.length_map, bigE]; omega
  refine ⟨z, ?_⟩
  simp only [bd26] at e
  simp [mirror, d26, cutG, a23, run_for, hg, e]
theorem s27 (n : Nat) (i : Int) (g : List Gd) : TB fns (n + 1) 27 [.val (.int i)] g = .ret (.bl true) g := by
  rw [t n 27 d27 rfl]
  simp [mirror, d27, cutG, isTy, truth]
theorem flt_none {α : Type} (xs : List α) : xs.filter (fun _ => false) = [] := List.filter_eq_nil_iff.mpr (by simp)
theorem s28 (n : Nat) {ts : List (List Int)} (hl : ts.length ≤ 50) (hu : ∀ us ∈ ts, us.length ≤ 20 ∧ ∀ u ∈ us, 0 ≤ u) (g : List Gd) : TB fns (n + 2) 28 [.val (tlD ts), .val (.int 0)] g = .ret (.bl true) g := by
  rw [t (n + 1) 28 d28 rfl]
  let S0 : List Slot := [.val (tlD ts), .val (.int 0), .none, .none]
  have e0 : eqD (.lst []) (.lst []) = some true := rfl
  have c1 := comp_pure (T := TB fns (n + 1)) (elt := .var 2) (pt := .nm 2) (it := .seq) (src := [(.var 0)]) (cs := [(.not (.prim (.isa .tuple) [(.var 2)]))]) (ws := [2]) (st := ⟨S0, g⟩) (s1 := ⟨S0, g⟩) (ds := [tlD ts]) (xs := ts.map iT)
    (fun _ => false) (fun d => d) (by simp [S0]) rfl (by rw [List.length_map, bigE]; omega) (by intro k hk; simp at hk; subst hk; simp [S0]) (r0 := S0) rfl fun y hy => by
      obtain ⟨us, hus, rfl⟩ := List.mem_map.mp hy
      exact ⟨[.val (tlD ts), .val (.int 0), .val (iT us), .none], by simp [S0], rfl, by simp [iT, isTy, truth], fun h => by cases h⟩
  have c2 := comp_pure (T := TB fns (n + 1)) (elt := .var 2) (pt := .nm 2) (it := .seq) (src := [(.var 0)]) (cs := [(.prim .ne [(.comp (.var 3) (.nm 3) .seq [(.var 2)] [(.or (.not (.call 27 [(.var 3)])) (.and (.prim .lt [(.var 3), (.kint 0)]) (.prim .eq [(.var 1), (.kint 0)])))] [3]), (.lst [])])]) (ws := [2]) (st := ⟨S0, g⟩) (s1 := ⟨S0, g⟩) (ds := [tlD ts]) (xs := ts.map iT)
    (fun _ => false) (fun d => d) (by simp [S0]) rfl (by rw [List.length_map, bigE]; omega) (by intro k hk; simp at hk; subst hk; simp [S0]) (r0 := S0) rfl fun y hy => by
      obtain ⟨us, hus, rfl⟩ := List.mem_map.mp hy
      obtain ⟨u1, u2⟩ := hu us hus
      have c3 := comp_pure (T := TB fns (n + 1)) (elt := .var 3) (pt := .nm 3) (it := .seq) (src := [(.var 2)]) (cs := [(.or (.not (.call 27 [(.var 3)])) (.and (.prim .lt [(.var 3), (.kint 0)]) (.prim .eq [(.var 1), (.kint 0)])))]) (ws := [3]) (st := ⟨[.val (tlD ts), .val (.int 0), .val (iT us), .none], g⟩) (s1 := ⟨[.val (tlD ts), .val (.int 0), .val (iT us), .none], g⟩) (ds := [iT us]) (xs := us.map .int)
        (fun _ => false) (fun d => d) (by simp) rfl (by rw [List.length_map, bigE]; omega) (by intro k hk; simp at hk; subst hk; simp) (r0 := [.val (tlD ts), .val (.int 0), .val (iT us), .none]) rfl fun y hy => by
          obtain ⟨u, hu', rfl⟩ := List.mem_map.mp hy
          have := u2 u hu'
          have nl : ¬ u < 0 := by omega
          have a27 := s27 n u g
          exact ⟨[.val (tlD ts), .val (.int 0), .val (iT us), .val (.int u)], by simp, rfl, by simp [a27, truth, nl], fun h => by cases h⟩
      rw [flt_none, List.map_nil] at c3
      exact ⟨[.val (tlD ts), .val (.int 0), .val (iT us), .none], by simp [S0], rfl, by simp [c3, e0, truth, bigE], fun h => by cases h⟩
  rw [flt_none, List.map_nil] at c1 c2
  simp only [S0] at c1 c2
  simp [mirror, d28, cutG, c1, c2, e0, truth, bigE, tlD, isTy]
  simp only [tlD] at c1 c2
  simp [c1, c2, e0, truth, bigE]
end K17
end Rf

set_option Elab.async false
set_option linter.all false
set_option maxRecDepth 100000
set_option maxHeartbeats 4000000
namespace Rf
open PySem PySem.Spec PyProof.Rows L2
namespace K17
def bd29 : List S := [.ifS (.prim .ne [(.prim .len [(.var 4)]), (.prim .len [(.prim .ix [(.var 0), (.kint 1)])])]) [.ret (.tup [(.kstr [112, 97, 112, 101, 114]), (.kstr [119, 97, 121, 115]), (.var 3)])] [], .set (.nm 2) (.call 21 [(.var 0), (.var 2), (.var 4)]), .set (.nm 5) (.call 24 [(.var 0), (.var 2), (.var 3)]), .ifS (.prim .notNone [(.var 5)]) [.ret (.tup [(.kstr [112, 97, 112, 101, 114]), (.kstr [108, 101, 118, 101, 108]), (.tup [(.var 3), (.var 5)])])] [], .set (.nm 2) (.call 22 [(.var 0), (.var 2), (.var 3)])]
theorem s29loop (n : Nat) {b : Bk} (w : WB b) (s : SB b) (A : D) (g : List Gd) : ∀ (us : List (List Int)) (k : Nat) (h : Nm → Int) (s3 s4 s5 : Slot), k + us.length ≤ b.rs.length → (∀ u ∈ us, u.length = b.cs.length) →
    (∃ (h' : Nm → Int) (s3' s4' s5' : Slot), loopS (bindP (.tp [(.nm 3), (.nm 4)])) (runs (TB fns (n + 3)) bd29) (enumD k (us.map iT)) ⟨[.val (bD b), .val A, .val (hT b h), s3, s4, s5, .none, .none, .none], g⟩ = .nx ⟨[.val (bD b), .val A, .val (hT b h'), s3', s4', s5', .none, .none, .none], g⟩) ∨
    (∃ (r : List D) (st : List Slot), loopS (bindP (.tp [(.nm 3), (.nm 4)])) (runs (TB fns (n + 3)) bd29) (enumD k (us.map iT)) ⟨[.val (bD b), .val A, .val (hT b h), s3, s4, s5, .none, .none, .none], g⟩ = .ret (.tup (.str wPaper :: r)) ⟨st, g⟩)
  | [], k, h, s3, s4, s5, _, _ => .inl ⟨h, s3, s4, s5, rfl⟩
  | u :: us, k, h, s3, s4, s5, hk, hu => by
    simp only [List.length_cons] at hk
    have kl : k < b.rs.length := by omega
    have hr : b.rs[k]? = some b.rs[k] := List.getElem?_eq_getElem kl
    have a21 := s21 (n + 2) b w h u g
    obtain ⟨v, hv, a24⟩ := s24 n w s (stepM b u h) k b.rs[k] hr g
    have a22 := s22 (n + 1) b w (stepM b u h) k b.rs[k] hr g
    have ul := hu u (by simp)
    have el : eqD (.int (u.length : Int)) (.int (b.cs.length : Int)) = some true := by rw [eqD_int, ul]; simp
    have e1 : bindP (.tp [(.nm 3), (.nm 4)]) (.tup [.int (k : Int), iT u]) [.val (bD b), .val A, .val (hT b h), s3, s4, s5, .none, .none, .none] = some [.val (bD b), .val A, .val (hT b h), .val (.int k), .val (iT u), s5, .none, .none, .none] := by simp
    have li : P.ap .len [iT u] = some (.int u.length) := by simp [iT]
    rcases hv with rfl | ⟨i, rfl⟩
    · have e2 : runs (TB fns (n + 3)) bd29 ⟨[.val (bD b), .val A, .val (hT b h), .val (.int k), .val (iT u), s5, .none, .none, .none], g⟩ = .nx ⟨[.val (bD b), .val A, .val (hT b (stepD b.rs[k] (stepM b u h))), .val (.int k), .val (iT u), .val .non, .none, .none, .none], g⟩ := by
        simp [bd29, li, bdx, bd1, el, truth, a21, a24, a22, D.isNon]
      rcases s29loop n w s A g us (k + 1) (stepD b.rs[k] (stepM b u h)) (.val (.int k)) (.val (iT u)) (.val .non) (by omega) (fun q hq => hu q (List.mem_cons_of_mem _ hq)) with ⟨h', t3, t4, t5, e⟩ | ⟨r, st, e⟩
      · refine .inl ⟨h', t3, t4, t5, ?_⟩
        simp only [List.map_cons, enumD, loopS, e1, e2]
        exact e
      · refine .inr ⟨r, st, ?_⟩
        simp only [List.map_cons, enumD, loopS, e1, e2]
        exact e
    · have e2 : runs (TB fns (n + 3)) bd29 ⟨[.val (bD b), .val A, .val (hT b h), .val (.int k), .val (iT u), s5, .none, .none, .none], g⟩ = .ret (.tup (.str wPaper :: [.str [108, 101, 118, 101, 108], .tup [.int k, .int i]])) ⟨[.val (bD b), .val A, .val (hT b (stepM b u h)), .val (.int k), .val (iT u), .val (.int i), .none, .none, .none], g⟩ := by
        simp [bd29, li, bdx, bd1, el, truth, a21, a24, a22, D.isNon, bigE, wPaper]
      refine .inr ⟨[.str [108, 101, 118, 101, 108], .tup [.int k, .int i]], [.val (bD b), .val A, .val (hT b (stepM b u h)), .val (.int k), .val (iT u), .val (.int i), .none, .none, .none], ?_⟩
      simp only [List.map_cons, enumD, loopS, e1, e2]
theorem s29 (n : Nat) {b : Bk} (w : WB b) (s : SB b) {ts : List (List Int)} (hl : ts.length = b.rs.length) (hu : ∀ us ∈ ts, us.length = b.cs.length ∧ ∀ u ∈ us, 0 ≤ u) (g : List Gd) : ∃ (x : Nm) (r : List D), TB fns (n + 5) 29 [.val (bD b), .val (tlD ts)] g = .ret (.tup (.str x :: r)) g := by
  rw [t (n + 4) 29 d29 rfl]
  have zr := w.zr
  have zc := w.zc
  have a28 := s28 (n + 2) (ts := ts) (by omega) (fun us h => ⟨by have := (hu us h).1; omega, (hu us h).2⟩) g
  obtain ⟨z, a26⟩ := s26 n w s ts hl g
  have hs := stocks_ev (T := TB fns (n + 4)) w (src := [(.prim .ix [(.var 0), (.kint 0)])]) (i := 6) (st := ⟨[.val (bD b), .val (tlD ts), .none, .none, .none, .none, .none, .none, .none], g⟩) (by simp [bdx, bd0]) (by simp) rfl rfl rfl
  have eh : hT b (st0 b) = .tup (b.ps.map fun p => .int (st0 b p.1)) := rfl
  simp only [Nat.reduceAdd] at hs
  have el : eqD (.int (ts.length : Int)) (.int (b.rs.length : Int)) = some true := by rw [eqD_int, hl]; simp
  have li : P.ap .len [tlD ts] = some (.int ts.length) := by simp [tlD]
  have hg : ItK.enum.get [tlD ts] = some (enumD 0 (ts.map iT)) := by
    simp only [ItK.get, tlD]
    rw [if_pos]
    rw [List.length_map, bigE]; omega
  rcases s29loop (n + 1) w s (tlD ts) g ts 0 (st0 b) .none .none .none (by omega) (fun u hu' => (hu u hu').1) with ⟨h', t3, t4, t5, e⟩ | ⟨r, st, e⟩
  · refine ⟨wTold, [.int z], ?_⟩
    rw [eh] at e
    simp only [bd29] at e
    simp [mirror, d29, cutG, a28, truth, li, bdx, bd3, el, hs, run_for, hg, e, a26, bigE, wTold]
  · refine ⟨wPaper, r, ?_⟩
    rw [eh] at e
    simp only [bd29] at e
    simp [mirror, d29, cutG, a28, truth, li, bdx, bd3, el, hs, run_for, hg, e, a26, bigE, wPaper]
/-! ### drawn tales -/
def tS (b : Bk) (j : Nat) (spots told s4 s5 s6 : Slot) : List Slot := [.glb j, .val (bD b), spots, told, s4, s5, s6, .none, .none, .none, .none]
def bd30i : List S := [.ifS (.and (.prim .gt [(.var 6), (.kint 0)]) (.prim .isNone [(.call 24 [(.var 1), (.call 21 [(.var 1), (.var 2), (.var 5)]), (.var 4)])])) [.cont] [], .set (.nm 5) (.prim .tuple [(.comp (.prim .max [(.kint 0), (.prim .sub [(.call 14 [(.gv 0), (.kint 4)]), (.kint 1)])]) (.nm 10) .seq [(.prim .ix [(.var 1), (.kint 1)])] [] [10])])]
def usOk (b : Bk) (us : List Int) : Prop := us.length = b.cs.length ∧ ∀ u ∈ us, 0 ≤ u ∧ u ≤ 3
theorem drawU (n : Nat) {b : Bk} (w : WB b) {g : List Gd} {j : Nat} (hj : j < g.length) {f : Gd} (hf : Fd f) (spots told s4 s5 s6 : Slot) : ∃ us f', usOk b us ∧ Fd f' ∧ ev (TB fns (n + 1)) (.comp (.prim .max [(.kint 0), (.prim .sub [(.call 14 [(.gv 0), (.kint 4)]), (.kint 1)])]) (.nm 10) .seq [(.prim .ix [(.var 1), (.kint 1)])] [] [10]) ⟨tS b j spots told s4 s5 s6, g.set j f⟩ = .ok (.lst (us.map .int)) ⟨tS b j spots told s4 s5 s6, g.set j f'⟩ := by
  have zc := w.zc
  obtain ⟨rs, g', er, ⟨f3, hf3, rfl⟩, F⟩ := comp_inv (T := TB fns (n + 1)) (elt := (.prim .max [(.kint 0), (.prim .sub [(.call 14 [(.gv 0), (.kint 4)]), (.kint 1)])])) (pt := .nm 10) (it := .seq) (src := [(.prim .ix [(.var 1), (.kint 1)])]) (ws := [10]) (st := ⟨tS b j spots told s4 s5 s6, g.set j f⟩) (s1 := ⟨tS b j spots told s4 s5 s6, g.set j f⟩) (ds := [.tup (b.cs.map cD)]) (xs := b.cs.map cD)
    (fun _ d => ∃ u : Int, d = .int u ∧ 0 ≤ u ∧ u ≤ 3) (fun g' => ∃ f, Fd f ∧ g' = g.set j f) (by simp [tS, bdx, bd1]) rfl (by rw [List.length_map, bigE]; omega) (by intro k hk; simp at hk; subst hk; simp [tS]) (r0 := tS b j spots told s4 s5 s6) rfl ⟨f, hf, rfl⟩ fun x hx g' ⟨f, hf, eg⟩ => by
      subst eg
      obtain ⟨r, f', r1, r2, hf', e⟩ := pv n (g := g) (j := j) (f := f) (many := 4) hj hf (by decide) (by decide)
      refine ⟨(tS b j spots told s4 s5 s6).set 10 (.val x), .int (max2 0 (r - 1)), (tS b j spots told s4 s5 s6).set 10 (.val x), g.set j f', by simp [tS], ?_, rfl, ⟨max2 0 (r - 1), rfl, ?_, ?_⟩, f', hf', rfl⟩
      · simp [tS, e]
      · unfold max2; split <;> omega
      · unfold max2; split <;> omega
  have : ∀ (xs ys : List D), F2 (fun _ d => ∃ u : Int, d = .int u ∧ 0 ≤ u ∧ u ≤ 3) xs ys → ∃ us : List Int, ys = us.map .int ∧ ∀ u ∈ us, 0 ≤ u ∧ u ≤ 3 := by
    intro xs ys h
    induction h with
    | nil => exact ⟨[], rfl, by simp⟩
    | cons h _ ih =>
      obtain ⟨r, rfl, hr⟩ := h
      obtain ⟨us, rfl, hw⟩ := ih
      exact ⟨r :: us, rfl, fun q hq => by
        rcases List.mem_cons.mp hq with rfl | z
        · exact hr
        · exact hw q z⟩
  have ln := F.length_eq
  obtain ⟨us, rfl, hus⟩ := this _ _ F
  exact ⟨us, f3, ⟨by simpa using ln.symm, hus⟩, hf3, er⟩
theorem s30in (n : Nat) {b : Bk} (w : WB b) (s : SB b) {g : List Gd} {j : Nat} (hj : j < g.length) (h : Nm → Int) (told : Slot) (k : Nat) (hk : k < b.rs.length) {us : List Int} (hu : usOk b us) {f : Gd} (hf : Fd f) (s6 : Slot) : ∃ us' f' s6', usOk b us' ∧ Fd f' ∧
    loopS (bindP (.nm 6)) (runs (TB fns (n + 3)) bd30i) (rangeD 0 3) ⟨tS b j (.val (hT b h)) told (.val (.int k)) (.val (iT us)) s6, g.set j f⟩ = .nx ⟨tS b j (.val (hT b h)) told (.val (.int k)) (.val (iT us')) s6', g.set j f'⟩ := by
  let PV : Nat → Sx → Prop := fun _ st => ∃ us' f' s6', usOk b us' ∧ Fd f' ∧ st = ⟨tS b j (.val (hT b h)) told (.val (.int k)) (.val (iT us')) s6', g.set j f'⟩
  obtain ⟨s', es, us', f', s6', q1, q2, rfl⟩ := loop_inv (b := bindP (.nm 6)) (f := runs (TB fns (n + 3)) bd30i) PV (rangeD 0 3) 0 ⟨tS b j (.val (hT b h)) told (.val (.int k)) (.val (iT us)) s6, g.set j f⟩ ⟨us, f, s6, hu, hf, rfl⟩ (by
    rintro q x st hx ⟨us', f', s6', q1, q2, rfl⟩
    obtain ⟨i, hi, rfl⟩ := rangeD_mem (List.mem_of_getElem? hx)
    have hr : b.rs[k]? = some b.rs[k] := List.getElem?_eq_getElem hk
    have a21 := s21 (n + 2) b w h us' (g.set j f')
    obtain ⟨v, hv, a24⟩ := s24 n w s (stepM b us' h) k b.rs[k] hr (g.set j f')
    obtain ⟨vs, f2, v1, hf2, ed⟩ := drawU (n + 2) w hj q2 (.val (hT b h)) told (.val (.int k)) (.val (iT us')) (.val (.int i))
    have hb : bindP (.nm 6) (.int (i : Int)) (tS b j (.val (hT b h)) told (.val (.int k)) (.val (iT us')) s6') = some (tS b j (.val (hT b h)) told (.val (.int k)) (.val (iT us')) (.val (.int i))) := by simp [tS]
    have dr : ∀ c : E, ev (TB fns (n + 3)) c ⟨tS b j (.val (hT b h)) told (.val (.int k)) (.val (iT us')) (.val (.int i)), g.set j f'⟩ = .ok (.bl false) ⟨tS b j (.val (hT b h)) told (.val (.int k)) (.val (iT us')) (.val (.int i)), g.set j f'⟩ → runs (TB fns (n + 3)) [.ifS c [.cont] [], .set (.nm 5) (.prim .tuple [(.comp (.prim .max [(.kint 0), (.prim .sub [(.call 14 [(.gv 0), (.kint 4)]), (.kint 1)])]) (.nm 10) .seq [(.prim .ix [(.var 1), (.kint 1)])] [] [10])])] ⟨tS b j (.val (hT b h)) told (.val (.int k)) (.val (iT us')) (.val (.int i)), g.set j f'⟩ = .nx ⟨tS b j (.val (hT b h)) told (.val (.int k)) (.val (iT vs)) (.val (.int i)), g.set j f2⟩ := by
      intro c hc
      rw [runs_cons, run_if, hc]
      simp only [onE_ok, truth, runs_nil, runs_cons, run_set, ev_prim, evs_comp, ed, bind_ok, evs_nil, ap_e34, ofOpt_some]
      simp [tS, iT]
    by_cases z : 0 < i
    · rcases hv with rfl | ⟨y, rfl⟩
      · refine ⟨_, _, hb, .inr ?_, us', f', .val (.int i), q1, q2, rfl⟩
        simp [bd30i, tS, z, a21, a24, D.isNon, truth]
      · refine ⟨_, _, hb, .inl (dr _ ?_), vs, f2, .val (.int i), v1, hf2, rfl⟩
        simp [tS, z, a21, a24, D.isNon]
    · refine ⟨_, _, hb, .inl (dr _ ?_), vs, f2, .val (.int i), v1, hf2, rfl⟩
      simp [tS, z])
  exact ⟨us', f', s6', q1, q2, es⟩
theorem rep0 : ∀ m : Nat, (List.replicate m [D.int 0]).flatten = (List.replicate m (0 : Int)).map .int
  | 0 => rfl
  | m + 1 => by simp [List.replicate_succ, rep0 m]
def bd30 : List S := [.set (.nm 5) (.prim .mul [(.tup [(.kint 0)]), (.prim .len [(.prim .ix [(.var 1), (.kint 1)])])]), .forS (.nm 6) .rng [(.kint 3)] bd30i, .set (.nm 2) (.call 22 [(.var 1), (.call 21 [(.var 1), (.var 2), (.var 5)]), (.var 4)]), .set (.nm 3) (.prim .add [(.var 3), (.tup [(.var 5)])])]
theorem s30step (n : Nat) {b : Bk} (w : WB b) (s : SB b) {g : List Gd} {j : Nat} (hj : j < g.length) (h : Nm → Int) (ts : List (List Int)) (ht : ts.length ≤ 50) {q : Nat} (hq : q < b.rs.length) {f : Gd} (hf : Fd f) (s5 s6 : Slot) : ∃ us f' s6', usOk b us ∧ Fd f' ∧
    runs (TB fns (n + 3)) bd30 ⟨tS b j (.val (hT b h)) (.val (tlD ts)) (.val (.int q)) s5 s6, g.set j f⟩ = .nx ⟨tS b j (.val (hT b (stepD b.rs[q] (stepM b us h)))) (.val (tlD (ts ++ [us]))) (.val (.int q)) (.val (iT us)) s6', g.set j f'⟩ := by
  have zc := w.zc
  have hr : b.rs[q]? = some b.rs[q] := List.getElem?_eq_getElem hq
  have u0 : usOk b (List.replicate b.cs.length 0) := ⟨by simp, fun u hu => by
    have := (List.mem_replicate.mp hu).2
    omega⟩
  obtain ⟨us, f2, s6', v1, hf2, el⟩ := s30in n w s hj h (.val (tlD ts)) q hq u0 hf s6
  have a21 := s21 (n + 2) b w h us (g.set j f2)
  have a22 := s22 (n + 1) b w (stepM b us h) q b.rs[q] hr (g.set j f2)
  refine ⟨us, f2, s6', v1, hf2, ?_⟩
  have m1 : P.ap .mul [.tup [.int 0], .int (b.cs.length : Int)] = some (iT (List.replicate b.cs.length 0)) := by
    rw [ap_mul_tup, if_pos ⟨by simp, by omega, by omega, by simp⟩]
    simp [rep0, iT]
  have rg : ItK.rng.get [.int 3] = some (rangeD 0 3) := by
    have := rng_get (n := 3) (by omega)
    simpa using this
  have tl : ts.length + 1 ≤ 16777216 := by omega
  have ta : P.ap .add [tlD ts, .tup [iT us]] = some (tlD (ts ++ [us])) := by
    simp [tlD, bigE, tl]
  have x1 : ∀ s5 : Slot, ev (TB fns (n + 3)) (.prim .mul [(.tup [(.kint 0)]), (.prim .len [(.prim .ix [(.var 1), (.kint 1)])])]) ⟨tS b j (.val (hT b h)) (.val (tlD ts)) (.val (.int q)) s5 s6, g.set j f⟩ = .ok (iT (List.replicate b.cs.length 0)) ⟨tS b j (.val (hT b h)) (.val (tlD ts)) (.val (.int q)) s5 s6, g.set j f⟩ := by
    intro s5
    simp [tS, bdx, bd1, m1, bigE, -ap_mul_tup]
  have p1 : runs (TB fns (n + 3)) (bd30.take 2) ⟨tS b j (.val (hT b h)) (.val (tlD ts)) (.val (.int q)) s5 s6, g.set j f⟩ = .nx ⟨tS b j (.val (hT b h)) (.val (tlD ts)) (.val (.int q)) (.val (iT us)) s6', g.set j f2⟩ := by
    have hs : bd30.take 2 = [.set (.nm 5) (.prim .mul [(.tup [(.kint 0)]), (.prim .len [(.prim .ix [(.var 1), (.kint 1)])])]), .forS (.nm 6) .rng [(.kint 3)] bd30i] := rfl
    have hb : bindP (.nm 5) (iT (List.replicate b.cs.length 0)) (tS b j (.val (hT b h)) (.val (tlD ts)) (.val (.int q)) s5 s6) = some (tS b j (.val (hT b h)) (.val (tlD ts)) (.val (.int q)) (.val (iT (List.replicate b.cs.length 0))) s6) := by simp [tS]
    rw [hs, runs_cons, run_set, x1]
    simp only [onE_ok, hb, runs_cons, run_for, evs_kint, ev_kint, evs_nil, bind_ok, rg, el, runs_nil]
  have p2 : runs (TB fns (n + 3)) (bd30.drop 2) ⟨tS b j (.val (hT b h)) (.val (tlD ts)) (.val (.int q)) (.val (iT us)) s6', g.set j f2⟩ = .nx ⟨tS b j (.val (hT b (stepD b.rs[q] (stepM b us h)))) (.val (tlD (ts ++ [us]))) (.val (.int q)) (.val (iT us)) s6', g.set j f2⟩ := by
    simp [bd30, tS, a21, a22, ta, bigE]
  have body : bd30 = bd30.take 2 ++ bd30.drop 2 := rfl
  rw [body, runs_app, p1]
  simp only [p2]
end K17
end Rf

set_option Elab.async false
set_option linter.all false
set_option maxRecDepth 100000
set_option maxHeartbeats 4000000
namespace Rf
open PySem PySem.Spec PyProof.Rows L2
theorem for_eq {T : Tbl} {p : Pat} {k : ItK} {src : List E} {b : List S} {st s : Sx} {ds xs : List D} (h1 : evs T src st = .ok ds s) (h2 : k.get ds = some xs) : run T (.forS p k src b) st = loopS (bindP p) (runs T b) xs s := by
  rw [run_for, h1, onE_ok]
  simp only [h2]
namespace K17
theorem s30loop (n : Nat) {b : Bk} (w : WB b) (s : SB b) {g : List Gd} {j : Nat} (hj : j < g.length) : ∀ (m k : Nat) (h : Nm → Int) (ts : List (List Int)) (f : Gd) (s4 s5 s6 : Slot), k + m = b.rs.length → ts.length = k → (∀ us ∈ ts, usOk b us) → Fd f → ∃ (h' : Nm → Int) (ts' : List (List Int)) (f' : Gd) (s4' s5' s6' : Slot), ts'.length = b.rs.length ∧ (∀ us ∈ ts', usOk b us) ∧ Fd f' ∧
    loopS (bindP (.nm 4)) (runs (TB fns (n + 3)) bd30) (rangeD (k : Int) m) ⟨tS b j (.val (hT b h)) (.val (tlD ts)) s4 s5 s6, g.set j f⟩ = .nx ⟨tS b j (.val (hT b h')) (.val (tlD ts')) s4' s5' s6', g.set j f'⟩
  | 0, k, h, ts, f, s4, s5, s6, hk, ht, hu, hf => ⟨h, ts, f, s4, s5, s6, by omega, hu, hf, rfl⟩
  | m + 1, k, h, ts, f, s4, s5, s6, hk, ht, hu, hf => by
    have zr := w.zr
    have hq : k < b.rs.length := by omega
    have hb : bindP (.nm 4) (.int (k : Int)) (tS b j (.val (hT b h)) (.val (tlD ts)) s4 s5 s6) = some (tS b j (.val (hT b h)) (.val (tlD ts)) (.val (.int k)) s5 s6) := by simp [tS]
    obtain ⟨us, f2, s6', v1, hf2, e⟩ := s30step n w s hj h ts (by omega) hq hf s5 s6
    obtain ⟨h', ts', f', t4, t5, t6, r1, r2, r3, e'⟩ := s30loop n w s hj m (k + 1) (stepD b.rs[k] (stepM b us h)) (ts ++ [us]) f2 (.val (.int k)) (.val (iT us)) s6' (by omega) (by simp; omega) (fun u hu' => by
      rcases List.mem_append.mp hu' with z | z
      · exact hu u z
      · rw [List.mem_singleton.mp z]; exact v1) hf2
    refine ⟨h', ts', f', t4, t5, t6, r1, r2, r3, ?_⟩
    simp only [rangeD, loopS, hb, e]
    exact e'
theorem s30 (n : Nat) {b : Bk} (w : WB b) (s : SB b) {g : List Gd} {j : Nat} (hj : j < g.length) {f : Gd} (hf : Fd f) : ∃ ts f', ts.length = b.rs.length ∧ (∀ us ∈ ts, usOk b us) ∧ Fd f' ∧ TB fns (n + 4) 30 [.glb j, .val (bD b)] (g.set j f) = .ret (tlD ts) (g.set j f') := by
  rw [t (n + 3) 30 d30 rfl]
  have zr := w.zr
  obtain ⟨h', ts, f', s4, s5, s6, q1, q2, q3, es⟩ := s30loop n w s hj b.rs.length 0 (st0 b) [] f .none .none .none (by omega) rfl (by simp) hf
  rw [show ((0 : Nat) : Int) = 0 from rfl] at es
  refine ⟨ts, f', q1, q2, q3, ?_⟩
  have hs := stocks_ev (T := TB fns (n + 3)) w (src := [(.prim .ix [(.var 1), (.kint 0)])]) (i := 7) (st := ⟨[.glb j, .val (bD b), .none, .none, .none, .none, .none, .none, .none, .none, .none], g.set j f⟩) (by simp [bdx, bd0]) (by simp) rfl rfl rfl
  simp only [Nat.reduceAdd] at hs
  have tk : ∀ x : Gd, (g.set j x).take g.length = g.set j x := fun x => by rw [List.take_of_length_le (by simp)]
  have rg := rng_get (n := b.rs.length) (by omega)
  have p0 : runs (TB fns (n + 3)) (d30.body.take 1) ⟨[.glb j, .val (bD b), .none, .none, .none, .none, .none, .none, .none, .none, .none], g.set j f⟩ = .nx ⟨tS b j (.val (hT b (st0 b))) (.val (tlD [])) .none .none .none, g.set j f⟩ := by
    simp [d30, hs, bigE, tS, hT, tlD]
  have p1 : runs (TB fns (n + 3)) ((d30.body.drop 1).take 1) ⟨tS b j (.val (hT b (st0 b))) (.val (tlD [])) .none .none .none, g.set j f⟩ = .nx ⟨tS b j (.val (hT b h')) (.val (tlD ts)) s4 s5 s6, g.set j f'⟩ := by
    have hs : (d30.body.drop 1).take 1 = [.forS (.nm 4) .rng [(.prim .len [(.prim .ix [(.var 1), (.kint 3)])])] bd30] := rfl
    have ee : evs (TB fns (n + 3)) [(.prim .len [(.prim .ix [(.var 1), (.kint 3)])])] ⟨tS b j (.val (hT b (st0 b))) (.val (tlD [])) .none .none .none, g.set j f⟩ = .ok [.int b.rs.length] ⟨tS b j (.val (hT b (st0 b))) (.val (tlD [])) .none .none .none, g.set j f⟩ := by
      simp [tS, bdx, bd3]
    rw [hs, runs_cons, for_eq ee rg, es]
    simp only [runs_nil]
  have p2 : runs (TB fns (n + 3)) (d30.body.drop 2) ⟨tS b j (.val (hT b h')) (.val (tlD ts)) s4 s5 s6, g.set j f'⟩ = .ret (tlD ts) ⟨tS b j (.val (hT b h')) (.val (tlD ts)) s4 s5 s6, g.set j f'⟩ := by
    simp [d30, tS]
  have body : d30.body = d30.body.take 1 ++ ((d30.body.drop 1).take 1 ++ d30.body.drop 2) := rfl
  have mir : mirror (TB fns (n + 3)) d30 [.glb j, .val (bD b)] (g.set j f) = cutG (g.set j f).length (runs (TB fns (n + 3)) d30.body ⟨[.glb j, .val (bD b), .none, .none, .none, .none, .none, .none, .none, .none, .none], g.set j f⟩) := rfl
  rw [mir, body, runs_app, p0]
  simp only
  rw [runs_app, p1]
  simp only [p2, cutG, List.length_set, tk]
end K17
end Rf

set_option Elab.async false
set_option linter.all false
set_option maxRecDepth 100000
set_option maxHeartbeats 4000000
namespace Rf
open PySem PySem.Spec PyProof.Rows L2
theorem mir1 (T : Tbl) (d : Def) (xs : List Slot) (g : List Gd) (h : xs.length = d.ps.length) : mirror T d xs g = cutG g.length (runs T d.body ⟨xs ++ List.replicate (d.N.length - d.ps.length) .none, g⟩) := by
  unfold mirror
  rw [if_pos h]
namespace K17
def rowK : Nat → List (Int × Int)
  | 1 => [(0, 2), (2, 4)]
  | 2 => [(9, 1)]
  | 5 => [(10, 1)]
  | 6 => [(10, 9)]
  | 8 => [(3, 1)]
  | 9 => [(4, 8)]
  | _ => []
def dctOf (l : List (Int × Int)) : D := .dct (l.map fun p => .inl p.1) (l.map fun p => .int p.2)
def valK (l : List (Int × Int)) (k : Int) : Int := ((l.find? fun p => decide (p.1 = k)).map (·.2)).getD 0
theorem get_dctOf (k : Int) : ∀ l : List (Int × Int), P.ap .get [dctOf l, .int k, .int 0] = some (.int (valK l k)) := by
  intro l
  unfold dctOf
  rw [ap_e52]
  have : ((getK ((l.map fun p => (.inl p.1 : Key)).zip (l.map fun p => D.int p.2)) (.inl k)).getD (.int 0)) = .int (valK l k) := by
    unfold getK valK
    induction l with
    | nil => rfl
    | cons p l ih =>
      simp only [List.map_cons, List.zip_cons_cons, List.find?_cons]
      by_cases z : p.1 = k
      · simp [z]
      · simp only [z, decide_false, show ¬ ((.inl p.1 : Key) = .inl k) from fun e => z (by simpa using e)]
        exact ih
  simp only [keyD, Option.map_some, this]
def gT : List (List Int) := (List.range 10).map fun t => (List.range 12).map fun k : Nat => valK (rowK t) k
def GD : D := .dct [.inl 1, .inl 2, .inl 5, .inl 6, .inl 8, .inl 9] [dctOf (rowK 1), dctOf (rowK 2), dctOf (rowK 5), dctOf (rowK 6), dctOf (rowK 8), dctOf (rowK 9)]
theorem get_GD (t : Nat) (h : t < 10) : P.ap .get [GD, .int (t : Int), .dct [] []] = some (dctOf (rowK t)) := by
  have : t = 0 ∨ t = 1 ∨ t = 2 ∨ t = 3 ∨ t = 4 ∨ t = 5 ∨ t = 6 ∨ t = 7 ∨ t = 8 ∨ t = 9 := by omega
  rcases this with rfl | rfl | rfl | rfl | rfl | rfl | rfl | rfl | rfl | rfl <;> simp [GD, keyD, getK, rowK, dctOf]
theorem s33 (n : Nat) (g : List Gd) : TB fns (n + 1) 33 [] g = .ret (tlD gT) g := by
  rw [t n 33 d33 rfl]
  have r10 := rng_get (n := 10) (by omega)
  have r12 := rng_get (n := 12) (by omega)
  have hc := comp_map (T := TB fns n) (elt := (.prim .tuple [(.comp (.mth .get (.mth .get (.var 0) [(.var 1), (.dic [] [])]) [(.var 2), (.kint 0)]) (.nm 2) .rng [(.kint 12)] [] [2])])) (pt := .nm 1) (it := .rng) (src := [(.kint 10)]) (ws := [1]) (st := ⟨[.val GD, .none, .none], g⟩) (s1 := ⟨[.val GD, .none, .none], g⟩) (ds := [.int 10]) (xs := rangeD 0 10)
    (fun d : D => match d with | .int t => iT ((List.range 12).map fun k : Nat => valK (rowK t.toNat) k) | d => d) (by simp) r10 (by rw [rangeD_map, bigE]; simp) (by intro j hj; simp at hj; subst hj; simp) (r0 := [.val GD, .none, .none]) rfl fun y hy => by
      obtain ⟨q, hq, rfl⟩ := rangeD_mem hy
      have hc2 := comp_map (T := TB fns n) (elt := (.mth .get (.mth .get (.var 0) [(.var 1), (.dic [] [])]) [(.var 2), (.kint 0)])) (pt := .nm 2) (it := .rng) (src := [(.kint 12)]) (ws := [2]) (st := ⟨[.val GD, .val (.int q), .none], g⟩) (s1 := ⟨[.val GD, .val (.int q), .none], g⟩) (ds := [.int 12]) (xs := rangeD 0 12)
        (fun d : D => match d with | .int k => D.int (valK (rowK q) k) | d => d) (by simp) r12 (by rw [rangeD_map, bigE]; simp) (by intro j hj; simp at hj; subst hj; simp) (r0 := [.val GD, .val (.int q), .none]) rfl fun y hy => by
          obtain ⟨k, hk, rfl⟩ := rangeD_mem hy
          have e1 := get_GD q hq
          have e2 := get_dctOf k (rowK q)
          have f1 : P.fits .get GD = true := rfl
          have f2 : P.fits .get (dctOf (rowK q)) = true := rfl
          refine ⟨[.val GD, .val (.int q), .val (.int k)], by simp, rfl, ?_⟩
          simp [e1, e2, f1, f2, -ap_e52]
      have em : (rangeD 0 12).map (fun d : D => match d with | .int k => D.int (valK (rowK q) k) | d => d) = ((List.range 12).map fun k : Nat => valK (rowK q) k).map .int := by
        rw [rangeD_map, List.map_map, List.map_map]
        refine List.map_congr_left fun i _ => ?_
        simp
      rw [em] at hc2
      refine ⟨[.val GD, .val (.int q), .none], by simp, rfl, ?_⟩
      simp only [ev_prim, evs_comp, hc2, bind_ok, evs_nil, ap_e34, ofOpt_some]
      rfl
  have em : (rangeD 0 10).map (fun d : D => match d with | .int t => iT ((List.range 12).map fun k : Nat => valK (rowK t.toNat) k) | d => d) = gT.map iT := by
    unfold gT
    rw [rangeD_map, List.map_map, List.map_map]
    refine List.map_congr_left fun i _ => ?_
    simp
  rw [em] at hc
  have p0 : runs (TB fns n) (d33.body.take 1) ⟨[.none, .none, .none], g⟩ = .nx ⟨[.val GD, .none, .none], g⟩ := by
    simp [d33, GD, dctOf, rowK]
  have p1 : runs (TB fns n) (d33.body.drop 1) ⟨[.val GD, .none, .none], g⟩ = .ret (tlD gT) ⟨[.val GD, .none, .none], g⟩ := by
    have hs : d33.body.drop 1 = [.ret (.prim .tuple [(.comp (.prim .tuple [(.comp (.mth .get (.mth .get (.var 0) [(.var 1), (.dic [] [])]) [(.var 2), (.kint 0)]) (.nm 2) .rng [(.kint 12)] [] [2])]) (.nm 1) .rng [(.kint 10)] [] [1])])] := rfl
    rw [hs, runs_cons, run_ret]
    simp only [ev_prim, evs_comp, hc, bind_ok, evs_nil, ap_e34, ofOpt_some, onE_ok]
    rfl
  have body : d33.body = d33.body.take 1 ++ d33.body.drop 1 := rfl
  have ps : d33.ps.length = 0 := rfl
  have ns : d33.N.length = 3 := rfl
  rw [mir1 (TB fns n) d33 [] g ps.symm, ps, ns, body, runs_app]
  show cutG g.length (match runs (TB fns n) (d33.body.take 1) ⟨[.none, .none, .none], g⟩ with | .nx s => runs (TB fns n) (d33.body.drop 1) s | r => r) = _
  rw [p0]
  simp only [p1, cutG, take_g]
/-! ### checking books by computing -/
def okB (x : Nm) : Bool := decide (1 ≤ x.length) && decide (x.length ≤ 8) && x.all lowC
theorem okB_ok {x : Nm} (h : okB x = true) : okNm x := by
  simp only [okB, Bool.and_eq_true, decide_eq_true_eq] at h
  exact ⟨h.1.1, h.1.2, h.2⟩
def goodB (b : Bk) : Bool :=
  decide b.ns.Nodup && b.ps.all (fun p => okB p.1 && decide (p.1 ≠ wO) && decide (p.2.1.natAbs ≤ 100) && decide (p.2.2.natAbs ≤ 100)) &&
  b.cs.all (fun c => (decide (c.1 = wO) || decide (c.1 ∈ b.ns)) && (decide (c.2.1 = wO) || decide (c.2.1 ∈ b.ns)) && decide (c.2.2.natAbs ≤ 100)) &&
  b.rs.all (fun r => match r with | .mv a c m => okB a && okB c && decide (m.natAbs ≤ 100) | .ct a m => decide (a ∈ b.ns) && decide (m.natAbs ≤ 100)) &&
  decide (b.ps.length ≤ 10) && decide (b.cs.length ≤ 20) && decide (b.rs.length ≤ 50) && decide ((b.sl.getD 0).natAbs ≤ 100)
theorem goodB_ok {b : Bk} (h : goodB b = true) : WB b ∧ SB b := by
  simp only [goodB, Bool.and_eq_true, decide_eq_true_eq, List.all_eq_true, Bool.or_eq_true] at h
  obtain ⟨⟨⟨⟨⟨⟨⟨h1, h2⟩, h3⟩, h4⟩, h5⟩, h6⟩, h7⟩, h8⟩ := h
  refine ⟨⟨h1, fun p hp => ⟨okB_ok (h2 p hp).1.1.1, (h2 p hp).1.1.2⟩, fun c hc => ⟨(h3 c hc).1.1, (h3 c hc).1.2⟩, fun a n hr => ?_, h5, h6, h7⟩, ⟨fun p hp => ⟨(h2 p hp).1.2, (h2 p hp).2⟩, fun c hc => (h3 c hc).2, fun n hn => ?_, fun a c m hr => ?_, fun a m hr => ?_⟩⟩
  · have := h4 _ hr
    simp only [Bool.and_eq_true, decide_eq_true_eq] at this
    exact this.1
  · rw [hn] at h8
    exact h8
  · have := h4 _ hr
    simp only [Bool.and_eq_true, decide_eq_true_eq] at this
    exact ⟨okB_ok this.1.1, okB_ok this.1.2, this.2⟩
  · have := h4 _ hr
    simp only [Bool.and_eq_true, decide_eq_true_eq] at this
    exact this.2
def wSt : Nm := [115, 116, 111, 114, 101]
def wZ : Nm := [122, 122]
def bE : Bk := ⟨[(wA, 1, 2), (wB', 0, 3)], [(wA, wB', 2)], none, []⟩
def bDoc : Bk := ⟨[(wS, 3, 9), (wSt, 8, 20)], [(wS, wO, 2), (wSt, wO, 3), (wSt, wS, 1)], some 4, [.mv wSt wS 2, .ct wS 3, .mv wS wO 1, .ct wSt 5]⟩
def bG : Bk := ⟨[(wA, 20, 20), (wB', 0, 12), (wS, 5, 20), (wZ, 7, 9)], [(wA, wB', 1), (wA, wO, 9), (wA, wS, 2), (wB', wA, 3), (wB', wS, 1), (wB', wZ, 4), (wO, wA, 7), (wO, wZ, 5), (wS, wA, 6), (wS, wZ, 2), (wZ, wB', 3), (wZ, wO, 8)], some 2,
  [.mv wA wB' 10, .ct wA 4, .mv wB' wS 12, .ct wS 20, .mv wS wO 9, .mv wS wZ 2, .ct wZ 0, .mv wO wA 15, .ct wA 20, .ct wB' 1]⟩
theorem s31 (n : Nat) (g : List Gd) : TB fns (n + 1) 31 [] g = .ret (bD bE) g := by
  rw [t n 31 d31 rfl]
  simp [mirror, d31, cutG, bE, bD, pD, cD, slD, bigE]
theorem s18 (n : Nat) (g : List Gd) : TB fns (n + 1) 18 [] g = .ret (bD bDoc) g := by
  rw [t n 18 d18 rfl]
  simp [mirror, d18, cutG, bDoc, bD, pD, cD, slD, rD, bigE, wSt, wM, wC]
theorem s32 (n : Nat) (g : List Gd) : TB fns (n + 1) 32 [.val (.int 2)] g = .ret (bD bG) g := by
  rw [t n 32 d32 rfl]
  simp [mirror, d32, cutG, bG, bD, pD, cD, slD, rD, bigE, wZ, wM, wC]
def tDoc : List (List Int) := [[0, 0, 0], [2, 0, 0], [0, 0, 1], [0, 0, 0]]
theorem suB {b : Bk} {ts : List (List Int)} (h : (decide (ts.length = b.rs.length) && ts.all fun us => decide (us.length ≤ 20) && us.all fun u => decide (u.natAbs ≤ 100)) = true) : SU b ts := by
  simp only [Bool.and_eq_true, decide_eq_true_eq, List.all_eq_true] at h
  exact ⟨h.1, fun us hu => ⟨(h.2 us hu).1, (h.2 us hu).2⟩⟩
theorem aE (n : Nat) (g : List Gd) : TB fns (n + 8) 35 [.val (bD bE), .val (tlD [])] g = .ret (.bl true) g := by
  obtain ⟨w, s⟩ := goodB_ok (b := bE) (by decide +kernel)
  exact s35' n bE w s [] (suB (by decide +kernel)) g
theorem aDoc (n : Nat) (g : List Gd) : TB fns (n + 8) 35 [.val (bD bDoc), .val (tlD tDoc)] g = .ret (.bl true) g := by
  obtain ⟨w, s⟩ := goodB_ok (b := bDoc) (by decide +kernel)
  exact s35' n bDoc w s tDoc (suB (by decide +kernel)) g
theorem aG (n : Nat) (g : List Gd) : TB fns (n + 8) 35 [.val (bD bG), .val (tlD gT)] g = .ret (.bl true) g := by
  obtain ⟨w, s⟩ := goodB_ok (b := bG) (by decide +kernel)
  exact s35' n bG w s gT (suB (by decide +kernel)) g
end K17
end Rf

set_option Elab.async false
set_option linter.all false
set_option maxRecDepth 100000
set_option maxHeartbeats 4000000
namespace Rf
open PySem PySem.Spec PyProof.Rows L2
theorem cut63 {α : Type} (xs : List α) (h : xs.length ≤ 63) : cutL xs none (some 63) = xs := by
  have e1 : HT.sIx xs.length 0 none = 0 := rfl
  have e2 : HT.sIx xs.length xs.length (some 63) = xs.length := by
    unfold HT.sIx
    simp only
    rw [if_neg (by decide)]
    omega
  unfold cutL
  rw [e1, e2]
  simp
namespace K17
theorem s13 (n : Nat) (ns : List Int) (h : ns.length ≤ 63) : TB fns (n + 1) 13 [.val (.lst (ns.map .int))] [] = .retG (fdOf ns 0 0 0) [] := by
  rw [t n 13 d13 rfl]
  have c := cut63 (ns.map D.int) (by simpa using h)
  have nd : [(.inr "cells" : Key), .inr "at", .inr "left", .inr "count"].Nodup := by decide +kernel
  simp [mirror, d13, cutG, cutD, c, nd, fdOf] at nd ⊢
def lS (sc : D) (s2 s3 s4 : Slot) : List Slot := [.val sc, .glb 0, s2, s3, s4]
def bdL : List S := [.set (.nm 4) (.call 17 [(.gv 1), (.prim .add [(.kint 2), (.call 14 [(.gv 1), (.kint 3)])]), (.kint 3), (.kint 5)]), .set (.nm 2) (.call 30 [(.gv 1), (.var 4)]), .ifS (.and (.prim .eq [(.prim .ix [(.call 29 [(.var 4), (.var 2)]), (.kint 0)]), (.kstr [116, 111, 108, 100])]) (.not (.call 35 [(.var 4), (.var 2)]))) [.ret (.kbl false)] []]
theorem lap (n : Nat) (sc : D) {f : Gd} (hf : Fd f) (s2 s3 s4 : Slot) : ∃ s2' s4' f', Fd f' ∧ runs (TB fns (n + 8)) bdL ⟨lS sc s2 s3 s4, [f]⟩ = .nx ⟨lS sc s2' s3 s4', [f']⟩ := by
  obtain ⟨c, f1, c1, c2, hf1, ec⟩ := pv (n + 7) (g := [[]]) (j := 0) (f := f) (many := 3) (by simp) hf (by decide) (by decide)
  obtain ⟨b, f2, w, s, lb, hf2, eb⟩ := s17 (n + 4) (g := [[]]) (j := 0) (f := f1) (by simp) hf1 (cnt := 2 + c) (by omega) (by omega)
  obtain ⟨ts, f3, t1, t2, hf3, et⟩ := s30 (n + 4) w s (g := [[]]) (j := 0) (f := f2) (by simp) hf2
  obtain ⟨x, r, e29⟩ := s29 (n + 3) w s t1 (fun us h => ⟨(t2 us h).1, fun u hu => ((t2 us h).2 u hu).1⟩) [f3]
  have zc := w.zc
  have su : SU b ts := ⟨t1, fun us h => ⟨by have := (t2 us h).1; omega, fun u hu => by have := (t2 us h).2 u hu; omega⟩⟩
  have e35 := s35' n b w s ts su [f3]
  simp only [List.set_cons_zero] at ec eb et
  refine ⟨.val (tlD ts), .val (bD b), f3, hf3, ?_⟩
  by_cases z : x = [116, 111, 108, 100]
  · simp [bdL, lS, ec, eb, et, e29, e35, eqD_str, z, truth]
  · simp [bdL, lS, ec, eb, et, e29, e35, eqD_str, z, truth]
theorem laps (n : Nat) (sc : D) : ∀ (m : Nat) (k : Int) (f : Gd) (s2 s3 s4 : Slot), Fd f → ∃ s2' s3' s4' f', Fd f' ∧ loopS (bindP (.nm 3)) (runs (TB fns (n + 8)) bdL) (rangeD k m) ⟨lS sc s2 s3 s4, [f]⟩ = .nx ⟨lS sc s2' s3' s4', [f']⟩
  | 0, k, f, s2, s3, s4, hf => ⟨s2, s3, s4, f, hf, rfl⟩
  | m + 1, k, f, s2, s3, s4, hf => by
    obtain ⟨t2, t4, f1, hf1, e⟩ := lap n sc hf s2 (.val (.int k)) s4
    obtain ⟨u2, u3, u4, f2, hf2, e'⟩ := laps n sc m (k + 1) f1 t2 (.val (.int k)) t4 hf1
    refine ⟨u2, u3, u4, f2, hf2, ?_⟩
    have hb : bindP (.nm 3) (.int k) (lS sc s2 s3 s4) = some (lS sc s2 (.val (.int k)) s4) := by simp [lS]
    simp only [rangeD, loopS, hb, e, e']
theorem lp0 (T : Tbl) {sc : D} {f0 : Gd} (e : T 13 [.val sc] [] = .retG f0 []) : runs T (d36.body.take 2) ⟨[.val sc, .none, .none, .none, .none], []⟩ = .nx ⟨lS sc (.val (tlD tDoc)) .none .none, [f0]⟩ := by
  have td : D.tup [.tup [.int 0, .int 0, .int 0], .tup [.int 2, .int 0, .int 0], .tup [.int 0, .int 0, .int 1], .tup [.int 0, .int 0, .int 0]] = tlD tDoc := rfl
  rw [← td]
  simp [d36, e, lS, bigE]
theorem lp1 (T : Tbl) {sc D1 D2 D3 : D} {f0 : Gd} (e1 : T 31 [] [f0] = .ret D1 [f0]) (e2 : T 18 [] [f0] = .ret D2 [f0]) (a1 : T 35 [.val D1, .val (.tup [])] [f0] = .ret (.bl true) [f0]) (a2 : T 35 [.val D2, .val D3] [f0] = .ret (.bl true) [f0]) : runs T ((d36.body.drop 2).take 1) ⟨lS sc (.val D3) .none .none, [f0]⟩ = .nx ⟨lS sc (.val D3) .none .none, [f0]⟩ := by
  simp [d36, lS, e1, e2, a1, a2, truth, bigE]
theorem lp2 (T : Tbl) {sc D3 bg tg : D} {f0 f1 : Gd} {q : Bool} {c : Int} (cn : eqD sc (.lst []) = some q) (ec : T 14 [.glb 0, .val (.int 8)] [f0] = .ret (.int c) [f1]) (e1 : T 32 [.val (.int 2)] [f1] = .ret bg [f1]) (e2 : T 33 [] [f1] = .ret tg [f1]) (a : T 35 [.val bg, .val tg] [f1] = .ret (.bl true) [f1]) : ∃ f2, (f2 = f0 ∨ f2 = f1) ∧ runs T ((d36.body.drop 3).take 1) ⟨lS sc (.val D3) .none .none, [f0]⟩ = .nx ⟨lS sc (.val D3) .none .none, [f2]⟩ := by
  cases q with
  | true => exact ⟨f0, .inl rfl, by simp [d36, lS, cn, truth, bigE]⟩
  | false =>
    by_cases cz : c = 0
    · exact ⟨f1, .inr rfl, by simp [d36, lS, cn, ec, cz, eqD_int, e1, e2, a, truth, bigE]⟩
    · exact ⟨f1, .inr rfl, by simp [d36, lS, cn, ec, cz, eqD_int, truth, bigE]⟩
theorem lp3 (T : Tbl) {sc : D} {S2 s2 s3 s4 : Slot} {f2 f3 : Gd} (el : loopS (bindP (.nm 3)) (runs T bdL) (rangeD 0 2) ⟨lS sc S2 .none .none, [f2]⟩ = .nx ⟨lS sc s2 s3 s4, [f3]⟩) : runs T ((d36.body.drop 4).take 1) ⟨lS sc S2 .none .none, [f2]⟩ = .nx ⟨lS sc s2 s3 s4, [f3]⟩ := by
  have hs : (d36.body.drop 4).take 1 = [.forS (.nm 3) .rng [(.kint 2)] bdL] := rfl
  have rg : ItK.rng.get [.int 2] = some (rangeD 0 2) := rng_get (n := 2) (by omega)
  have ee : evs T [(.kint 2)] ⟨lS sc S2 .none .none, [f2]⟩ = .ok [.int 2] ⟨lS sc S2 .none .none, [f2]⟩ := by simp
  rw [hs, runs_cons, for_eq ee rg, el]
  simp only [runs_nil]
theorem lp4 (T : Tbl) (st : Sx) : runs T (d36.body.drop 5) st = .ret (.bl true) st := by
  simp [d36]
theorem lpA (T : Tbl) {sc : D} {st1 st2 st3 st4 : Sx} (p0 : runs T (d36.body.take 2) ⟨[.val sc, .none, .none, .none, .none], []⟩ = .nx st1) (p1 : runs T ((d36.body.drop 2).take 1) st1 = .nx st2) (p2 : runs T ((d36.body.drop 3).take 1) st2 = .nx st3) (p3 : runs T ((d36.body.drop 4).take 1) st3 = .nx st4) : mirror T d36 [.val sc] [] = .ret (.bl true) [] := by
  have body : d36.body = d36.body.take 2 ++ ((d36.body.drop 2).take 1 ++ ((d36.body.drop 3).take 1 ++ ((d36.body.drop 4).take 1 ++ d36.body.drop 5))) := rfl
  have ps : d36.ps.length = 1 := rfl
  have ls : d36.N.length = 5 := rfl
  have e0 : [Slot.val sc] ++ List.replicate (5 - 1) Slot.none = [.val sc, .none, .none, .none, .none] := rfl
  have p4 := lp4 T st4
  rw [mir1 T d36 [.val sc] [] ps.symm, ps, ls, e0, body, runs_app, p0]
  simp only
  rw [runs_app, p1]
  simp only
  rw [runs_app, p2]
  simp only
  rw [runs_app, p3]
  simp only [p4, cutG, List.length_nil, List.take_zero]
theorem lawN (n : Nat) (ns : List Int) (h : ns.length ≤ 63) : TB fns (n + 9) 36 [.val (.lst (ns.map .int))] [] = .ret (.bl true) [] := by
  rw [t (n + 8) 36 d36 rfl]
  have e13 := s13 (n + 7) ns h
  have fd : Fd (fdOf ns 0 0 0) := ⟨ns, 0, 0, 0, rfl, by decide⟩
  generalize fdOf ns 0 0 0 = f0 at e13 fd
  obtain ⟨c, f1, c1, c2, hf1, ec⟩ := pv (n + 7) (g := [[]]) (j := 0) (f := f0) (many := 8) (by simp) fd (by decide) (by decide)
  simp only [List.set_cons_zero] at ec
  have cn := cells_ne ns
  have te : D.tup [] = tlD [] := rfl
  have a1 := aE n [f0]
  rw [← te] at a1
  obtain ⟨f2, hf2, p2⟩ := lp2 (TB fns (n + 8)) (D3 := tlD tDoc) cn ec (s32 (n + 7) [f1]) (s33 (n + 7) [f1]) (aG n [f1])
  have hf2' : Fd f2 := by rcases hf2 with rfl | rfl <;> assumption
  obtain ⟨s2, s3, s4, f3, hf3, el⟩ := laps n (.lst (ns.map .int)) 2 0 f2 (.val (tlD tDoc)) .none .none hf2'
  exact lpA (TB fns (n + 8)) (lp0 _ e13) (lp1 _ (s31 (n + 7) [f0]) (s18 (n + 7) [f0]) a1 (aDoc n [f0])) p2 (lp3 _ el)
theorem law_true (ns : List Int) (h : ns.length ≤ 63) : TB fns 20 36 [.val (.lst (ns.map .int))] [] = .ret (.bl true) [] := lawN 11 ns h
end K17
end Rf

namespace Rf.K17
open PySem PySem.Spec PyProof.Rows L2

theorem made_mk {K : PySem.W.Frag} {h : Heap} {mg : Str → Option Value} (X : K.In h) (G : h.Ns mainGlobals mg) {C : Cfg} {d : Def} {x : Str} {st : Stmt} {f : Addr} {od an : Option Addr} {sl : Array (Option Value)} {oc kV dc pm cd ct : Value} (hx : d.x = x)
    (a : PySem.W.nsIn K mainGlobals x = some (some (.ref f))) (l : K.lookup f = some ⟨oc, od, .func (PySem.W.fnOf x x (defArgs st) (defBody st) (defScope st) .none kV dc pm an cd ct), sl⟩) (c : PySem.W.codeIn K cd x = true) (k : PySem.W.keepIn K (.ref f) = true) (hb : defB C d st = true) : Made K mg C d := by
  subst hx
  exact ⟨st, f, _, fun_mk l c k, hb, PySem.W.mg_of X G a⟩

theorem all_facts {K : PySem.W.Frag} {h : Heap} {mg : Str → Option Value} (X : K.In h) (G : h.Ns mainGlobals mg)
    {f0 : Addr} {od0 an0 : Option Addr} {sl0 : Array (Option Value)} {oc0 kV0 dc0 pm0 cd0 ct0 : Value}
    {f1 : Addr} {od1 an1 : Option Addr} {sl1 : Array (Option Value)} {oc1 kV1 dc1 pm1 cd1 ct1 : Value}
    {f2 : Addr} {od2 an2 : Option Addr} {sl2 : Array (Option Value)} {oc2 kV2 dc2 pm2 cd2 ct2 : Value}
    {f3 : Addr} {od3 an3 : Option Addr} {sl3 : Array (Option Value)} {oc3 kV3 dc3 pm3 cd3 ct3 : Value}
    {f4 : Addr} {od4 an4 : Option Addr} {sl4 : Array (Option Value)} {oc4 kV4 dc4 pm4 cd4 ct4 : Value}
    {f5 : Addr} {od5 an5 : Option Addr} {sl5 : Array (Option Value)} {oc5 kV5 dc5 pm5 cd5 ct5 : Value}
    {f6 : Addr} {od6 an6 : Option Addr} {sl6 : Array (Option Value)} {oc6 kV6 dc6 pm6 cd6 ct6 : Value}
    {f7 : Addr} {od7 an7 : Option Addr} {sl7 : Array (Option Value)} {oc7 kV7 dc7 pm7 cd7 ct7 : Value}
    {f8 : Addr} {od8 an8 : Option Addr} {sl8 : Array (Option Value)} {oc8 kV8 dc8 pm8 cd8 ct8 : Value}
    {f9 : Addr} {od9 an9 : Option Addr} {sl9 : Array (Option Value)} {oc9 kV9 dc9 pm9 cd9 ct9 : Value}
    {f10 : Addr} {od10 an10 : Option Addr} {sl10 : Array (Option Value)} {oc10 kV10 dc10 pm10 cd10 ct10 : Value}
    {f11 : Addr} {od11 an11 : Option Addr} {sl11 : Array (Option Value)} {oc11 kV11 dc11 pm11 cd11 ct11 : Value}
    {f12 : Addr} {od12 an12 : Option Addr} {sl12 : Array (Option Value)} {oc12 kV12 dc12 pm12 cd12 ct12 : Value}
    {f13 : Addr} {od13 an13 : Option Addr} {sl13 : Array (Option Value)} {oc13 kV13 dc13 pm13 cd13 ct13 : Value}
    {f14 : Addr} {od14 an14 : Option Addr} {sl14 : Array (Option Value)} {oc14 kV14 dc14 pm14 cd14 ct14 : Value}
    {f15 : Addr} {od15 an15 : Option Addr} {sl15 : Array (Option Value)} {oc15 kV15 dc15 pm15 cd15 ct15 : Value}
    {f16 : Addr} {od16 an16 : Option Addr} {sl16 : Array (Option Value)} {oc16 kV16 dc16 pm16 cd16 ct16 : Value}
    {f17 : Addr} {od17 an17 : Option Addr} {sl17 : Array (Option Value)} {oc17 kV17 dc17 pm17 cd17 ct17 : Value}
    {f18 : Addr} {od18 an18 : Option Addr} {sl18 : Array (Option Value)} {oc18 kV18 dc18 pm18 cd18 ct18 : Value}
    {f19 : Addr} {od19 an19 : Option Addr} {sl19 : Array (Option Value)} {oc19 kV19 dc19 pm19 cd19 ct19 : Value}
    {f20 : Addr} {od20 an20 : Option Addr} {sl20 : Array (Option Value)} {oc20 kV20 dc20 pm20 cd20 ct20 : Value}
    {f21 : Addr} {od21 an21 : Option Addr} {sl21 : Array (Option Value)} {oc21 kV21 dc21 pm21 cd21 ct21 : Value}
    {f22 : Addr} {od22 an22 : Option Addr} {sl22 : Array (Option Value)} {oc22 kV22 dc22 pm22 cd22 ct22 : Value}
    {f23 : Addr} {od23 an23 : Option Addr} {sl23 : Array (Option Value)} {oc23 kV23 dc23 pm23 cd23 ct23 : Value}
    {f24 : Addr} {od24 an24 : Option Addr} {sl24 : Array (Option Value)} {oc24 kV24 dc24 pm24 cd24 ct24 : Value}
    {f25 : Addr} {od25 an25 : Option Addr} {sl25 : Array (Option Value)} {oc25 kV25 dc25 pm25 cd25 ct25 : Value}
    {f26 : Addr} {od26 an26 : Option Addr} {sl26 : Array (Option Value)} {oc26 kV26 dc26 pm26 cd26 ct26 : Value}
    {f27 : Addr} {od27 an27 : Option Addr} {sl27 : Array (Option Value)} {oc27 kV27 dc27 pm27 cd27 ct27 : Value}
    {f28 : Addr} {od28 an28 : Option Addr} {sl28 : Array (Option Value)} {oc28 kV28 dc28 pm28 cd28 ct28 : Value}
    {f29 : Addr} {od29 an29 : Option Addr} {sl29 : Array (Option Value)} {oc29 kV29 dc29 pm29 cd29 ct29 : Value}
    {f30 : Addr} {od30 an30 : Option Addr} {sl30 : Array (Option Value)} {oc30 kV30 dc30 pm30 cd30 ct30 : Value}
    {f31 : Addr} {od31 an31 : Option Addr} {sl31 : Array (Option Value)} {oc31 kV31 dc31 pm31 cd31 ct31 : Value}
    {f32 : Addr} {od32 an32 : Option Addr} {sl32 : Array (Option Value)} {oc32 kV32 dc32 pm32 cd32 ct32 : Value}
    {f33 : Addr} {od33 an33 : Option Addr} {sl33 : Array (Option Value)} {oc33 kV33 dc33 pm33 cd33 ct33 : Value}
    {f34 : Addr} {od34 an34 : Option Addr} {sl34 : Array (Option Value)} {oc34 kV34 dc34 pm34 cd34 ct34 : Value}
    {f35 : Addr} {od35 an35 : Option Addr} {sl35 : Array (Option Value)} {oc35 kV35 dc35 pm35 cd35 ct35 : Value}
    {f36 : Addr} {od36 an36 : Option Addr} {sl36 : Array (Option Value)} {oc36 kV36 dc36 pm36 cd36 ct36 : Value}
    {t0 : Tok} {t1 : Tok} {t2 : Tok} {t3 : Tok}
    (a0 : PySem.W.nsIn K mainGlobals "is_integer" = some (some (.ref f0))) (l0 : K.lookup f0 = some ⟨oc0, od0, .func (PySem.W.fnOf "is_integer" "is_integer" (defArgs (top 7)) (defBody (top 7)) (defScope (top 7)) .none kV0 dc0 pm0 an0 cd0 ct0), sl0⟩) (c0 : PySem.W.codeIn K cd0 "is_integer" = true) (k0 : PySem.W.keepIn K (.ref f0) = true)
    (a1 : PySem.W.nsIn K mainGlobals "is_number" = some (some (.ref f1))) (l1 : K.lookup f1 = some ⟨oc1, od1, .func (PySem.W.fnOf "is_number" "is_number" (defArgs (top 8)) (defBody (top 8)) (defScope (top 8)) .none kV1 dc1 pm1 an1 cd1 ct1), sl1⟩) (c1 : PySem.W.codeIn K cd1 "is_number" = true) (k1 : PySem.W.keepIn K (.ref f1) = true)
    (a2 : PySem.W.nsIn K mainGlobals "is_name" = some (some (.ref f2))) (l2 : K.lookup f2 = some ⟨oc2, od2, .func (PySem.W.fnOf "is_name" "is_name" (defArgs (top 9)) (defBody (top 9)) (defScope (top 9)) .none kV2 dc2 pm2 an2 cd2 ct2), sl2⟩) (c2 : PySem.W.codeIn K cd2 "is_name" = true) (k2 : PySem.W.keepIn K (.ref f2) = true)
    (a3 : PySem.W.nsIn K mainGlobals "require_place" = some (some (.ref f3))) (l3 : K.lookup f3 = some ⟨oc3, od3, .func (PySem.W.fnOf "require_place" "require_place" (defArgs (top 11)) (defBody (top 11)) (defScope (top 11)) .none kV3 dc3 pm3 an3 cd3 ct3), sl3⟩) (c3 : PySem.W.codeIn K cd3 "require_place" = true) (k3 : PySem.W.keepIn K (.ref f3) = true)
    (a4 : PySem.W.nsIn K mainGlobals "require_row" = some (some (.ref f4))) (l4 : K.lookup f4 = some ⟨oc4, od4, .func (PySem.W.fnOf "require_row" "require_row" (defArgs (top 12)) (defBody (top 12)) (defScope (top 12)) .none kV4 dc4 pm4 an4 cd4 ct4), sl4⟩) (c4 : PySem.W.codeIn K cd4 "require_row" = true) (k4 : PySem.W.keepIn K (.ref f4) = true)
    (a5 : PySem.W.nsIn K mainGlobals "row_change" = some (some (.ref f5))) (l5 : K.lookup f5 = some ⟨oc5, od5, .func (PySem.W.fnOf "row_change" "row_change" (defArgs (top 13)) (defBody (top 13)) (defScope (top 13)) .none kV5 dc5 pm5 an5 cd5 ct5), sl5⟩) (c5 : PySem.W.codeIn K cd5 "row_change" = true) (k5 : PySem.W.keepIn K (.ref f5) = true)
    (a6 : PySem.W.nsIn K mainGlobals "change_of" = some (some (.ref f6))) (l6 : K.lookup f6 = some ⟨oc6, od6, .func (PySem.W.fnOf "change_of" "change_of" (defArgs (top 14)) (defBody (top 14)) (defScope (top 14)) .none kV6 dc6 pm6 an6 cd6 ct6), sl6⟩) (c6 : PySem.W.codeIn K cd6 "change_of" = true) (k6 : PySem.W.keepIn K (.ref f6) = true)
    (a7 : PySem.W.nsIn K mainGlobals "moved_levels" = some (some (.ref f7))) (l7 : K.lookup f7 = some ⟨oc7, od7, .func (PySem.W.fnOf "moved_levels" "moved_levels" (defArgs (top 18)) (defBody (top 18)) (defScope (top 18)) .none kV7 dc7 pm7 an7 cd7 ct7), sl7⟩) (c7 : PySem.W.codeIn K cd7 "moved_levels" = true) (k7 : PySem.W.keepIn K (.ref f7) = true)
    (a8 : PySem.W.nsIn K mainGlobals "booked_levels" = some (some (.ref f8))) (l8 : K.lookup f8 = some ⟨oc8, od8, .func (PySem.W.fnOf "booked_levels" "booked_levels" (defArgs (top 19)) (defBody (top 19)) (defScope (top 19)) .none kV8 dc8 pm8 an8 cd8 ct8), sl8⟩) (c8 : PySem.W.codeIn K cd8 "booked_levels" = true) (k8 : PySem.W.keepIn K (.ref f8) = true)
    (a9 : PySem.W.nsIn K mainGlobals "stocks_of" = some (some (.ref f9))) (l9 : K.lookup f9 = some ⟨oc9, od9, .func (PySem.W.fnOf "stocks_of" "stocks_of" (defArgs (top 20)) (defBody (top 20)) (defScope (top 20)) .none kV9 dc9 pm9 an9 cd9 ct9), sl9⟩) (c9 : PySem.W.codeIn K cd9 "stocks_of" = true) (k9 : PySem.W.keepIn K (.ref f9) = true)
    (a10 : PySem.W.nsIn K mainGlobals "levels_of" = some (some (.ref f10))) (l10 : K.lookup f10 = some ⟨oc10, od10, .func (PySem.W.fnOf "levels_of" "levels_of" (defArgs (top 21)) (defBody (top 21)) (defScope (top 21)) .none kV10 dc10 pm10 an10 cd10 ct10), sl10⟩) (c10 : PySem.W.codeIn K cd10 "levels_of" = true) (k10 : PySem.W.keepIn K (.ref f10) = true)
    (a11 : PySem.W.nsIn K mainGlobals "slips_of" = some (some (.ref f11))) (l11 : K.lookup f11 = some ⟨oc11, od11, .func (PySem.W.fnOf "slips_of" "slips_of" (defArgs (top 22)) (defBody (top 22)) (defScope (top 22)) .none kV11 dc11 pm11 an11 cd11 ct11), sl11⟩) (c11 : PySem.W.codeIn K cd11 "slips_of" = true) (k11 : PySem.W.keepIn K (.ref f11) = true)
    (a12 : PySem.W.nsIn K mainGlobals "missing_of" = some (some (.ref f12))) (l12 : K.lookup f12 = some ⟨oc12, od12, .func (PySem.W.fnOf "missing_of" "missing_of" (defArgs (top 23)) (defBody (top 23)) (defScope (top 23)) .none kV12 dc12 pm12 an12 cd12 ct12), sl12⟩) (c12 : PySem.W.codeIn K cd12 "missing_of" = true) (k12 : PySem.W.keepIn K (.ref f12) = true)
    (a13 : PySem.W.nsIn K mainGlobals "_law_feed" = some (some (.ref f13))) (l13 : K.lookup f13 = some ⟨oc13, od13, .func (PySem.W.fnOf "_law_feed" "_law_feed" (defArgs (top 25)) (defBody (top 25)) (defScope (top 25)) .none kV13 dc13 pm13 an13 cd13 ct13), sl13⟩) (c13 : PySem.W.codeIn K cd13 "_law_feed" = true) (k13 : PySem.W.keepIn K (.ref f13) = true)
    (a14 : PySem.W.nsIn K mainGlobals "_law_draw" = some (some (.ref f14))) (l14 : K.lookup f14 = some ⟨oc14, od14, .func (PySem.W.fnOf "_law_draw" "_law_draw" (defArgs (top 26)) (defBody (top 26)) (defScope (top 26)) .none kV14 dc14 pm14 an14 cd14 ct14), sl14⟩) (c14 : PySem.W.codeIn K cd14 "_law_draw" = true) (k14 : PySem.W.keepIn K (.ref f14) = true)
    (a15 : PySem.W.nsIn K mainGlobals "_law_any" = some (some (.ref f15))) (l15 : K.lookup f15 = some ⟨oc15, od15, .func (PySem.W.fnOf "_law_any" "_law_any" (defArgs (top 27)) (defBody (top 27)) (defScope (top 27)) .none kV15 dc15 pm15 an15 cd15 ct15), sl15⟩) (c15 : PySem.W.codeIn K cd15 "_law_any" = true) (k15 : PySem.W.keepIn K (.ref f15) = true)
    (a16 : PySem.W.nsIn K mainGlobals "_law_row" = some (some (.ref f16))) (l16 : K.lookup f16 = some ⟨oc16, od16, .func (PySem.W.fnOf "_law_row" "_law_row" (defArgs (top 28)) (defBody (top 28)) (defScope (top 28)) .none kV16 dc16 pm16 an16 cd16 ct16), sl16⟩) (c16 : PySem.W.codeIn K cd16 "_law_row" = true) (k16 : PySem.W.keepIn K (.ref f16) = true)
    (a17 : PySem.W.nsIn K mainGlobals "_law_book" = some (some (.ref f17))) (l17 : K.lookup f17 = some ⟨oc17, od17, .func (PySem.W.fnOf "_law_book" "_law_book" (defArgs (top 29)) (defBody (top 29)) (defScope (top 29)) .none kV17 dc17 pm17 an17 cd17 ct17), sl17⟩) (c17 : PySem.W.codeIn K cd17 "_law_book" = true) (k17 : PySem.W.keepIn K (.ref f17) = true)
    (a18 : PySem.W.nsIn K mainGlobals "_law_document" = some (some (.ref f18))) (l18 : K.lookup f18 = some ⟨oc18, od18, .func (PySem.W.fnOf "_law_document" "_law_document" (defArgs (top 30)) (defBody (top 30)) (defScope (top 30)) .none kV18 dc18 pm18 an18 cd18 ct18), sl18⟩) (c18 : PySem.W.codeIn K cd18 "_law_document" = true) (k18 : PySem.W.keepIn K (.ref f18) = true)
    (a19 : PySem.W.nsIn K mainGlobals "_law_raise" = some (some (.ref f19))) (l19 : K.lookup f19 = some ⟨oc19, od19, .func (PySem.W.fnOf "_law_raise" "_law_raise" (defArgs (top 31)) (defBody (top 31)) (defScope (top 31)) .none kV19 dc19 pm19 an19 cd19 ct19), sl19⟩) (c19 : PySem.W.codeIn K cd19 "_law_raise" = true) (k19 : PySem.W.keepIn K (.ref f19) = true)
    (a20 : PySem.W.nsIn K mainGlobals "_law_lets" = some (some (.ref f20))) (l20 : K.lookup f20 = some ⟨oc20, od20, .func (PySem.W.fnOf "_law_lets" "_law_lets" (defArgs (top 32)) (defBody (top 32)) (defScope (top 32)) .none kV20 dc20 pm20 an20 cd20 ct20), sl20⟩) (c20 : PySem.W.codeIn K cd20 "_law_lets" = true) (k20 : PySem.W.keepIn K (.ref f20) = true)
    (a21 : PySem.W.nsIn K mainGlobals "_law_moved" = some (some (.ref f21))) (l21 : K.lookup f21 = some ⟨oc21, od21, .func (PySem.W.fnOf "_law_moved" "_law_moved" (defArgs (top 33)) (defBody (top 33)) (defScope (top 33)) .none kV21 dc21 pm21 an21 cd21 ct21), sl21⟩) (c21 : PySem.W.codeIn K cd21 "_law_moved" = true) (k21 : PySem.W.keepIn K (.ref f21) = true)
    (a22 : PySem.W.nsIn K mainGlobals "_law_done" = some (some (.ref f22))) (l22 : K.lookup f22 = some ⟨oc22, od22, .func (PySem.W.fnOf "_law_done" "_law_done" (defArgs (top 34)) (defBody (top 34)) (defScope (top 34)) .none kV22 dc22 pm22 an22 cd22 ct22), sl22⟩) (c22 : PySem.W.codeIn K cd22 "_law_done" = true) (k22 : PySem.W.keepIn K (.ref f22) = true)
    (a23 : PySem.W.nsIn K mainGlobals "_law_levels" = some (some (.ref f23))) (l23 : K.lookup f23 = some ⟨oc23, od23, .func (PySem.W.fnOf "_law_levels" "_law_levels" (defArgs (top 35)) (defBody (top 35)) (defScope (top 35)) .none kV23 dc23 pm23 an23 cd23 ct23), sl23⟩) (c23 : PySem.W.codeIn K cd23 "_law_levels" = true) (k23 : PySem.W.keepIn K (.ref f23) = true)
    (a24 : PySem.W.nsIn K mainGlobals "_law_wrong_level" = some (some (.ref f24))) (l24 : K.lookup f24 = some ⟨oc24, od24, .func (PySem.W.fnOf "_law_wrong_level" "_law_wrong_level" (defArgs (top 36)) (defBody (top 36)) (defScope (top 36)) .none kV24 dc24 pm24 an24 cd24 ct24), sl24⟩) (c24 : PySem.W.codeIn K cd24 "_law_wrong_level" = true) (k24 : PySem.W.keepIn K (.ref f24) = true)
    (a25 : PySem.W.nsIn K mainGlobals "_law_miscount" = some (some (.ref f25))) (l25 : K.lookup f25 = some ⟨oc25, od25, .func (PySem.W.fnOf "_law_miscount" "_law_miscount" (defArgs (top 37)) (defBody (top 37)) (defScope (top 37)) .none kV25 dc25 pm25 an25 cd25 ct25), sl25⟩) (c25 : PySem.W.codeIn K cd25 "_law_miscount" = true) (k25 : PySem.W.keepIn K (.ref f25) = true)
    (a26 : PySem.W.nsIn K mainGlobals "_law_cost" = some (some (.ref f26))) (l26 : K.lookup f26 = some ⟨oc26, od26, .func (PySem.W.fnOf "_law_cost" "_law_cost" (defArgs (top 38)) (defBody (top 38)) (defScope (top 38)) .none kV26 dc26 pm26 an26 cd26 ct26), sl26⟩) (c26 : PySem.W.codeIn K cd26 "_law_cost" = true) (k26 : PySem.W.keepIn K (.ref f26) = true)
    (a27 : PySem.W.nsIn K mainGlobals "_law_is_integer" = some (some (.ref f27))) (l27 : K.lookup f27 = some ⟨oc27, od27, .func (PySem.W.fnOf "_law_is_integer" "_law_is_integer" (defArgs (top 39)) (defBody (top 39)) (defScope (top 39)) .none kV27 dc27 pm27 an27 cd27 ct27), sl27⟩) (c27 : PySem.W.codeIn K cd27 "_law_is_integer" = true) (k27 : PySem.W.keepIn K (.ref f27) = true)
    (a28 : PySem.W.nsIn K mainGlobals "_law_has_rows" = some (some (.ref f28))) (l28 : K.lookup f28 = some ⟨oc28, od28, .func (PySem.W.fnOf "_law_has_rows" "_law_has_rows" (defArgs (top 40)) (defBody (top 40)) (defScope (top 40)) .none kV28 dc28 pm28 an28 cd28 ct28), sl28⟩) (c28 : PySem.W.codeIn K cd28 "_law_has_rows" = true) (k28 : PySem.W.keepIn K (.ref f28) = true)
    (a29 : PySem.W.nsIn K mainGlobals "_law_tale_due" = some (some (.ref f29))) (l29 : K.lookup f29 = some ⟨oc29, od29, .func (PySem.W.fnOf "_law_tale_due" "_law_tale_due" (defArgs (top 41)) (defBody (top 41)) (defScope (top 41)) .none kV29 dc29 pm29 an29 cd29 ct29), sl29⟩) (c29 : PySem.W.codeIn K cd29 "_law_tale_due" = true) (k29 : PySem.W.keepIn K (.ref f29) = true)
    (a30 : PySem.W.nsIn K mainGlobals "_law_tale" = some (some (.ref f30))) (l30 : K.lookup f30 = some ⟨oc30, od30, .func (PySem.W.fnOf "_law_tale" "_law_tale" (defArgs (top 42)) (defBody (top 42)) (defScope (top 42)) .none kV30 dc30 pm30 an30 cd30 ct30), sl30⟩) (c30 : PySem.W.codeIn K cd30 "_law_tale" = true) (k30 : PySem.W.keepIn K (.ref f30) = true)
    (a31 : PySem.W.nsIn K mainGlobals "_law_empty" = some (some (.ref f31))) (l31 : K.lookup f31 = some ⟨oc31, od31, .func (PySem.W.fnOf "_law_empty" "_law_empty" (defArgs (top 43)) (defBody (top 43)) (defScope (top 43)) .none kV31 dc31 pm31 an31 cd31 ct31), sl31⟩) (c31 : PySem.W.codeIn K cd31 "_law_empty" = true) (k31 : PySem.W.keepIn K (.ref f31) = true)
    (a32 : PySem.W.nsIn K mainGlobals "_law_great" = some (some (.ref f32))) (l32 : K.lookup f32 = some ⟨oc32, od32, .func (PySem.W.fnOf "_law_great" "_law_great" (defArgs (top 44)) (defBody (top 44)) (defScope (top 44)) .none kV32 dc32 pm32 an32 cd32 ct32), sl32⟩) (c32 : PySem.W.codeIn K cd32 "_law_great" = true) (k32 : PySem.W.keepIn K (.ref f32) = true)
    (a33 : PySem.W.nsIn K mainGlobals "_law_great_tale" = some (some (.ref f33))) (l33 : K.lookup f33 = some ⟨oc33, od33, .func (PySem.W.fnOf "_law_great_tale" "_law_great_tale" (defArgs (top 45)) (defBody (top 45)) (defScope (top 45)) .none kV33 dc33 pm33 an33 cd33 ct33), sl33⟩) (c33 : PySem.W.codeIn K cd33 "_law_great_tale" = true) (k33 : PySem.W.keepIn K (.ref f33) = true)
    (a34 : PySem.W.nsIn K mainGlobals "_law_missing" = some (some (.ref f34))) (l34 : K.lookup f34 = some ⟨oc34, od34, .func (PySem.W.fnOf "_law_missing" "_law_missing" (defArgs (top 46)) (defBody (top 46)) (defScope (top 46)) .none kV34 dc34 pm34 an34 cd34 ct34), sl34⟩) (c34 : PySem.W.codeIn K cd34 "_law_missing" = true) (k34 : PySem.W.keepIn K (.ref f34) = true)
    (a35 : PySem.W.nsIn K mainGlobals "_law_agrees" = some (some (.ref f35))) (l35 : K.lookup f35 = some ⟨oc35, od35, .func (PySem.W.fnOf "_law_agrees" "_law_agrees" (defArgs (top 47)) (defBody (top 47)) (defScope (top 47)) .none kV35 dc35 pm35 an35 cd35 ct35), sl35⟩) (c35 : PySem.W.codeIn K cd35 "_law_agrees" = true) (k35 : PySem.W.keepIn K (.ref f35) = true)
    (a36 : PySem.W.nsIn K mainGlobals "law" = some (some (.ref f36))) (l36 : K.lookup f36 = some ⟨oc36, od36, .func (PySem.W.fnOf "law" "law" (defArgs (top 48)) (defBody (top 48)) (defScope (top 48)) .none kV36 dc36 pm36 an36 cd36 ct36), sl36⟩) (c36 : PySem.W.codeIn K cd36 "law" = true) (k36 : PySem.W.keepIn K (.ref f36) = true)
    (gg0 : PySem.W.nsIn K mainGlobals "LETTERS" = some (some (.str "abcdefghijklmnopqrstuvwxyz" t0)))
    (gg1 : PySem.W.nsIn K mainGlobals "LONGEST" = some (some (.int 8 t1)))
    (gg2 : PySem.W.nsIn K mainGlobals "OUT" = some (some (.str "out" t2)))
    (gg3 : PySem.W.nsIn K mainGlobals "COUNT" = some (some (.str "count" t3)))
    (z0 : PySem.W.nsIn K mainGlobals "len" = some none) (z1 : PySem.W.nsIn K mainGlobals "all" = some none) (z2 : PySem.W.nsIn K mainGlobals "any" = some none) (z3 : PySem.W.nsIn K mainGlobals "ord" = some none) (z4 : PySem.W.nsIn K mainGlobals "isinstance" = some none) (z5 : PySem.W.nsIn K mainGlobals "range" = some none) (z6 : PySem.W.nsIn K mainGlobals "int" = some none) (z7 : PySem.W.nsIn K mainGlobals "bool" = some none) (z8 : PySem.W.nsIn K mainGlobals "str" = some none) (z9 : PySem.W.nsIn K mainGlobals "tuple" = some none) (z10 : PySem.W.nsIn K mainGlobals "list" = some none) (z11 : PySem.W.nsIn K mainGlobals "dict" = some none) (z12 : PySem.W.nsIn K mainGlobals "sorted" = some none) (z13 : PySem.W.nsIn K mainGlobals "repr" = some none) (z14 : PySem.W.nsIn K mainGlobals "min" = some none) (z15 : PySem.W.nsIn K mainGlobals "max" = some none) (z16 : PySem.W.nsIn K mainGlobals "sum" = some none) (z17 : PySem.W.nsIn K mainGlobals "abs" = some none) (z18 : PySem.W.nsIn K mainGlobals "enumerate" = some none) (z19 : PySem.W.nsIn K mainGlobals "zip" = some none) (z20 : PySem.W.nsIn K mainGlobals "set" = some none) (z21 : PySem.W.nsIn K mainGlobals "next" = some none) :
    (∀ d ∈ fns, Made K mg (cfgOf fns cs) d) ∧ (∀ p ∈ cs, ∃ u v, mg p.1 = some u ∧ scalV p.2 = some v ∧ RelV v u) ∧ (∀ x ∈ bltNames, mg x = none) := by
  refine ⟨fun d hd => ?_, fun p hp => ?_, fun x hx => ?_⟩
  · simp only [fns, List.mem_cons, List.not_mem_nil, or_false] at hd
    rcases hd with rfl | rfl | rfl | rfl | rfl | rfl | rfl | rfl | rfl | rfl | rfl | rfl | rfl | rfl | rfl | rfl | rfl | rfl | rfl | rfl | rfl | rfl | rfl | rfl | rfl | rfl | rfl | rfl | rfl | rfl | rfl | rfl | rfl | rfl | rfl | rfl | rfl
    · exact made_mk X G (x := "is_integer") rfl a0 l0 c0 k0 ok0
    · exact made_mk X G (x := "is_number") rfl a1 l1 c1 k1 ok1
    · exact made_mk X G (x := "is_name") rfl a2 l2 c2 k2 ok2
    · exact made_mk X G (x := "require_place") rfl a3 l3 c3 k3 ok3
    · exact made_mk X G (x := "require_row") rfl a4 l4 c4 k4 ok4
    · exact made_mk X G (x := "row_change") rfl a5 l5 c5 k5 ok5
    · exact made_mk X G (x := "change_of") rfl a6 l6 c6 k6 ok6
    · exact made_mk X G (x := "moved_levels") rfl a7 l7 c7 k7 ok7
    · exact made_mk X G (x := "booked_levels") rfl a8 l8 c8 k8 ok8
    · exact made_mk X G (x := "stocks_of") rfl a9 l9 c9 k9 ok9
    · exact made_mk X G (x := "levels_of") rfl a10 l10 c10 k10 ok10
    · exact made_mk X G (x := "slips_of") rfl a11 l11 c11 k11 ok11
    · exact made_mk X G (x := "missing_of") rfl a12 l12 c12 k12 ok12
    · exact made_mk X G (x := "_law_feed") rfl a13 l13 c13 k13 ok13
    · exact made_mk X G (x := "_law_draw") rfl a14 l14 c14 k14 ok14
    · exact made_mk X G (x := "_law_any") rfl a15 l15 c15 k15 ok15
    · exact made_mk X G (x := "_law_row") rfl a16 l16 c16 k16 ok16
    · exact made_mk X G (x := "_law_book") rfl a17 l17 c17 k17 ok17
    · exact made_mk X G (x := "_law_document") rfl a18 l18 c18 k18 ok18
    · exact made_mk X G (x := "_law_raise") rfl a19 l19 c19 k19 ok19
    · exact made_mk X G (x := "_law_lets") rfl a20 l20 c20 k20 ok20
    · exact made_mk X G (x := "_law_moved") rfl a21 l21 c21 k21 ok21
    · exact made_mk X G (x := "_law_done") rfl a22 l22 c22 k22 ok22
    · exact made_mk X G (x := "_law_levels") rfl a23 l23 c23 k23 ok23
    · exact made_mk X G (x := "_law_wrong_level") rfl a24 l24 c24 k24 ok24
    · exact made_mk X G (x := "_law_miscount") rfl a25 l25 c25 k25 ok25
    · exact made_mk X G (x := "_law_cost") rfl a26 l26 c26 k26 ok26
    · exact made_mk X G (x := "_law_is_integer") rfl a27 l27 c27 k27 ok27
    · exact made_mk X G (x := "_law_has_rows") rfl a28 l28 c28 k28 ok28
    · exact made_mk X G (x := "_law_tale_due") rfl a29 l29 c29 k29 ok29
    · exact made_mk X G (x := "_law_tale") rfl a30 l30 c30 k30 ok30
    · exact made_mk X G (x := "_law_empty") rfl a31 l31 c31 k31 ok31
    · exact made_mk X G (x := "_law_great") rfl a32 l32 c32 k32 ok32
    · exact made_mk X G (x := "_law_great_tale") rfl a33 l33 c33 k33 ok33
    · exact made_mk X G (x := "_law_missing") rfl a34 l34 c34 k34 ok34
    · exact made_mk X G (x := "_law_agrees") rfl a35 l35 c35 k35 ok35
    · exact made_mk X G (x := "law") rfl a36 l36 c36 k36 ok36
  · simp only [cs, List.mem_cons, List.not_mem_nil, or_false] at hp
    rcases hp with rfl | rfl | rfl | rfl
    · exact ⟨_, _, PySem.W.mg_of X G gg0, rfl, t0, congrArg (fun z => Value.str z t0) (by decide +kernel)⟩
    · exact ⟨_, _, PySem.W.mg_of X G gg1, rfl, t1, rfl⟩
    · exact ⟨_, _, PySem.W.mg_of X G gg2, rfl, t2, congrArg (fun z => Value.str z t2) (by decide +kernel)⟩
    · exact ⟨_, _, PySem.W.mg_of X G gg3, rfl, t3, congrArg (fun z => Value.str z t3) (by decide +kernel)⟩
  · simp only [bltNames, List.mem_cons, List.not_mem_nil, or_false] at hx
    rcases hx with rfl | rfl | rfl | rfl | rfl | rfl | rfl | rfl | rfl | rfl | rfl | rfl | rfl | rfl | rfl | rfl | rfl | rfl | rfl | rfl | rfl | rfl
    · exact PySem.W.mg_none_of X G z0
    · exact PySem.W.mg_none_of X G z1
    · exact PySem.W.mg_none_of X G z2
    · exact PySem.W.mg_none_of X G z3
    · exact PySem.W.mg_none_of X G z4
    · exact PySem.W.mg_none_of X G z5
    · exact PySem.W.mg_none_of X G z6
    · exact PySem.W.mg_none_of X G z7
    · exact PySem.W.mg_none_of X G z8
    · exact PySem.W.mg_none_of X G z9
    · exact PySem.W.mg_none_of X G z10
    · exact PySem.W.mg_none_of X G z11
    · exact PySem.W.mg_none_of X G z12
    · exact PySem.W.mg_none_of X G z13
    · exact PySem.W.mg_none_of X G z14
    · exact PySem.W.mg_none_of X G z15
    · exact PySem.W.mg_none_of X G z16
    · exact PySem.W.mg_none_of X G z17
    · exact PySem.W.mg_none_of X G z18
    · exact PySem.W.mg_none_of X G z19
    · exact PySem.W.mg_none_of X G z20
    · exact PySem.W.mg_none_of X G z21
end Rf.K17
open PySem PySem.W PyProof.Rows
set_option maxRecDepth 100000 in
set_option maxHeartbeats 0 in
theorem PySem.Challenge.cw_unbooked_k17_levels_and_slips_told_holds : PySem.Challenge.rw_unbooked_k17_levels_and_slips_told.Holds := by
  w_on; o_law; k_head; (case hw => w_witness2)
  k_fill
  refine Rf.rf_walk (l := PySem.Challenge.rw_unbooked_k17_levels_and_slips_told) (n := 63) (k := 20) (j := 36) (ds := Rf.K17.fns) (cs := Rf.K17.cs) (dl := Rf.K17.d36) (y := "_law_script") rfl (by decide) rfl ⟨rfl, by decide, by decide⟩ rfl rfl rfl (fun w h Y => PySem.W.kIn_of Y) ?nol ?F Rf.K17.law_true
  case nol => intro w; rfl
  case F =>
    intro w mg h KX G
    refine' Rf.K17.all_facts KX G ?a0 ?l0 ?c0 ?k0 ?a1 ?l1 ?c1 ?k1 ?a2 ?l2 ?c2 ?k2 ?a3 ?l3 ?c3 ?k3 ?a4 ?l4 ?c4 ?k4 ?a5 ?l5 ?c5 ?k5 ?a6 ?l6 ?c6 ?k6 ?a7 ?l7 ?c7 ?k7 ?a8 ?l8 ?c8 ?k8 ?a9 ?l9 ?c9 ?k9 ?a10 ?l10 ?c10 ?k10 ?a11 ?l11 ?c11 ?k11 ?a12 ?l12 ?c12 ?k12 ?a13 ?l13 ?c13 ?k13 ?a14 ?l14 ?c14 ?k14 ?a15 ?l15 ?c15 ?k15 ?a16 ?l16 ?c16 ?k16 ?a17 ?l17 ?c17 ?k17 ?a18 ?l18 ?c18 ?k18 ?a19 ?l19 ?c19 ?k19 ?a20 ?l20 ?c20 ?k20 ?a21 ?l21 ?c21 ?k21 ?a22 ?l22 ?c22 ?k22 ?a23 ?l23 ?c23 ?k23 ?a24 ?l24 ?c24 ?k24 ?a25 ?l25 ?c25 ?k25 ?a26 ?l26 ?c26 ?k26 ?a27 ?l27 ?c27 ?k27 ?a28 ?l28 ?c28 ?k28 ?a29 ?l29 ?c29 ?k29 ?a30 ?l30 ?c30 ?k30 ?a31 ?l31 ?c31 ?k31 ?a32 ?l32 ?c32 ?k32 ?a33 ?l33 ?c33 ?k33 ?a34 ?l34 ?c34 ?k34 ?a35 ?l35 ?c35 ?k35 ?a36 ?l36 ?c36 ?k36 ?gg0 ?gg1 ?gg2 ?gg3 ?z0 ?z1 ?z2 ?z3 ?z4 ?z5 ?z6 ?z7 ?z8 ?z9 ?z10 ?z11 ?z12 ?z13 ?z14 ?z15 ?z16 ?z17 ?z18 ?z19 ?z20 ?z21
    (case a0 => k_is); (case l0 => k_is); (case c0 => k_is); (case k0 => k_is)
    (case a1 => k_is); (case l1 => k_is); (case c1 => k_is); (case k1 => k_is)
    (case a2 => k_is); (case l2 => k_is); (case c2 => k_is); (case k2 => k_is)
    (case a3 => k_is); (case l3 => k_is); (case c3 => k_is); (case k3 => k_is)
    (case a4 => k_is); (case l4 => k_is); (case c4 => k_is); (case k4 => k_is)
    (case a5 => k_is); (case l5 => k_is); (case c5 => k_is); (case k5 => k_is)
    (case a6 => k_is); (case l6 => k_is); (case c6 => k_is); (case k6 => k_is)
    (case a7 => k_is); (case l7 => k_is); (case c7 => k_is); (case k7 => k_is)
    (case a8 => k_is); (case l8 => k_is); (case c8 => k_is); (case k8 => k_is)
    (case a9 => k_is); (case l9 => k_is); (case c9 => k_is); (case k9 => k_is)
    (case a10 => k_is); (case l10 => k_is); (case c10 => k_is); (case k10 => k_is)
    (case a11 => k_is); (case l11 => k_is); (case c11 => k_is); (case k11 => k_is)
    (case a12 => k_is); (case l12 => k_is); (case c12 => k_is); (case k12 => k_is)
    (case a13 => k_is); (case l13 => k_is); (case c13 => k_is); (case k13 => k_is)
    (case a14 => k_is); (case l14 => k_is); (case c14 => k_is); (case k14 => k_is)
    (case a15 => k_is); (case l15 => k_is); (case c15 => k_is); (case k15 => k_is)
    (case a16 => k_is); (case l16 => k_is); (case c16 => k_is); (case k16 => k_is)
    (case a17 => k_is); (case l17 => k_is); (case c17 => k_is); (case k17 => k_is)
    (case a18 => k_is); (case l18 => k_is); (case c18 => k_is); (case k18 => k_is)
    (case a19 => k_is); (case l19 => k_is); (case c19 => k_is); (case k19 => k_is)
    (case a20 => k_is); (case l20 => k_is); (case c20 => k_is); (case k20 => k_is)
    (case a21 => k_is); (case l21 => k_is); (case c21 => k_is); (case k21 => k_is)
    (case a22 => k_is); (case l22 => k_is); (case c22 => k_is); (case k22 => k_is)
    (case a23 => k_is); (case l23 => k_is); (case c23 => k_is); (case k23 => k_is)
    (case a24 => k_is); (case l24 => k_is); (case c24 => k_is); (case k24 => k_is)
    (case a25 => k_is); (case l25 => k_is); (case c25 => k_is); (case k25 => k_is)
    (case a26 => k_is); (case l26 => k_is); (case c26 => k_is); (case k26 => k_is)
    (case a27 => k_is); (case l27 => k_is); (case c27 => k_is); (case k27 => k_is)
    (case a28 => k_is); (case l28 => k_is); (case c28 => k_is); (case k28 => k_is)
    (case a29 => k_is); (case l29 => k_is); (case c29 => k_is); (case k29 => k_is)
    (case a30 => k_is); (case l30 => k_is); (case c30 => k_is); (case k30 => k_is)
    (case a31 => k_is); (case l31 => k_is); (case c31 => k_is); (case k31 => k_is)
    (case a32 => k_is); (case l32 => k_is); (case c32 => k_is); (case k32 => k_is)
    (case a33 => k_is); (case l33 => k_is); (case c33 => k_is); (case k33 => k_is)
    (case a34 => k_is); (case l34 => k_is); (case c34 => k_is); (case k34 => k_is)
    (case a35 => k_is); (case l35 => k_is); (case c35 => k_is); (case k35 => k_is)
    (case a36 => k_is); (case l36 => k_is); (case c36 => k_is); (case k36 => k_is)
    (case gg0 => k_is); (case gg1 => k_is); (case gg2 => k_is); (case gg3 => k_is)
    (case z0 => k_is); (case z1 => k_is); (case z2 => k_is); (case z3 => k_is)
    (case z4 => k_is); (case z5 => k_is); (case z6 => k_is); (case z7 => k_is)
    (case z8 => k_is); (case z9 => k_is); (case z10 => k_is); (case z11 => k_is)
    (case z12 => k_is); (case z13 => k_is); (case z14 => k_is); (case z15 => k_is)
    (case z16 => k_is); (case z17 => k_is); (case z18 => k_is); (case z19 => k_is)
    (case z20 => k_is); (case z21 => k_is)
