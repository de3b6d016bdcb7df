import PyProof.Rows.All
import HandS.ForMost
import HandS.IsInst
import HandS.Flow
import HandS.SetKeys
import HandS.Set
import HandS.HeadHook2
import HandS.TupAny
import HandS.ReCall
import HandS.StrMore
import HandS.CallSlots
import PyProof.NeKinds
import HandS.Style
import HandS.Small
import HandS.NoneIn
import HandS.Zip
import HandS.Comp
import HandS.DictComp
import KE.SortData
import PyProof.TupleOfSeq
import HandS.More
import HandS.RaiseMore
import PyProof.WalkInts
import PyProof.PureStr
import PyProof.StrOps
import PyProof.SeqIndex
import KE.DataFind
import HandS.Text
import HandS.SetFor
import HandS.Iter
import HandS.Exc
import HandS.ExcOwn
import HandS.Defaults
import KE.KCallOwn
import HandS.FStr
import KE.GoesMore
import KE.GoesEnum
import KE.KDictPairs
import KE.KRevSl
import HandS.Conv
import HandS.Sort
import HandS.Head0
import HandS.Head1
import HandS.Head2
import HandS.HeadEnd
import HandS.Ends
import HandS.HeadHook1
import PyProof.ReprLen
import PyProof.Rows.StrJoinMade
import PyProof.Rows.StrFin3
import HandS.MakeKwOnly
import PySem.Challenge.RW_sheetsover_k37_cores_told
section
set_option Elab.async false
set_option linter.all false
set_option maxRecDepth 100000
/-! DkA: data as trees, an own heap, what each construct of the language does with them. No model here. -/
noncomputable section S_DkA
namespace Dk
open PySem L2
open Classical

/-- a value: data as a tree; ref n is the n-th object of the heap -/
inductive D where
  | non
  | bl (b : Bool)
  | int (i : Int)
  | str (x : Str)
  | tup (xs : List D)
  | lst (xs : List D)
  | dct (kvs : List (Key × D))
  | set (ks : List Key)
  | scr (ns : List Int)
  | ins (c : String) (fs : List (String × D))
  | ref (n : Nat)
  | fn (f : String)
  | ty (n : String)
  | cls (c : String)

/-- an object that may change -/
inductive Ob where
  | lst (xs : List D)
  | dct (kvs : List (Key × D))
  | ins (c : String) (fs : List (String × D))

abbrev Hd := List Ob
abbrev Env := List (Option D)
abbrev Fs := List (String × D)

/-- what comes of an expression -/
inductive Out (a : Type) where
  | ok (x : a) (h : Hd)
  | ex (c : String) (fs : Fs) (h : Hd)
  | fail

abbrev M (a : Type) := Hd → Out a
def pu {a : Type} (x : a) : M a := fun h => .ok x h
def no {a : Type} : M a := fun _ => .fail
def bd {a b : Type} (m : M a) (f : a → M b) : M b := fun h => match m h with
  | .ok x h1 => f x h1
  | .ex c fs h1 => .ex c fs h1
  | .fail => .fail

@[simp] theorem pu_eq {a : Type} (x : a) (h : Hd) : pu x h = .ok x h := rfl
@[simp] theorem no_eq {a : Type} (h : Hd) : (no : M a) h = .fail := rfl
theorem bd_eq {a b : Type} (m : M a) (f : a → M b) (h : Hd) : bd m f h = match m h with
  | .ok x h1 => f x h1
  | .ex c fs h1 => .ex c fs h1
  | .fail => .fail := rfl
theorem bd_ok {a b : Type} {m : M a} {f : a → M b} {h h1 : Hd} {x : a} (e : m h = .ok x h1) : bd m f h = f x h1 := by
  rw [bd_eq, e]

/-! ### no reference within -/
mutual
def D.pureB : D → Bool
  | .non => true
  | .bl _ => true
  | .int _ => true
  | .str _ => true
  | .tup xs => pureL xs
  | .lst xs => pureL xs
  | .dct kvs => pureK kvs
  | .set _ => true
  | .scr _ => true
  | .ins _ fs => pureF fs
  | .ref _ => false
  | .fn _ => true
  | .ty _ => true
  | .cls _ => true
def pureL : List D → Bool
  | [] => true
  | x :: xs => x.pureB && pureL xs
def pureK : List (Key × D) → Bool
  | [] => true
  | (_, x) :: xs => x.pureB && pureK xs
def pureF : List (String × D) → Bool
  | [] => true
  | (_, x) :: xs => x.pureB && pureF xs
end
theorem pureL_all : ∀ xs : List D, pureL xs = xs.all D.pureB
  | [] => rfl
  | x :: xs => by rw [pureL, pureL_all xs]; rfl
theorem pureK_all : ∀ xs : List (Key × D), pureK xs = xs.all fun p => p.2.pureB
  | [] => rfl
  | (_, x) :: xs => by rw [pureK, pureK_all xs]; rfl
theorem pureF_all : ∀ xs : List (String × D), pureF xs = xs.all fun p => p.2.pureB
  | [] => rfl
  | (_, x) :: xs => by rw [pureF, pureF_all xs]; rfl

/-! ### equality of data (no objects with an own __eq__, no dicts within) -/
def eqLs (f : D → D → Option Bool) : List D → List D → Option Bool
  | [], [] => some true
  | [], _ :: _ => some false
  | _ :: _, [] => some false
  | x :: xs, y :: ys => match f x y, eqLs f xs ys with
    | some a, some b => some (a && b)
    | _, _ => none
/-- of two of unlike kinds -/
def kindN : D → Option Nat
  | .non => some 0
  | .bl _ => some 1
  | .int _ => some 1
  | .str _ => some 2
  | .tup _ => some 3
  | .lst _ => some 4
  | _ => none
def eqD : Nat → D → D → Option Bool
  | 0, _, _ => none
  | n + 1, a, b => match a, b with
    | .non, .non => some true
    | .bl x, .bl y => some (x == y)
    | .int x, .int y => some (x == y)
    | .str x, .str y => some (x == y)
    | .bl x, .int y => some ((if x then 1 else 0) == y)
    | .int x, .bl y => some (x == (if y then 1 else 0))
    | .tup xs, .tup ys => eqLs (eqD n) xs ys
    | .lst xs, .lst ys => eqLs (eqD n) xs ys
    | a, b => match kindN a, kindN b with
      | some i, some j => if i = j then none else some false
      | _, _ => none
/-- how deep data may lie that are compared -/
abbrev dp : Nat := 40

/-! ### what built-ins give -/
/-- a value, a new list, a new dict -/
inductive Res where
  | v (d : D)
  | l (xs : List D)
  | d (kvs : List (Key × D))
def fin (mu : Bool) (r : Res) : M D := fun h => match r, mu with
  | .v d, _ => .ok d h
  | .l xs, false => .ok (.lst xs) h
  | .l xs, true => .ok (.ref h.length) (h ++ [.lst xs])
  | .d kvs, false => .ok (.dct kvs) h
  | .d kvs, true => .ok (.ref h.length) (h ++ [.dct kvs])
def lf (mu : Bool) (o : Option Res) : M D := match o with
  | some r => fin mu r
  | none => no
@[simp] theorem fin_v (mu : Bool) (d : D) (h : Hd) : fin mu (.v d) h = .ok d h := rfl
@[simp] theorem fin_l0 (xs : List D) (h : Hd) : fin false (.l xs) h = .ok (.lst xs) h := rfl
@[simp] theorem fin_l1 (xs : List D) (h : Hd) : fin true (.l xs) h = .ok (.ref h.length) (h ++ [.lst xs]) := rfl
@[simp] theorem fin_d0 (xs : List (Key × D)) (h : Hd) : fin false (.d xs) h = .ok (.dct xs) h := rfl
@[simp] theorem fin_d1 (xs : List (Key × D)) (h : Hd) : fin true (.d xs) h = .ok (.ref h.length) (h ++ [.dct xs]) := rfl
@[simp] theorem lf_some (mu : Bool) (r : Res) : lf mu (some r) = fin mu r := rfl
@[simp] theorem lf_none (mu : Bool) : lf mu none = no := rfl

def asL (h : Hd) : D → Option (List D)
  | .lst xs => some xs
  | .ref n => match h[n]? with
    | some (.lst xs) => some xs
    | _ => none
  | _ => none
/-- the items of a list or a tuple -/
def asS (h : Hd) : D → Option (List D)
  | .tup xs => some xs
  | d => asL h d
def asK (h : Hd) : D → Option (List (Key × D))
  | .dct xs => some xs
  | .ref n => match h[n]? with
    | some (.dct xs) => some xs
    | _ => none
  | _ => none
/-- an own list seen as data -/
def rs (h : Hd) : D → D
  | .ref n => match h[n]? with
    | some (.lst xs) => .lst xs
    | _ => .ref n
  | d => d
def keyOf : D → Option Key
  | .int i => some (.inl i)
  | .str x => some (.inr x)
  | _ => none
def ofKey : Key → D
  | .inl i => .int i
  | .inr x => .str x
def ckS (xs ys : List D) : Bool := decide (xs.length + ys.length ≤ sizeLine)

/-- a text, so often -/
def strRep (x : Str) (n : Nat) : Str := ⟨(List.replicate n x.cps).foldl (· ++ ·) #[]⟩
/-- small enough; not to be reckoned out where an int isn't known -/
def okM (i j : Int) : Prop := (-(2 ^ 64) < i ∧ i < 2 ^ 64) ∨ (-(2 ^ 64) < j ∧ j < 2 ^ 64)
noncomputable instance okM_dec {i j : Int} : Decidable (okM i j) := Classical.propDecidable _
def okP (i j : Int) : Prop := 0 ≤ j ∧ j ≤ 1000000 ∧ i.natAbs < 2 ^ 64
noncomputable instance okP_dec {i j : Int} : Decidable (okP i j) := Classical.propDecidable _
noncomputable def binD (op : Operator) (h : Hd) (a b : D) : Option Res := match op with
  | .Add => (match a, b with
    | .int i, .int j => some (.v (.int (i + j)))
    | .str x, .str y => if x.length + y.length ≤ sizeLine then some (.v (.str (x ++ y))) else none
    | .tup xs, .tup ys => if xs.length + ys.length ≤ sizeLine then some (.v (.tup (xs ++ ys))) else none
    | a, b => match asL h a, asL h b with
      | some xs, some ys => if xs.length + ys.length ≤ sizeLine then some (.l (xs ++ ys)) else none
      | _, _ => none)
  | .Sub => (match a, b with
    | .int i, .int j => some (.v (.int (i - j)))
    | _, _ => none)
  | .Mult => (match a, b with
    | .int i, .int j => if okM i j then some (.v (.int (i * j))) else none
    | .str x, .int n => if 0 ≤ n ∧ n ≤ 1000 ∧ x.length * n.toNat ≤ 100000 then some (.v (.str (strRep x n.toNat))) else none
    | a, .int n => (match asL h a with
      | some xs => if 0 ≤ n ∧ n ≤ 1000 ∧ xs.length * n.toNat ≤ sizeLine then some (.l (List.replicate n.toNat xs).flatten) else none
      | none => none)
    | _, _ => none)
  | .FloorDiv => (match a, b with
    | .int i, .int j => if 0 < j ∧ j < 1073741824 then some (.v (.int (i / j))) else none
    | _, _ => none)
  | .Mod => (match a, b with
    | .int i, .int j => if 0 < j then some (.v (.int (i % j))) else none
    | _, _ => none)
  | .Pow => (match a, b with
    | .int i, .int j => if okP i j then some (.v (.int (i ^ j.toNat))) else none
    | _, _ => none)
  | _ => none

def inLs (x : D) : List D → Option Bool
  | [] => some false
  | y :: ys => match eqD dp y x, inLs x ys with
    | some a, some b => some (a || b)
    | _, _ => none
def strLt (x y : Str) : Bool := decide (x.cps.toList < y.cps.toList)
/-- the first pair with that key -/
def getK (kvs : List (Key × D)) (k : Key) : Option D := (kvs.find? fun p => decide (p.1 = k)).map (·.2)
def inD (h : Hd) (x y : D) : Option Bool := match asS h y with
  | some ys => inLs x ys
  | none => match asK h y with
    | some kvs => (keyOf x).map fun k => (getK kvs k).isSome
    | none => match y with
      | .set ks => (keyOf x).map fun k => ks.any fun j => decide (j = k)
      | .str z => match x with
        | .str w => some (!(Builtin.Str.occurrences z w 0 z.length 1).isEmpty)
        | _ => none
      | _ => none
def isNon : D → Bool
  | .non => true
  | _ => false
def ordD (fi : Int → Int → Bool) (fs : Str → Str → Bool) : D → D → Option Bool
  | .int i, .int j => some (fi i j)
  | .str x, .str y => some (fs x y)
  | _, _ => none
def isBB : D → D → Option Bool
  | .bl x, .bl y => some (x == y)
  | _, _ => none
def cmpB (op : CmpOp) (h : Hd) (a b : D) : Option Bool := match op with
  | .Eq => eqD dp (rs h a) (rs h b)
  | .NotEq => (eqD dp (rs h a) (rs h b)).map fun c => !c
  | .Lt => ordD (fun i j => decide (i < j)) strLt a b
  | .LtE => ordD (fun i j => decide (i ≤ j)) (fun x y => !strLt y x) a b
  | .Gt => ordD (fun i j => decide (j < i)) (fun x y => strLt y x) a b
  | .GtE => ordD (fun i j => decide (j ≤ i)) (fun x y => !strLt x y) a b
  | .Is => if isNon b then some (isNon a) else isBB a b
  | .IsNot => if isNon b then some (!isNon a) else (isBB a b).map fun c => !c
  | .In => inD h a b
  | .NotIn => (inD h a b).map fun c => !c
def cmpD (op : CmpOp) (h : Hd) (a b : D) : Option Res := (cmpB op h a b).map fun c => .v (.bl c)

/-! ### items and slices -/
def idxD (h : Hd) (a b : D) : Option Res := match b with
  | .int i => (match asS h a with
    | some xs => (atI xs i).map Res.v
    | none => match a with
      | .str z => if z.length ≤ sizeLine then (atI z.cps.toList i).map fun c => .v (.str ⟨#[c]⟩) else none
      | a => match asK h a with
        | some kvs => (getK kvs (.inl i)).map Res.v
        | none => none)
  | .str x => (match asK h a with
    | some kvs => (getK kvs (.inr x)).map Res.v
    | none => none)
  | _ => none
def cutD (xs : List D) (lo hi : Option Int) : List D := (xs.drop (HT.sIx xs.length 0 lo)).take (HT.sIx xs.length xs.length hi - HT.sIx xs.length 0 lo)
def slcD (h : Hd) (a : D) (lo hi : Option Int) : Option Res := match a with
  | .tup xs => some (.v (.tup (cutD xs lo hi)))
  | .str z => if z.length ≤ sizeLine then some (.v (.str (cutS z lo hi))) else none
  | .scr ns => some (.l (cutD (ns.map D.int) lo hi))
  | a => match asL h a with
    | some xs => some (.l (cutD xs lo hi))
    | none => none
/-- what is true of a value -/
def truD (h : Hd) : D → Option Bool
  | .non => some false
  | .bl b => some b
  | .int i => some (i != 0)
  | .str x => if x.length ≤ sizeLine then some (x.length != 0) else none
  | .tup xs => some (!xs.isEmpty)
  | d => match asL h d with
    | some xs => some (!xs.isEmpty)
    | none => none
end Dk
end S_DkA
end
section
set_option Elab.async false
set_option linter.all false
set_option maxRecDepth 100000
set_option maxHeartbeats 4000000
/-! Sz: a set of numbers and texts by its row of members; its table stays one that can be walked. -/
noncomputable section S_Sz
namespace Dk
open PySem PySem.Spec PyProof.Rows L2
open Classical
/-- a table of n members that can be walked -/
structure WalkT (w : World) (t : SetTable) (n : Nat) : Prop where
  fit : t.fits n = true
  ris : Ris t.place.toList
  led : w.params.followText "set-order" = true ∨ t.led = true
abbrev Row := Array (Int × Value)
/-- the set with this row stands at a -/
def SetE (w : World) (h : Heap) (a : Addr) (es : Row) : Prop := ∃ (o : Obj) (ep : Nat) (t : SetTable), h.get? a = some o ∧ o.ExactSet ∧ o.data = .set es ep t ∧ WalkT w t es.size
/-- the key of a value -/
def kyV : Value → Key
  | .int k _ => .inl k
  | .str x _ => .inr x
  | _ => .inl 0
theorem kyV_of {k : Key} {v : Value} (r : RelV (kV k) v) : kyV v = k := by
  cases k <;> (obtain ⟨t, rfl⟩ := r; rfl)
/-- each member is a key under its own hash -/
def Hashed (w : World) (l : List (Int × Value)) : Prop := ∀ e ∈ l, ∃ k, RelV (kV k) e.2 ∧ e.1 = keyH w k
def kys (es : Row) : List Key := es.toList.map fun e => kyV e.2
section
variable {P : Program} {w : World} {h h' : Heap} {a : Addr} {es : Row}
theorem SetE.at_ (S : SetE w h a es) (k : ∀ o, h.get? a = some o → h'.get? a = some o) : SetE w h' a es := by
  obtain ⟨o, ep, t, g, r⟩ := S
  exact ⟨o, ep, t, k o g, r⟩
theorem Hashed.elems {l : List (Int × Value)} (g : Hashed w l) : ElemsOf (mixKind P w) l := fun e m => by
  obtain ⟨k, r, q⟩ := g e m
  exact ⟨⟨k, kV_is r, q⟩, key_scan r⟩
theorem Hashed.is_ {l : List (Int × Value)} (g : Hashed w l) {e : Int × Value} (m : e ∈ l) (k : Key) : (mixKind P w).is k e.2 = decide (kyV e.2 = k) := by
  obtain ⟨j, r, _⟩ := g e m
  rw [kyV_of r]
  by_cases c : j = k
  · rw [decide_eq_true c, ← c]
    exact kV_is r
  · rw [decide_eq_false c]
    cases q : (mixKind P w).is k e.2 with
    | false => rfl
    | true => exact absurd ((mixKind P w).inj e.2 j k (kV_is r) q) c
theorem Hashed.mem {l : List (Int × Value)} (g : Hashed w l) (k : Key) : (∃ e ∈ l, (mixKind P w).is k e.2 = true) ↔ k ∈ l.map fun e => kyV e.2 := by
  rw [List.mem_map]
  exact ⟨fun ⟨e, m, q⟩ => ⟨e, m, by rw [g.is_ (P := P) m] at q; exact of_decide_eq_true q⟩, fun ⟨e, m, q⟩ => ⟨e, m, by rw [g.is_ (P := P) m]; exact decide_eq_true q⟩⟩
/-- what is written there -/
theorem SetE.put {t : SetTable} {es' : Row} {t' : SetTable} {o : Obj} {ep : Nat} (g : h.get? a = some o) (x : o.ExactSet) (d : o.data = .set es ep t) (W : WalkT w t' es'.size) :
    ∃ o' ep', (h.update a (Obj.putSet es' t')).get? a = some o' ∧ o'.ExactSet ∧ o'.data = .set es' ep' t' := by
  refine ⟨{ o with data := .set es' (ep + 1) t' }, ep + 1, ?_, x, rfl⟩
  rw [← putSet_of es' t' d]
  exact Heap.get?_update_self _ g (by rw [putSet_of es' t' d]; rfl)
theorem WalkT.relay (t : SetTable) (es : Row) (n : Nat) (l : w.params.followText "set-order" = true ∨ t.led = true) : WalkT w (relayAll t es n).2.1 (relayAll t es n).1.size :=
  ⟨relayAll_fits t es n, relayAll_ris t es n, by rw [relayAll_led]; exact l⟩
theorem WalkT.lay {t : SetTable} {n : Nat} (W : WalkT w t n) (es : Row) (k : Int) (v : Value) : WalkT w (layNew t es k v).2.1 (layNew t es k v).1.size :=
  ⟨layNew_fits t es k v, layNew_ris t es k v W.ris, by rw [layNew_led]; exact W.led⟩
theorem WalkT.plain {t : SetTable} {n : Nat} (W : WalkT w t n) : WalkT w { t with plain := false } n := ⟨SetTable.fits_plain_off W.fit, W.ris, W.led⟩
end
section
variable {P : Program} {w : World} {A : Around} {E : Value → Shared → Prop} {s : Shared} {a : Addr} {es : Row}
/-- the end of an add: the row is written, and laid anew where the table is too full -/
theorem add_end {t : SetTable} {es1 : Row} (b : Bool) {gv : Sem Unit} (ok : ∀ (R : Unit → Shared → Prop) (s : Shared), R () s → wpAny (model P w) A gv R E s) {R : Option Bool → Shared → Prop} (S : SetE w s.heap a es) (W : WalkT w t es1.size) (z : es1.size < scanBound)
    (k : ∀ h' es2, Heap.SameBut a s.heap h' → SetE w h' a es2 → es2.toList.Perm es1.toList → R (some true) { s with heap := h' }) :
    wpAny (model P w) A (storeSet a es1 t >>= fun _ => if b then (gv >>= fun _ => storeSet a (relayAll t es1 (SetTable.grown es1.size)).1 (relayAll t es1 (SetTable.grown es1.size)).2.1 >>= fun _ => pure (some true)) else pure (some true)) R E s := by
  obtain ⟨o, ep, t0, g, x, d, _⟩ := S
  refine wpAny_bind (wpAny_storeSet_of g d ?_ (fits_of_scanBound z))
  obtain ⟨o1, ep1, g1, x1, d1⟩ := SetE.put g x d W
  have u1 := Heap.SameBut.update s.heap a (Obj.putSet es1 t)
  cases b with
  | false => exact wpAny_pure (k _ es1 u1 ⟨o1, ep1, t, g1, x1, d1, W⟩ .rfl)
  | true =>
    have W2 := WalkT.relay t es1 (SetTable.grown es1.size) W.led
    have pm := relayAll_perm t es1 (SetTable.grown es1.size)
    have z2 : (relayAll t es1 (SetTable.grown es1.size)).1.size < scanBound := by
      have := pm.length_eq
      rw [Array.length_toList, Array.length_toList] at this
      omega
    refine wpAny_bind (ok _ _ (wpAny_bind (wpAny_storeSet_of g1 d1 (wpAny_pure ?_) (fits_of_scanBound z2))))
    obtain ⟨o2, ep2, g2, x2, d2⟩ := SetE.put g1 x1 d1 W2
    exact k _ _ (u1.trans (Heap.SameBut.update _ a _)) ⟨o2, ep2, _, g2, x2, d2, W2⟩ pm
/-- a key is put in -/
theorem add_key {k : Key} {v : Value} {Q : Bool → Shared → Prop} (rv : RelV (kV k) v) (g : Hashed w es.toList) (S : SetE w s.heap a es) (z : es.size + 1 < scanBound) (old : k ∈ kys es → Q false s)
    (new : k ∉ kys es → ∀ h' es', Heap.SameBut a s.heap h' → SetE w h' a es' → es'.toList.Perm ((keyH w k, v) :: es.toList) → Q true { s with heap := h' }) : wpAny (model P w) A (setAddHashed a v (keyH w k)) Q E s := by
  have S0 := S
  obtain ⟨o, ep, t, go, x, d, W⟩ := S
  have zb : es.size < scanBound := by omega
  unfold setAddHashed setAddHashedIn
  refine wpAny_holding (wpAny_bind (wpAny_setState_of go d W.fit ?_))
  have by_ : byScan v es = true := byScan_of (knd := mixKind P w) (key_scan rv) zb g.elems
  show wpAny _ _ (if byScan v es = true then _ else _) _ _ _
  rw [if_pos by_]
  unfold setAddByScan
  refine wpAny_bind (wpAny_bind (wpAny_rule (wpAny_bind (wpAny_setScan_of (knd := mixKind P w) (kV_is rv) go d W.fit g.elems ?_))))
  by_cases c : k ∈ kys es
  · obtain ⟨e, me, qe⟩ := (g.mem (P := P) k).mpr c
    cases f : es.toList.findIdx? (fun e => (mixKind P w).is k e.2) with
    | none => rw [List.findIdx?_eq_none_iff.mp f e me] at qe; cases qe
    | some j => exact wpAny_pure (wpAny_pure (old c))
  · cases f : es.toList.findIdx? (fun e => (mixKind P w).is k e.2) with
    | some j =>
      obtain ⟨hj, pj, _⟩ := List.findIdx?_eq_some_iff_getElem.mp f
      exact absurd ((g.mem (P := P) k).mp ⟨_, List.getElem_mem hj, pj⟩) c
    | none =>
      have W1 := W.lay es (keyH w k) v
      have pm : (layNew t es (keyH w k) v).1.toList.Perm ((keyH w k, v) :: es.toList) := by
        have := layNew_perm t es (keyH w k) v
        rw [Array.toList_push] at this
        exact this.trans List.perm_append_comm
      have z1 : (layNew t es (keyH w k) v).1.size < scanBound := by
        have := pm.length_eq
        rw [List.length_cons, Array.length_toList, Array.length_toList] at this
        omega
      have fin : ∀ h' es2, Heap.SameBut a s.heap h' → SetE w h' a es2 → es2.toList.Perm (layNew t es (keyH w k) v).1.toList → Q true { s with heap := h' } := fun h' es2 u S2 p2 => new c h' es2 u S2 (p2.trans pm)
      have ok : ∀ (b : Bool) (R : Unit → Shared → Prop) (s : Shared), R () s → wpAny (model P w) A (match b with | true => rule "set.scan.the-table-gave-way" | false => pure ()) R E s := fun b R s r => by
        cases b
        · exact wpAny_pure r
        · exact wpAny_rule r
      dsimp only
      generalize layNew t es (keyH w k) v = Y at W1 z1 fin pm ⊢
      obtain ⟨es1, t1, wd, gv⟩ := Y
      dsimp only at W1 z1 fin pm ⊢
      refine wpAny_bind (ok _ _ _ ?_)
      by_cases pl : t1.plain = true
      · rw [if_pos pl]
        refine wpAny_bind ?_
        rw [hashByValue_scannable 8 (key_scan rv)]
        refine wpAny_pure ?_
        cases pk : plainKind v with
        | true =>
          refine add_end (!wd && t1.tooFull) (ok _) S0 W1 z1 fun h' es2 u S2 p2 => ?_
          exact wpAny_pure (fin h' es2 u S2 p2)
        | false =>
          refine add_end (!wd && t1.tooFull) (ok _) S0 W1.plain z1 fun h' es2 u S2 p2 => ?_
          exact wpAny_pure (fin h' es2 u S2 p2)
      · rw [if_neg pl]
        refine wpAny_bind (wpAny_pure ?_)
        refine add_end (!wd && t1.tooFull) (ok _) S0 W1 z1 fun h' es2 u S2 p2 => ?_
        exact wpAny_pure (fin h' es2 u S2 p2)
end
/-- the set of these keys stands at a -/
def SetKR (w : World) (h : Heap) (a : Addr) (ks : List Key) : Prop := ∃ es : Row, SetE w h a es ∧ Hashed w es.toList ∧ (kys es).Perm ks ∧ es.size < scanBound
section
variable {P : Program} {w : World} {h h' : Heap} {a : Addr} {ks : List Key}
theorem SetKR.at_ (R : SetKR w h a ks) (k : ∀ o, h.get? a = some o → h'.get? a = some o) : SetKR w h' a ks := by
  obtain ⟨es, S, r⟩ := R
  exact ⟨es, S.at_ k, r⟩
theorem kys_len (es : Row) : (kys es).length = es.size := by
  unfold kys
  rw [List.length_map, Array.length_toList]
theorem SetKR.setOf (R : SetKR w h a ks) : h.SetOf (mixKind P w) a (fun k => decide (k ∈ ks)) ks.length := by
  obtain ⟨es, ⟨o, ep, t, g, x, d, W⟩, hs, pm, z⟩ := R
  refine ⟨o, es, ep, t, g, x, d, hs.elems, fun k => ?_, z, W.fit, by rw [← pm.length_eq, kys_len]⟩
  rw [hs.mem (P := P), decide_eq_true_iff]
  exact pm.mem_iff.symm
end
def SetQ (w : World) (a : Addr) (ks : List Key) : HO := .ext fun h => SetKR w h a ks
theorem setQ_new {w : World} {P : Program} {H : Hp} {h : Heap} {a : Addr} {ks : List Key} (R : SetKR w h a ks) : ObjOk P w H h a (SetQ w a ks) := by
  have R0 := R
  obtain ⟨es, ⟨o, ep, t, g, _⟩, _⟩ := R
  exact ⟨R0, ⟨o, g⟩, fun h1 h2 p k => SetKR.at_ p k⟩
section
variable {X : Cx} {pins : List (Addr × Obj)} {st : L2.St} {H : Hp} {s : Shared} {a : Addr} {ks : List Key}
theorem setQ_get (I : Inv X pins st H s) (e : H a = some (SetQ X.w a ks)) : SetKR X.w s.heap a ks := (I.hok a _ e).1
theorem in_setQ {k : Key} {v : Value} {Q : VK} (I : Inv X pins st H s) (e : H a = some (SetQ X.w a ks)) (r : RelV (kV k) v) {b : Bool} (hb : b = true ↔ k ∈ ks) (q : Q (.bl b) H) : wpAny (model X.prog X.w) X.A (compareOp .In v (.ref a)) (EP X pins st Q) X.xe s := by
  have eb : decide (k ∈ ks) = b := by rw [Bool.eq_iff_iff, decide_eq_true_iff, hb]
  exact wpAny_inSet_of (kV_is r) (key_scan r) (setQ_get I e).setOf ⟨.bl (decide (k ∈ ks)), H, I.tok _, rfl, by rw [eb]; exact q⟩
theorem notin_setQ {k : Key} {v : Value} {Q : VK} (I : Inv X pins st H s) (e : H a = some (SetQ X.w a ks)) (r : RelV (kV k) v) {b : Bool} (hb : b = true ↔ k ∈ ks) (q : Q (.bl (!b)) H) : wpAny (model X.prog X.w) X.A (compareOp .NotIn v (.ref a)) (EP X pins st Q) X.xe s := by
  have eb : decide (k ∈ ks) = b := by rw [Bool.eq_iff_iff, decide_eq_true_iff, hb]
  exact wpAny_notInSet_of (kV_is r) (key_scan r) (setQ_get I e).setOf ⟨.bl (!decide (k ∈ ks)), H, I.tok _, rfl, by rw [eb]; exact q⟩
end
end Dk
end S_Sz
end
section
set_option Elab.async false
set_option linter.all false
set_option maxRecDepth 100000
/-! DkB: when a tree stands for a value of the layer's heap, and when two heaps say the same. -/
namespace Dk
open PySem L2

/-- the address of a class or def of the program, by its name -/
def adr (K : PySem.W.Frag) (c : String) : Addr := He.ga K (Str.ofString c)

/-- the program, the world, the written part -/
structure Gx where
  K : PySem.W.Frag
  P : Program
  w : World

/-- a tuple without attributes of its own, as it stands at a -/
def TupA (K : PySem.W.Frag) (H : Hp) (a : Addr) (vs : List V) : Prop := (∃ o : Obj, H a = some (.frz o (.tup vs)) ∧ o.dict = none) ∨
  ∃ (o : Obj) (its : Array Value) (n : Nat), K.lookup a = some o ∧ o.cls = .type "tuple" ∧ o.dict = none ∧ o.data = .seq its n ∧ its.size ≤ sizeLine ∧ Vals vs its.toList
theorem TupA.sq {K : PySem.W.Frag} {H : Hp} {a : Addr} {vs : List V} (t : TupA K H a vs) : SqT K H a vs := by
  rcases t with ⟨o, e, _⟩ | ⟨o, its, n, e1, e2, _, e3, e4, e5⟩
  · exact .inl (.inr ⟨o, e⟩)
  · exact .inr ⟨o, its, n, e1, e2, e3, e4, e5⟩

/-- the script, as it stands at a: locked, or one of the module's own -/
def ScrA (K : PySem.W.Frag) (H : Hp) (a : Addr) (ns : List Int) : Prop := (∃ o : Obj, H a = some (.frz o (.lst (ns.map V.int)))) ∨
  ∃ (o : Obj) (its : Array Value) (n : Nat), K.lookup a = some o ∧ o.cls = .type "list" ∧ o.dict = none ∧ o.data = .seq its n ∧ its.size ≤ sizeLine ∧ Vals (ns.map V.int) its.toList
theorem ScrA.sq {K : PySem.W.Frag} {H : Hp} {a : Addr} {ns : List Int} (t : ScrA K H a ns) : SqL K H a (ns.map V.int) := by
  rcases t with ⟨o, e⟩ | e
  · exact .inl (.inr ⟨o, e⟩)
  · exact .inr e
/-! d stands for v: as the addresses of the own heap objects, Z addresses that are another one to change -/
mutual
inductive Rep (G : Gx) (Z : Addr → Prop) (as : List Addr) (H : Hp) : D → V → Prop
  | non : Rep G Z as H .non .non
  | bl (b : Bool) : Rep G Z as H (.bl b) (.bl b)
  | int (i : Int) : Rep G Z as H (.int i) (.int i)
  | str (x : Str) : Rep G Z as H (.str x) (.str x)
  | tup {a : Addr} {vs : List V} {ds : List D} : TupA G.K H a vs → Reps G Z as H ds vs → Rep G Z as H (.tup ds) (.ref a)
  | lst {a : Addr} {vs : List V} {ds : List D} : H a = some (.lst vs) → a ∉ as → ¬ Z a → Reps G Z as H ds vs → Rep G Z as H (.lst ds) (.ref a)
  | dct {a : Addr} {kvs : List (Key × V)} {ds : List (Key × D)} : Rd H a (.dK kvs) → a ∉ as → ¬ Z a → RepK G Z as H ds kvs → Rep G Z as H (.dct ds) (.ref a)
  | scr {a : Addr} {ns : List Int} : ScrA G.K H a ns → Rep G Z as H (.scr ns) (.ref a)
  | ins {a dx : Addr} {c : String} {fv : List (Str × V)} {fs : List (String × D)} : H a = some (.ins (adr G.K c) dx fv) → a ∉ as → ¬ Z a → RepF G Z as H fs fv → Rep G Z as H (.ins c fs) (.ref a)
  | set {a : Addr} {ks : List Key} : H a = some (SetQ G.w a ks) → ks.Nodup → a ∉ as → ¬ Z a → Rep G Z as H (.set ks) (.ref a)
  | ref {a : Addr} {n : Nat} : as[n]? = some a → Rep G Z as H (.ref n) (.ref a)
  | fn (f : String) : Rep G Z as H (.fn f) (.ref (adr G.K f))
  | cls (f : String) : Rep G Z as H (.cls f) (.ref (adr G.K f))
  | ty (n : String) : Rep G Z as H (.ty n) (.ty n)
inductive Reps (G : Gx) (Z : Addr → Prop) (as : List Addr) (H : Hp) : List D → List V → Prop
  | nil : Reps G Z as H [] []
  | cons {d : D} {ds : List D} {v : V} {vs : List V} : Rep G Z as H d v → Reps G Z as H ds vs → Reps G Z as H (d :: ds) (v :: vs)
inductive RepK (G : Gx) (Z : Addr → Prop) (as : List Addr) (H : Hp) : List (Key × D) → List (Key × V) → Prop
  | nil : RepK G Z as H [] []
  | cons {k : Key} {d : D} {ds : List (Key × D)} {v : V} {vs : List (Key × V)} : Rep G Z as H d v → RepK G Z as H ds vs → RepK G Z as H ((k, d) :: ds) ((k, v) :: vs)
inductive RepF (G : Gx) (Z : Addr → Prop) (as : List Addr) (H : Hp) : List (String × D) → List (Str × V) → Prop
  | nil : RepF G Z as H [] []
  | cons {k : String} {d : D} {ds : List (String × D)} {v : V} {vs : List (Str × V)} : Rep G Z as H d v → RepF G Z as H ds vs → RepF G Z as H ((k, d) :: ds) ((Str.ofString k, v) :: vs)
end

/-- an object of the own heap stands at a -/
inductive RepO (G : Gx) (Z : Addr → Prop) (as : List Addr) (H : Hp) : Ob → Addr → Prop
  | lst {a : Addr} {vs : List V} {ds : List D} : H a = some (.lst vs) → Reps G Z as H ds vs → RepO G Z as H (.lst ds) a
  | dct {a : Addr} {kvs : List (Key × V)} {ds : List (Key × D)} : H a = some (.dK kvs) → RepK G Z as H ds kvs → RepO G Z as H (.dct ds) a
  | ins {a dx : Addr} {c : String} {fv : List (Str × V)} {fs : List (String × D)} : H a = some (.ins (adr G.K c) dx fv) → RepF G Z as H fs fv → RepO G Z as H (.ins c fs) a

structure Sim (G : Gx) (Z : Addr → Prop) (as : List Addr) (h : Hd) (H : Hp) : Prop where
  len : as.length = h.length
  nd : as.Nodup
  ob : ∀ (n : Nat) (o : Ob) (a : Addr), h[n]? = some o → as[n]? = some a → RepO G Z as H o a
  zs : ∀ a, Z a → H a ≠ none

structure Ext (as : List Addr) (H : Hp) (as' : List Addr) (H' : Hp) : Prop where
  pre : ∃ t, as' = as ++ t
  frame : ∀ a o, H a = some o → a ∉ as → H' a = some o
  fresh : ∀ a, a ∈ as' → a ∈ as ∨ H a = none
  keep : ∀ a, H a ≠ none → H' a ≠ none

/-- what an own object is -/
def mutk : HO → Prop
  | .lst _ => True
  | .dK _ => True
  | .ins _ _ _ => True
  | _ => False
section
variable {G : Gx} {Z : Addr → Prop} {as as' as'' : List Addr} {h : Hd} {H H' H'' : Hp}
theorem RepO.kind {o : Ob} {a : Addr} (r : RepO G Z as H o a) : ∃ u, H a = some u ∧ mutk u := by
  cases r with
  | lst e _ => exact ⟨_, e, trivial⟩
  | dct e _ => exact ⟨_, e, trivial⟩
  | ins e _ => exact ⟨_, e, trivial⟩
theorem Sim.kind (S : Sim G Z as h H) {a : Addr} (m : a ∈ as) : ∃ u, H a = some u ∧ mutk u := by
  obtain ⟨n, hn⟩ := List.mem_iff_getElem?.mp m
  have hl : n < h.length := by
    rw [← S.len]
    exact (List.getElem?_eq_some_iff.mp hn).1
  exact (S.ob n h[n] a (List.getElem?_eq_getElem hl) hn).kind
theorem Sim.notin (S : Sim G Z as h H) {a : Addr} {o : HO} (e : H a = some o) (k : ¬ mutk o) : a ∉ as := fun m => by
  obtain ⟨u, e', q⟩ := S.kind m
  rw [e] at e'
  cases e'
  exact k q
theorem Ext.refl : Ext as H as H := ⟨⟨[], by simp⟩, fun _ _ e _ => e, fun _ m => .inl m, fun _ n => n⟩
theorem Ext.trans (x : Ext as H as' H') (y : Ext as' H' as'' H'') : Ext as H as'' H'' := by
  obtain ⟨t, et⟩ := x.pre
  obtain ⟨u, eu⟩ := y.pre
  refine ⟨⟨t ++ u, by rw [eu, et, List.append_assoc]⟩, fun a o e n => ?_, fun a m => ?_, fun a n => y.keep a (x.keep a n)⟩
  · refine y.frame a o (x.frame a o e n) fun m => ?_
    rcases x.fresh a m with q | q
    · exact n q
    · rw [e] at q
      cases q
  · rcases y.fresh a m with q | q
    · exact x.fresh a q
    · by_cases hm : a ∈ as
      · exact .inl hm
      · refine .inr ?_
        cases e : H a with
        | none => rfl
        | some o =>
          rw [x.frame a o e hm] at q
          cases q
/-- what is not one's own stands on -/
theorem Ext.rd (S : Sim G Z as h H) (x : Ext as H as' H') {a : Addr} {o : HO} (k : ¬ mutk o) (e : Rd H a o) : Rd H' a o := by
  rcases e with e | ⟨b, e⟩
  · exact .inl (x.frame a _ e (S.notin e k))
  · exact .inr ⟨b, x.frame a _ e (S.notin e (fun q => q))⟩
theorem Ext.tupA (S : Sim G Z as h H) (x : Ext as H as' H') {a : Addr} {vs : List V} (e : TupA G.K H a vs) : TupA G.K H' a vs := by
  rcases e with ⟨o, e, q⟩ | e
  · exact .inl ⟨o, x.frame a _ e (S.notin e (fun q => q)), q⟩
  · exact .inr e
theorem Ext.scrA (S : Sim G Z as h H) (x : Ext as H as' H') {a : Addr} {ns : List Int} (e : ScrA G.K H a ns) : ScrA G.K H' a ns := by
  rcases e with ⟨o, e⟩ | e
  · exact .inl ⟨o, x.frame a _ e (S.notin e (fun q => q))⟩
  · exact .inr e
theorem Ext.nin (x : Ext as H as' H') {a : Addr} (e : H a ≠ none) (n : a ∉ as) : a ∉ as' := fun m => by
  rcases x.fresh a m with q | q
  · exact n q
  · exact e q
mutual
theorem Rep.mono {Z0 : Addr → Prop} (S : Sim G Z0 as h H) (x : Ext as H as' H') : ∀ {d : D} {v : V}, Rep G Z as H d v → Rep G Z as' H' d v
  | _, _, .non => .non
  | _, _, .bl b => .bl b
  | _, _, .int i => .int i
  | _, _, .str z => .str z
  | _, _, .tup e r => .tup (x.tupA S e) (Reps.mono S x r)
  | _, _, .lst e n z r => .lst (x.frame _ _ e n) (x.nin (by rw [e]; simp) n) z (Reps.mono S x r)
  | _, _, .dct e n z r => .dct (by
      rcases e with e | ⟨b, e⟩
      · exact .inl (x.frame _ _ e n)
      · exact .inr ⟨b, x.frame _ _ e n⟩) (x.nin (by
        rcases e with e | ⟨b, e⟩
        · rw [e]; simp
        · rw [e]; simp) n) z (RepK.mono S x r)
  | _, _, .scr e => .scr (x.scrA S e)
  | _, _, .ins e n z r => .ins (x.frame _ _ e n) (x.nin (by rw [e]; simp) n) z (RepF.mono S x r)
  | _, _, .set e d n z => .set (x.frame _ _ e n) d (x.nin (by rw [e]; simp) n) z
  | _, _, .ref e => .ref (by
      obtain ⟨t, et⟩ := x.pre
      rw [et, List.getElem?_append_left (List.getElem?_eq_some_iff.mp e).1]
      exact e)
  | _, _, .fn f => .fn f
  | _, _, .cls f => .cls f
  | _, _, .ty n => .ty n
theorem Reps.mono {Z0 : Addr → Prop} (S : Sim G Z0 as h H) (x : Ext as H as' H') : ∀ {d : List D} {v : List V}, Reps G Z as H d v → Reps G Z as' H' d v
  | _, _, .nil => .nil
  | _, _, .cons r q => .cons (Rep.mono S x r) (Reps.mono S x q)
theorem RepK.mono {Z0 : Addr → Prop} (S : Sim G Z0 as h H) (x : Ext as H as' H') : ∀ {d : List (Key × D)} {v : List (Key × V)}, RepK G Z as H d v → RepK G Z as' H' d v
  | _, _, .nil => .nil
  | _, _, .cons r q => .cons (Rep.mono S x r) (RepK.mono S x q)
theorem RepF.mono {Z0 : Addr → Prop} (S : Sim G Z0 as h H) (x : Ext as H as' H') : ∀ {d : List (String × D)} {v : List (Str × V)}, RepF G Z as H d v → RepF G Z as' H' d v
  | _, _, .nil => .nil
  | _, _, .cons r q => .cons (Rep.mono S x r) (RepF.mono S x q)
end
/-! another set of addresses that are not to be touched -/
mutual
theorem Rep.zup {Z' : Addr → Prop} (k : ∀ a, Z' a → Z a ∨ H a = none) : ∀ {d : D} {v : V}, Rep G Z as H d v → Rep G Z' as H d v
  | _, _, .non => .non
  | _, _, .bl b => .bl b
  | _, _, .int i => .int i
  | _, _, .str z => .str z
  | _, _, .tup e r => .tup e (Reps.zup k r)
  | _, _, .lst e n z r => .lst e n (fun q => (k _ q).elim z (by rw [e]; simp)) (Reps.zup k r)
  | _, _, .dct e n z r => .dct e n (fun q => (k _ q).elim z (by
      rcases e with e | ⟨b, e⟩
      · rw [e]; simp
      · rw [e]; simp)) (RepK.zup k r)
  | _, _, .scr e => .scr e
  | _, _, .ins e n z r => .ins e n (fun q => (k _ q).elim z (by rw [e]; simp)) (RepF.zup k r)
  | _, _, .set e d n z => .set e d n (fun q => (k _ q).elim z (by rw [e]; simp))
  | _, _, .ref e => .ref e
  | _, _, .fn f => .fn f
  | _, _, .cls f => .cls f
  | _, _, .ty n => .ty n
theorem Reps.zup {Z' : Addr → Prop} (k : ∀ a, Z' a → Z a ∨ H a = none) : ∀ {d : List D} {v : List V}, Reps G Z as H d v → Reps G Z' as H d v
  | _, _, .nil => .nil
  | _, _, .cons r q => .cons (Rep.zup k r) (Reps.zup k q)
theorem RepK.zup {Z' : Addr → Prop} (k : ∀ a, Z' a → Z a ∨ H a = none) : ∀ {d : List (Key × D)} {v : List (Key × V)}, RepK G Z as H d v → RepK G Z' as H d v
  | _, _, .nil => .nil
  | _, _, .cons r q => .cons (Rep.zup k r) (RepK.zup k q)
theorem RepF.zup {Z' : Addr → Prop} (k : ∀ a, Z' a → Z a ∨ H a = none) : ∀ {d : List (String × D)} {v : List (Str × V)}, RepF G Z as H d v → RepF G Z' as H d v
  | _, _, .nil => .nil
  | _, _, .cons r q => .cons (Rep.zup k r) (RepF.zup k q)
end
/-! some that stood aside become own ones -/
mutual
theorem Rep.join (p : ∃ t, as' = as ++ t) (k : ∀ a, a ∉ as → ¬ Z a → a ∉ as') : ∀ {d : D} {v : V}, Rep G Z as H d v → Rep G Z as' H d v
  | _, _, .non => .non
  | _, _, .bl b => .bl b
  | _, _, .int i => .int i
  | _, _, .str z => .str z
  | _, _, .tup e r => .tup e (Reps.join p k r)
  | _, _, .lst e n z r => .lst e (k _ n z) z (Reps.join p k r)
  | _, _, .dct e n z r => .dct e (k _ n z) z (RepK.join p k r)
  | _, _, .scr e => .scr e
  | _, _, .ins e n z r => .ins e (k _ n z) z (RepF.join p k r)
  | _, _, .set e d n z => .set e d (k _ n z) z
  | _, _, .ref e => .ref (by
      obtain ⟨t, et⟩ := p
      rw [et, List.getElem?_append_left (List.getElem?_eq_some_iff.mp e).1]
      exact e)
  | _, _, .fn f => .fn f
  | _, _, .cls f => .cls f
  | _, _, .ty n => .ty n
theorem Reps.join (p : ∃ t, as' = as ++ t) (k : ∀ a, a ∉ as → ¬ Z a → a ∉ as') : ∀ {d : List D} {v : List V}, Reps G Z as H d v → Reps G Z as' H d v
  | _, _, .nil => .nil
  | _, _, .cons r q => .cons (Rep.join p k r) (Reps.join p k q)
theorem RepK.join (p : ∃ t, as' = as ++ t) (k : ∀ a, a ∉ as → ¬ Z a → a ∉ as') : ∀ {d : List (Key × D)} {v : List (Key × V)}, RepK G Z as H d v → RepK G Z as' H d v
  | _, _, .nil => .nil
  | _, _, .cons r q => .cons (Rep.join p k r) (RepK.join p k q)
theorem RepF.join (p : ∃ t, as' = as ++ t) (k : ∀ a, a ∉ as → ¬ Z a → a ∉ as') : ∀ {d : List (String × D)} {v : List (Str × V)}, RepF G Z as H d v → RepF G Z as' H d v
  | _, _, .nil => .nil
  | _, _, .cons r q => .cons (Rep.join p k r) (RepF.join p k q)
end
/-! a list under way changes -/
theorem tupA_poke {a D : Addr} {vs : List V} {o u : HO} (e : H D = some o) (m : mutk o) (t : TupA G.K H a vs) : TupA G.K (upd H D u) a vs := by
  rcases t with ⟨w, q, d⟩ | t
  · refine .inl ⟨w, ?_, d⟩
    rw [upd_ne fun z => by subst z; rw [e] at q; cases q; exact m]
    exact q
  · exact .inr t
mutual
theorem Rep.poke {D : Addr} {o u : HO} (e : H D = some o) (m : mutk o) (hz : Z D) : ∀ {d : Dk.D} {v : V}, Rep G Z as H d v → Rep G Z as (upd H D u) d v
  | _, _, .non => .non
  | _, _, .bl b => .bl b
  | _, _, .int i => .int i
  | _, _, .str z => .str z
  | _, _, .tup t r => .tup (tupA_poke e m t) (Reps.poke e m hz r)
  | _, _, .lst q n z r => .lst (by rw [upd_ne fun w => z (by rw [w]; exact hz)]; exact q) n z (Reps.poke e m hz r)
  | _, _, .dct q n z r => .dct (by
      rcases q with q | ⟨b, q⟩
      · exact .inl (by rw [upd_ne fun w => z (by rw [w]; exact hz)]; exact q)
      · exact .inr ⟨b, by rw [upd_ne fun w => z (by rw [w]; exact hz)]; exact q⟩) n z (RepK.poke e m hz r)
  | _, _, .scr q => .scr (by
      rcases q with ⟨o', q⟩ | q
      · refine .inl ⟨o', ?_⟩
        rw [upd_ne fun w => by subst w; rw [e] at q; cases q; exact m]
        exact q
      · exact .inr q)
  | _, _, .ins q n z r => .ins (by rw [upd_ne fun w => z (by rw [w]; exact hz)]; exact q) n z (RepF.poke e m hz r)
  | _, _, .set q d n z => .set (by rw [upd_ne fun w => z (by rw [w]; exact hz)]; exact q) d n z
  | _, _, .ref e => .ref e
  | _, _, .fn f => .fn f
  | _, _, .cls f => .cls f
  | _, _, .ty n => .ty n
theorem Reps.poke {D : Addr} {o u : HO} (e : H D = some o) (m : mutk o) (hz : Z D) : ∀ {d : List Dk.D} {v : List V}, Reps G Z as H d v → Reps G Z as (upd H D u) d v
  | _, _, .nil => .nil
  | _, _, .cons r q => .cons (Rep.poke e m hz r) (Reps.poke e m hz q)
theorem RepK.poke {D : Addr} {o u : HO} (e : H D = some o) (m : mutk o) (hz : Z D) : ∀ {d : List (Key × Dk.D)} {v : List (Key × V)}, RepK G Z as H d v → RepK G Z as (upd H D u) d v
  | _, _, .nil => .nil
  | _, _, .cons r q => .cons (Rep.poke e m hz r) (RepK.poke e m hz q)
theorem RepF.poke {D : Addr} {o u : HO} (e : H D = some o) (m : mutk o) (hz : Z D) : ∀ {d : List (String × Dk.D)} {v : List (Str × V)}, RepF G Z as H d v → RepF G Z as (upd H D u) d v
  | _, _, .nil => .nil
  | _, _, .cons r q => .cons (Rep.poke e m hz r) (RepF.poke e m hz q)
end
/-- a new thing that nobody owns -/
theorem Ext.new {p : Addr} {o : HO} (n : H p = none) : Ext as H as (upd H p o) :=
  ⟨⟨[], by simp⟩, fun a u e _ => by rw [upd_ne (ne_of_none e n)]; exact e, fun _ m => .inl m, fun a e => by
    by_cases q : a = p
    · subst q
      rw [upd_same]
      simp
    · rw [upd_ne q]
      exact e⟩
theorem Sim.mono (S : Sim G Z as h H) (x : Ext as H as H') (k : ∀ a ∈ as, H' a = H a) : Sim G Z as h H' := by
  refine ⟨S.len, S.nd, fun n o a e1 e2 => ?_, fun a z => x.keep a (S.zs a z)⟩
  have ek := k a (List.mem_of_getElem? e2)
  cases S.ob n o a e1 e2 with
  | lst e r => exact .lst (ek.trans e) (r.mono S x)
  | dct e r => exact .dct (ek.trans e) (r.mono S x)
  | ins e r => exact .ins (ek.trans e) (r.mono S x)
theorem Sim.new (S : Sim G Z as h H) {p : Addr} {o : HO} (n : H p = none) : Sim G Z as h (upd H p o) :=
  S.mono (.new n) fun a m => by
    obtain ⟨u, e, _⟩ := S.kind m
    exact upd_ne (ne_of_none e n)
theorem Sim.nin (S : Sim G Z as h H) {p : Addr} (n : H p = none) : p ∉ as := fun m => by
  obtain ⟨u, e, _⟩ := S.kind m
  rw [n] at e
  cases e
theorem Sim.nz (S : Sim G Z as h H) {p : Addr} (n : H p = none) : ¬ Z p := fun z => S.zs p z n
end

/-! ### slots -/
structure SimE (G : Gx) (Z : Addr → Prop) (as : List Addr) (H : Hp) (e : Env) (s : St) : Prop where
  len : e.length = s.length
  at_ : ∀ (i : Nat) (d : D), e[i]? = some (some d) → ∃ v, s[i]? = some (some v) ∧ Rep G Z as H d v
section
variable {G : Gx} {Z : Addr → Prop} {as as' : List Addr} {h : Hd} {H H' : Hp} {e : Env} {s : St}
theorem SimE.mono {Z0 : Addr → Prop} (E : SimE G Z as H e s) (S : Sim G Z0 as h H) (x : Ext as H as' H') : SimE G Z as' H' e s :=
  ⟨E.len, fun i d q => by
    obtain ⟨v, q1, q2⟩ := E.at_ i d q
    exact ⟨v, q1, q2.mono S x⟩⟩
theorem SimE.set (E : SimE G Z as H e s) {d : D} {v : V} (r : Rep G Z as H d v) (i : Nat) : SimE G Z as H (e.set i (some d)) (s.set i (some v)) := by
  refine ⟨by rw [List.length_set, List.length_set]; exact E.len, fun j d' q => ?_⟩
  by_cases hj : i = j
  · subst hj
    have hl : i < e.length := by
      have := (List.getElem?_eq_some_iff.mp q).1
      rwa [List.length_set] at this
    rw [List.getElem?_set_self hl] at q
    cases q
    exact ⟨v, List.getElem?_set_self (by rw [← E.len]; exact hl), r⟩
  · rw [List.getElem?_set_ne hj] at q
    obtain ⟨v', q1, q2⟩ := E.at_ j d' q
    exact ⟨v', by rw [List.getElem?_set_ne hj]; exact q1, q2⟩
end

/-! ### what an exception carries -/
def ExR (G : Gx) (Z : Addr → Prop) (as : List Addr) (H : Hp) (c : String) (fs : Fs) (cv : Value) (dx : Option Addr) : Prop :=
  cv = .ref (adr G.K c) ∧ ((fs = [] ∧ dx = none) ∨ ∃ (d : Addr) (fv : List (Str × V)), dx = some d ∧ H d = some (.xd fv) ∧ RepF G Z as H fs fv)

/-- what must hold of the end of an expression -/
def Post (G : Gx) (W : WX) (Z : Addr → Prop) (s : St) (as : List Addr) (H : Hp) (o : Out D) (Q : VK) : Prop := match o with
  | .ok d h' => ∀ (as' : List Addr) (v : V) (H' : Hp), Ext as H as' H' → Sim G Z as' h' H' → Rep G Z as' H' d v → Q v H'
  | .ex c fs h' => ∀ (as' : List Addr) (cv : Value) (dx : Option Addr) (H' : Hp), Ext as H as' H' → Sim G Z as' h' H' → ExR G Z as' H' c fs cv dx → W cv dx s H'
  | .fail => False

abbrev SE := Env → M D
/-- the reading of an expression by what it does -/
def rd (G : Gx) (W : WX) (f : SE) : TE := fun s H Q => ∃ (Z : Addr → Prop) (as : List Addr) (e : Env) (h : Hd), Sim G Z as h H ∧ SimE G Z as H e s ∧ Post G W Z s as H (f e h) Q

section
variable {G : Gx} {W : WX} {Z : Addr → Prop} {as : List Addr} {h : Hd} {H : Hp} {s : St} {Q : VK}
theorem Post.bind {m : M D} {k : D → M D} (p : Post G W Z s as H (bd m k h) Q) :
    Post G W Z s as H (m h) fun v H1 => ∃ (as1 : List Addr) (d : D) (h1 : Hd), m h = .ok d h1 ∧ Ext as H as1 H1 ∧ Sim G Z as1 h1 H1 ∧ Rep G Z as1 H1 d v ∧ Post G W Z s as1 H1 (k d h1) Q := by
  rw [bd_eq] at p
  cases e : m h with
  | fail => rw [e] at p; exact p
  | ex c fs h1 => rw [e] at p; exact p
  | ok d h1 =>
    rw [e] at p
    intro as1 v H1 x S1 r
    refine ⟨as1, d, h1, rfl, x, S1, r, ?_⟩
    dsimp only at p
    cases e2 : k d h1 with
    | fail => rw [e2] at p; exact p
    | ex c fs h2 =>
      rw [e2] at p
      intro as2 cv dx H2 y S2 q
      exact p as2 cv dx H2 (x.trans y) S2 q
    | ok d2 h2 =>
      rw [e2] at p
      intro as2 v2 H2 y S2 q
      exact p as2 v2 H2 (x.trans y) S2 q
end
theorem _root_.L2.PE.imp {X : Cx} {e : Expr} {t t' : TE} (p : PE X e t) (q : ∀ s H Q, t' s H Q → t s H Q) : PE X e t' :=
  ⟨fun pins s st H Q I w => p.run pins s st H Q I (q _ _ _ w)⟩
end Dk
end
section
set_option Elab.async false
set_option linter.all false
set_option maxRecDepth 100000
set_option maxHeartbeats 4000000
/-! DkC: tuples laid with what is known of their object; the operations on values. -/
namespace Dk
open PySem PySem.Spec PyProof.Rows L2
abbrev tupObj (us : List Value) : Obj := { cls := .type "tuple", data := .seq us.toArray }
section
variable {X : Cx} {pins : List (Addr × Obj)} {st : L2.St} {H : Hp} {s : Shared} {Q : VK}
/-- a new tuple -/
theorem layT {xs : List V} {us : List Value} (I : Inv X pins st H s) (r : Vals xs us) (hz : xs.length ≤ sizeLine)
    (q : ∀ (p : Addr) (o : Obj), H p = none → o.dict = none → Q (.ref p) (upd H p (.frz o (.tup xs)))) : EP X pins st Q (.ref s.heap.objs.size) { s with heap := s.heap.push (tupObj us) } := by
  have fr := I.hok.fresh (Nat.le_refl s.heap.objs.size)
  refine ⟨.ref s.heap.objs.size, upd H s.heap.objs.size (.frz (tupObj us) (.tup xs)), ?_, rfl, q _ _ fr rfl⟩
  exact I.laid (t' := s.toks) (o := .frz (tupObj us) (.tup xs)) (fun b ob e => Heap.get?_push_of_some _ e) (Nat.le_refl _)
    ⟨Heap.get?_push_size _ rfl, hz, us, r, IsTup.new _ _⟩
/-- what a tuple's making asks -/
abbrev NewT (H : Hp) (xs : List V) (Q : VK) : Prop := ∀ (p : Addr) (o : Obj), H p = none → o.dict = none → Q (.ref p) (upd H p (.frz o (.tup xs)))
def tTupN (t : TA) : TE := fun st H Q => t st H fun xs H1 => xs.length ≤ sizeLine ∧ NewT H1 xs Q
theorem pe_tupN {es : List Expr} {t : TA} {k : Nat} {pos : Pos} (h : PA X es t) : PE X (.Tuple es k pos) (tTupN t) := by
  refine ⟨fun pins s st H Q I hq => ?_⟩
  refine wpAny_Tuple_spliced (thn (h.run pos pins s st H _ I hq) fun us s1 z => ?_)
  obtain ⟨xs, H1, I1, r, z, q⟩ := z
  exact ⟨by rw [← r.length]; exact z, layT I1 r z q⟩
theorem call_tupleN : CallR X (.type "tuple") (fun xs H Q => ∃ p ys, xs = [.ref p] ∧ ((SqL X.K H p ys ∧ NewT H ys Q) ∨ (SqT X.K H p ys ∧ Q (.ref p) H))) := by
  intro pins s st H xs us Q I r z
  obtain ⟨p, ys, rfl, z⟩ := z
  obtain ⟨u, rfl, ru⟩ := vals1 r
  cases ru
  rcases z with ⟨hq, q⟩ | ⟨hq, q⟩
  · obtain ⟨its, r1, pl, hz⟩ := I.list hq
    have hl := r1.length
    refine call_tuple_list pl.isList (fun h1 kp => ?_) (by simp only [List.size_toArray] <;> omega)
    have J : Inv X pins st H { s with heap := h1 } := I.kept (t' := s.toks) kp
    exact layT J r1 hz q
  · obtain ⟨its, r1, pl, _⟩ := I.tuple hq
    exact call_tuple_same pl ⟨.ref p, H, I, rfl, q⟩
def rCatN (K : PySem.W.Frag) : R2 := fun x y H Q => ∃ a b xs ys, x = .ref a ∧ y = .ref b ∧ SqT K H a xs ∧ SqT K H b ys ∧ xs.length + ys.length ≤ sizeLine ∧
  (xs = [] → Q y H) ∧ (ys = [] → Q x H) ∧ (xs ≠ [] → ys ≠ [] → NewT H (xs ++ ys) Q)
theorem op_catN : OpR X (binaryOp .Add) (rCatN X.K) := by
  intro pins s st H x y v u Q I rx ry z
  obtain ⟨a, b, xs, ys, rfl, rfl, ha, hb, hz, q0, q1, q2⟩ := z
  by_cases hx : xs = []
  · subst hx
    refine op_catA pins s st H _ _ v u Q I rx ry ⟨a, b, [], ys, rfl, rfl, ha, hb, hz, fun _ => q0 rfl, fun e => absurd rfl e, fun e => absurd rfl e⟩
  · cases rx
    cases ry
    obtain ⟨i1, r1, p1, _⟩ := I.tuple ha
    obtain ⟨i2, r2, p2, _⟩ := I.tuple hb
    refine HT.cat_tup p1 p2 (fun z => hx (r1.nil_iff.mp z)) (fun z => ⟨.ref a, H, I, rfl, q1 (r2.nil_iff.mp z)⟩) (fun z => ?_) (by rw [← r1.length, ← r2.length]; exact hz)
    exact layT I (r1.append r2) (by rw [List.length_append]; exact hz) (q2 hx fun w => z (r2.nil_iff.mpr w))
def rSlN (K : PySem.W.Frag) : V → Option Int → Option Int → Hp → VK → Prop := fun x lo hi H Q => ∃ a xs, x = .ref a ∧ SqT K H a xs ∧
  ((HT.sIx xs.length 0 lo = 0 ∧ HT.sIx xs.length xs.length hi = xs.length) → Q x H) ∧ (¬ (HT.sIx xs.length 0 lo = 0 ∧ HT.sIx xs.length xs.length hi = xs.length) → NewT H (cutV xs lo hi) Q)
theorem sl_tupN : SlR X (rSlN X.K) := by
  intro pins s st H x v vl vu lo hi sl Q I rx hs pl pu z
  obtain ⟨a, xs, rfl, hx, q1, q2⟩ := z
  by_cases hw : HT.sIx xs.length 0 lo = 0 ∧ HT.sIx xs.length xs.length hi = xs.length
  · exact sl_tupA pins s st H _ v vl vu lo hi sl Q I rx hs pl pu ⟨a, xs, rfl, hx, fun _ => q1 hw, fun z => absurd hw z⟩
  · cases rx
    obtain ⟨its, r, ht, hz⟩ := I.tuple hx
    have hl : its.toArray.size = xs.length := by rw [List.size_toArray]; exact r.length.symm
    refine ⟨"tuple", _, PyProof.Rows.slot_tuple_getitem.lookup, ht.typeIs, ?_⟩
    refine HT.getItem_tuple_cut ht hs pl pu (by rw [hl]; exact hw) ?_ (by rw [hl]; exact hz)
    rw [hl]
    exact layT I ((r.drop _).take _) (Nat.le_trans (cutV_length xs lo hi) hz) (q2 hw)
/-- a tuple's methods may be called -/
theorem tyok_tup : TyOk X "tuple" (fun x H => ∃ a vs, x = .ref a ∧ TupA X.K H a vs) := by
  intro pins s st H x v I r z
  obtain ⟨a, vs, rfl, t⟩ := z
  cases r
  obtain ⟨its, _, p, _⟩ := I.tuple t.sq
  refine ⟨p.typeIs, fun b e => ?_⟩
  cases e
  rcases t with ⟨o, e, n⟩ | ⟨o, its, n, e1, e2, e3, _⟩
  · exact ⟨o, (I.hok a _ e).1, n⟩
  · exact ⟨o, I.kIn a o e1, e3⟩
end
end Dk
end
section
set_option Elab.async false
set_option linter.all false
set_option maxRecDepth 100000
set_option maxHeartbeats 4000000
/-! DkD: data seen in the machine's heap; equality. -/
namespace Dk
open PySem PySem.Spec PyProof.Rows L2
mutual
inductive Vw (s : Shared) : D → Value → Prop
  | non : Vw s .non .none
  | bl (b : Bool) : Vw s (.bl b) (.bool b)
  | int (i : Int) (t : Tok) : Vw s (.int i) (.int i t)
  | str (x : Str) (t : Tok) : Vw s (.str x) (.str x t)
  | lst {a : Addr} {us : List Value} {ds : List D} : s.heap.IsList a us.toArray → Vws s ds us → Vw s (.lst ds) (.ref a)
  | tup {a : Addr} {us : List Value} {ds : List D} : s.heap.IsTuple a us.toArray → Vws s ds us → Vw s (.tup ds) (.ref a)
  | odd {d : D} {u : Value} : kindN d = none → Vw s d u
inductive Vws (s : Shared) : List D → List Value → Prop
  | nil : Vws s [] []
  | cons {d : D} {u : Value} {ds : List D} {us : List Value} : Vw s d u → Vws s ds us → Vws s (d :: ds) (u :: us)
end
theorem Vws.length {s : Shared} : ∀ {ds : List D} {us : List Value}, Vws s ds us → ds.length = us.length
  | _, _, .nil => rfl
  | _, _, .cons _ q => by rw [List.length_cons, List.length_cons, q.length]
theorem Vws.get {s : Shared} : ∀ {ds : List D} {us : List Value} {j : Nat} {u : Value}, Vws s ds us → us[j]? = some u → ∃ d, ds[j]? = some d ∧ Vw s d u
  | _, _, _, _, .nil, e => by simp at e
  | _, _, 0, _, .cons r _, e => by
    simp at e
    subst e
    exact ⟨_, rfl, r⟩
  | _, _, j + 1, u, .cons _ q, e => by
    obtain ⟨d, h1, h2⟩ := q.get (j := j) (u := u) (by simpa using e)
    exact ⟨d, by simpa using h1, h2⟩
theorem list_inj {h : Heap} {a : Addr} {us us' : List Value} (p : h.IsList a us.toArray) (q : h.IsList a us'.toArray) : us = us' := by
  obtain ⟨o, e, _, n, d⟩ := p
  obtain ⟨o', e', _, n', d'⟩ := q
  rw [e] at e'
  cases e'
  rw [d] at d'
  injection d' with z _
  simpa using congrArg Array.toList z
theorem tuple_inj {h : Heap} {a : Addr} {us us' : List Value} (p : h.IsTuple a us.toArray) (q : h.IsTuple a us'.toArray) : us = us' := by
  obtain ⟨o, e, _, n, d⟩ := p
  obtain ⟨o', e', _, n', d'⟩ := q
  rw [e] at e'
  cases e'
  rw [d] at d'
  injection d' with z _
  simpa using congrArg Array.toList z
theorem eqD_odd1 {d : D} (k : kindN d = none) (n : Nat) (e : D) : eqD n d e = none := by
  cases n with
  | zero => rfl
  | succ n => cases d <;> simp [kindN] at k <;> simp [eqD, kindN]
theorem eqD_odd2 {e : D} (k : kindN e = none) (n : Nat) (d : D) : eqD n d e = none := by
  cases n with
  | zero => rfl
  | succ n =>
    cases e <;> simp [kindN] at k <;> cases d <;> simp [eqD, kindN]
theorem eqLs_same {s : Shared} {f : D → D → Option Bool} (hf : ∀ (d e : D) (u : Value) (b : Bool), Vw s d u → Vw s e u → f d e = some b → b = true) :
    ∀ (ds es : List D) (us : List Value) (b : Bool), Vws s ds us → Vws s es us → eqLs f ds es = some b → b = true
  | _, _, _, b, .nil, .nil, e => by simpa [eqLs] using e.symm
  | _, _, _, b, @Vws.cons _ x u xs us r q, @Vws.cons _ y _ ys _ r' q', e => by
    unfold eqLs at e
    cases e1 : f x y with
    | none => rw [e1] at e; simp at e
    | some c =>
      cases e2 : eqLs f xs ys with
      | none => rw [e1, e2] at e; simp at e
      | some c' =>
        rw [e1, e2] at e
        have h1 := hf x y u c r r' e1
        have h2 := eqLs_same hf xs ys us c' q q' e2
        subst h1 h2
        simpa using e.symm
theorem Vw.same {s : Shared} : ∀ (n : Nat) (d e : D) (u : Value) (b : Bool), Vw s d u → Vw s e u → eqD n d e = some b → b = true
  | 0, _, _, _, _, _, _, e => by simp [eqD] at e
  | n + 1, _, _, _, b, .odd k, _, e => by rw [eqD_odd1 k] at e; cases e
  | n + 1, _, _, _, b, .non, q, e => by
    cases q with
    | non => simpa [eqD] using e.symm
    | odd k => rw [eqD_odd2 k] at e; cases e
  | n + 1, _, _, _, b, .bl _, q, e => by
    cases q with
    | bl _ => simpa [eqD] using e.symm
    | odd k => rw [eqD_odd2 k] at e; cases e
  | n + 1, _, _, _, b, .int _ _, q, e => by
    cases q with
    | int _ _ => simpa [eqD] using e.symm
    | odd k => rw [eqD_odd2 k] at e; cases e
  | n + 1, _, _, _, b, .str _ _, q, e => by
    cases q with
    | str _ _ => simpa [eqD] using e.symm
    | odd k => rw [eqD_odd2 k] at e; cases e
  | n + 1, _, _, _, b, .lst p r, q, e => by
    cases q with
    | lst p' r' =>
      have z := list_inj p p'
      subst z
      exact eqLs_same (Vw.same n) _ _ _ b r r' (by simpa [eqD] using e)
    | tup p' r' => exact absurd rfl (SeqAt.ne_of_list_tuple p p')
    | odd k => rw [eqD_odd2 k] at e; cases e
  | n + 1, _, _, _, b, .tup p r, q, e => by
    cases q with
    | tup p' r' =>
      have z := tuple_inj p p'
      subst z
      exact eqLs_same (Vw.same n) _ _ _ b r r' (by simpa [eqD] using e)
    | lst p' r' => exact absurd rfl (SeqAt.ne_of_list_tuple p' p)
    | odd k => rw [eqD_odd2 k] at e; cases e
/-- the pairs of two rows -/
def pairE (f : D → D → Option Bool) (xs ys : List D) (j : Nat) : Bool := match xs[j]?, ys[j]? with
  | some x, some y => (f x y).getD true
  | _, _ => true
theorem eqLs_all {f : D → D → Option Bool} : ∀ (xs ys : List D) (b : Bool), eqLs f xs ys = some b →
    (∀ (j : Nat) (x y : D), xs[j]? = some x → ys[j]? = some y → f x y = some (pairE f xs ys j)) ∧ b = ((List.range (min xs.length ys.length)).all (pairE f xs ys) && xs.length == ys.length)
  | [], [], b, e => by
    simp [eqLs] at e
    subst e
    exact ⟨fun j x y h => by simp at h, by simp⟩
  | [], y :: ys, b, e => by
    simp [eqLs] at e
    subst e
    exact ⟨fun j x y h => by simp at h, by simp⟩
  | x :: xs, [], b, e => by
    simp [eqLs] at e
    subst e
    exact ⟨fun j x y _ h => by simp at h, by simp⟩
  | x :: xs, y :: ys, b, e => by
    unfold eqLs at e
    cases e1 : f x y with
    | none => rw [e1] at e; simp at e
    | some c =>
      cases e2 : eqLs f xs ys with
      | none => rw [e1, e2] at e; simp at e
      | some c' =>
        rw [e1, e2] at e
        obtain ⟨h1, h2⟩ := eqLs_all xs ys c' e2
        have es : ∀ j, pairE f (x :: xs) (y :: ys) (j + 1) = pairE f xs ys j := fun j => by
          unfold pairE
          rw [List.getElem?_cons_succ, List.getElem?_cons_succ]
        have ez : pairE f (x :: xs) (y :: ys) 0 = c := by
          unfold pairE
          simp [e1]
        refine ⟨fun j x' y' hx hy => ?_, ?_⟩
        · cases j with
          | zero =>
            simp at hx hy
            subst hx hy
            rw [ez, e1]
          | succ j =>
            rw [es]
            exact h1 j x' y' (by simpa using hx) (by simpa using hy)
        · have eb : b = (c && c') := by simpa using e.symm
          rw [eb, h2]
          rw [List.length_cons, List.length_cons, Nat.succ_min_succ, List.range_succ_eq_map, List.all_cons, ez, List.all_map]
          have ef : (pairE f (x :: xs) (y :: ys) ∘ Nat.succ) = pairE f xs ys := funext es
          rw [ef]
          simp [Bool.and_assoc]
/-- equality of data as the machine has it -/
theorem eqAt_vw {s : Shared} : ∀ (n : Nat) (A : Around) (d e : D) (u v : Value) (b : Bool), Vw s d u → Vw s e v → eqD n d e = some b → A.units + n < cLine →
    SeqAt.EqAt A s u v b ∧ SeqAt.RcAt A s u v b ∧ SeqAt.RcNeAt A s u v (!b)
  | 0, _, _, _, _, _, _, _, _, e, _ => by simp [eqD] at e
  | n + 1, A, _, _, _, _, b, .odd k, q, e, hu => by rw [eqD_odd1 k] at e; cases e
  | n + 1, A, _, _, _, _, b, .non, q, e, hu => by
    have hu' : A.units < cLine := by omega
    cases q with
    | odd k => rw [eqD_odd2 k] at e; cases e
    | non => simp [eqD] at e; subst e; exact ⟨.same _, .none_none, .none_none⟩
    | bl y => simp [eqD, kindN] at e; subst e; exact ⟨.none_bool y, .none_bool y, .none_bool y⟩
    | int y t => simp [eqD, kindN] at e; subst e; exact ⟨.none_int y t, .none_int y t, .none_int y t⟩
    | str y t => simp [eqD, kindN] at e; subst e; exact ⟨.none_str y t, .none_str y t, .none_str y t⟩
    | lst p _ => simp [eqD, kindN] at e; subst e; exact ⟨.none_list p hu', .none_list p hu', .none_list p hu'⟩
    | tup p _ => simp [eqD, kindN] at e; subst e; exact ⟨.none_tuple p hu', .none_tuple p hu', .none_tuple p hu'⟩
  | n + 1, A, _, _, _, _, b, .bl x, q, e, hu => by
    have hu' : A.units < cLine := by omega
    cases q with
    | odd k => rw [eqD_odd2 k] at e; cases e
    | non => simp [eqD, kindN] at e; subst e; exact ⟨.bool_none x, .bool_none x, .bool_none x⟩
    | bl y => simp [eqD] at e; subst e; exact ⟨.bool_bool x y, .bool_bool x y, .bool_bool x y⟩
    | int y t => simp only [eqD, Option.some.injEq] at e; subst e; exact ⟨.bool_int x y t, .bool_int x y t, .bool_int x y t⟩
    | str y t => simp [eqD, kindN] at e; subst e; exact ⟨.bool_str x y t, .bool_str x y t, .bool_str x y t⟩
    | lst p _ => simp [eqD, kindN] at e; subst e; exact ⟨.bool_list x p hu', .bool_list x p hu', .bool_list x p hu'⟩
    | tup p _ => simp [eqD, kindN] at e; subst e; exact ⟨.bool_tuple x p hu', .bool_tuple x p hu', .bool_tuple x p hu'⟩
  | n + 1, A, _, _, _, _, b, .int x t, q, e, hu => by
    have hu' : A.units < cLine := by omega
    cases q with
    | odd k => rw [eqD_odd2 k] at e; cases e
    | non => simp [eqD, kindN] at e; subst e; exact ⟨.int_none x t, .int_none x t, .int_none x t⟩
    | bl y => simp only [eqD, Option.some.injEq] at e; subst e; exact ⟨.int_bool x t y, .int_bool x t y, .int_bool x t y⟩
    | int y t' => simp only [eqD, Option.some.injEq] at e; subst e; exact ⟨.int_int x t y t', .int_int x t y t', .int_int x t y t'⟩
    | str y t' => simp [eqD, kindN] at e; subst e; exact ⟨.int_str x t y t', .int_str x t y t', .int_str x t y t'⟩
    | lst p _ => simp [eqD, kindN] at e; subst e; exact ⟨.int_list x t p hu', .int_list x t p hu', .int_list x t p hu'⟩
    | tup p _ => simp [eqD, kindN] at e; subst e; exact ⟨.int_tuple x t p hu', .int_tuple x t p hu', .int_tuple x t p hu'⟩
  | n + 1, A, _, _, _, _, b, .str x t, q, e, hu => by
    have hu' : A.units < cLine := by omega
    cases q with
    | odd k => rw [eqD_odd2 k] at e; cases e
    | non => simp [eqD, kindN] at e; subst e; exact ⟨.str_none x t, .str_none x t, .str_none x t⟩
    | bl y => simp [eqD, kindN] at e; subst e; exact ⟨.str_bool x t y, .str_bool x t y, .str_bool x t y⟩
    | int y t' => simp [eqD, kindN] at e; subst e; exact ⟨.str_int x t y t', .str_int x t y t', .str_int x t y t'⟩
    | str y t' => simp only [eqD, Option.some.injEq] at e; subst e; exact ⟨.str_str x t y t', .str_str x t y t', .str_str x t y t'⟩
    | lst p _ => simp [eqD, kindN] at e; subst e; exact ⟨.str_list x t p hu', .str_list x t p hu', .str_list x t p hu'⟩
    | tup p _ => simp [eqD, kindN] at e; subst e; exact ⟨.str_tuple x t p hu', .str_tuple x t p hu', .str_tuple x t p hu'⟩
  | n + 1, A, _, _, _, _, b, @Vw.lst _ a us ds p r, q, e, hu => by
    have hu' : A.units < cLine := by omega
    cases q with
    | odd k => rw [eqD_odd2 k] at e; cases e
    | non => simp [eqD, kindN] at e; subst e; exact ⟨.list_none p hu', .list_none p hu', .list_none p hu'⟩
    | bl y => simp [eqD, kindN] at e; subst e; exact ⟨.list_bool y p hu', .list_bool y p hu', .list_bool y p hu'⟩
    | int y t' => simp [eqD, kindN] at e; subst e; exact ⟨.list_int y t' p hu', .list_int y t' p hu', .list_int y t' p hu'⟩
    | str y t' => simp [eqD, kindN] at e; subst e; exact ⟨.list_str y t' p hu', .list_str y t' p hu', .list_str y t' p hu'⟩
    | tup p' _ => simp [eqD, kindN] at e; subst e; exact ⟨.list_tuple p p' hu', .list_tuple p p' hu', .list_tuple p p' hu'⟩
    | @lst a' us' ds' p' r' =>
      have e' : eqLs (eqD n) ds ds' = some b := by simpa [eqD] using e
      obtain ⟨h1, h2⟩ := eqLs_all ds ds' b e'
      have l1 := r.length
      have l2 := r'.length
      have he : ∀ j (j1 : j < us.toArray.size) (j2 : j < us'.toArray.size), SeqAt.EqAt A.in1 s us.toArray[j] us'.toArray[j] (pairE (eqD n) ds ds' j) := fun j j1 j2 => by
        have j1' : j < us.length := by simpa using j1
        have j2' : j < us'.length := by simpa using j2
        obtain ⟨x, x1, x2⟩ := r.get (List.getElem?_eq_getElem j1')
        obtain ⟨y, y1, y2⟩ := r'.get (List.getElem?_eq_getElem j2')
        exact (eqAt_vw n A.in1 x y _ _ _ x2 y2 (h1 j x y x1 y1) (by show A.units + 1 + n < cLine; omega)).1
      have hrc : SeqAt.RcAt A s (.ref a) (.ref a') b ∧ SeqAt.RcNeAt A s (.ref a) (.ref a') (!b) := by
        by_cases hz : us.length = us'.length
        · have eb : b = (List.range us.toArray.size).all (pairE (eqD n) ds ds') := by
            rw [h2, l1, l2, ← hz, Nat.min_self]
            simp
          rw [eb]
          exact ⟨.lists p p' (by simpa using hz) hu' he, .lists p p' (by simpa using hz) hu' he⟩
        · have eb : b = false := by
            rw [h2, l1, l2]
            simp [hz]
          rw [eb]
          exact ⟨.lists_lengths p p' (by simpa using hz) hu', .lists_lengths p p' (by simpa using hz) hu'⟩
      refine ⟨?_, hrc.1, hrc.2⟩
      by_cases ha : a = a'
      · subst ha
        have z := list_inj p p'
        subst z
        have z3 := eqLs_same (Vw.same n) _ _ _ _ r r' e'
        subst z3
        exact .same _
      · exact .of_refs ha hrc.1
  | n + 1, A, _, _, _, _, b, @Vw.tup _ a us ds p r, q, e, hu => by
    have hu' : A.units < cLine := by omega
    cases q with
    | odd k => rw [eqD_odd2 k] at e; cases e
    | non => simp [eqD, kindN] at e; subst e; exact ⟨.tuple_none p hu', .tuple_none p hu', .tuple_none p hu'⟩
    | bl y => simp [eqD, kindN] at e; subst e; exact ⟨.tuple_bool y p hu', .tuple_bool y p hu', .tuple_bool y p hu'⟩
    | int y t' => simp [eqD, kindN] at e; subst e; exact ⟨.tuple_int y t' p hu', .tuple_int y t' p hu', .tuple_int y t' p hu'⟩
    | str y t' => simp [eqD, kindN] at e; subst e; exact ⟨.tuple_str y t' p hu', .tuple_str y t' p hu', .tuple_str y t' p hu'⟩
    | lst p' _ => simp [eqD, kindN] at e; subst e; exact ⟨.tuple_list p p' hu', .tuple_list p p' hu', .tuple_list p p' hu'⟩
    | @tup a' us' ds' p' r' =>
      have e' : eqLs (eqD n) ds ds' = some b := by simpa [eqD] using e
      obtain ⟨h1, h2⟩ := eqLs_all ds ds' b e'
      have l1 := r.length
      have l2 := r'.length
      have he : ∀ j (j1 : j < us.toArray.size) (j2 : j < us'.toArray.size), SeqAt.EqAt A.in1 s us.toArray[j] us'.toArray[j] (pairE (eqD n) ds ds' j) := fun j j1 j2 => by
        have j1' : j < us.length := by simpa using j1
        have j2' : j < us'.length := by simpa using j2
        obtain ⟨x, x1, x2⟩ := r.get (List.getElem?_eq_getElem j1')
        obtain ⟨y, y1, y2⟩ := r'.get (List.getElem?_eq_getElem j2')
        exact (eqAt_vw n A.in1 x y _ _ _ x2 y2 (h1 j x y x1 y1) (by show A.units + 1 + n < cLine; omega)).1
      have eb : b = ((List.range (min us.toArray.size us'.toArray.size)).all (pairE (eqD n) ds ds') && us.toArray.size == us'.toArray.size) := by
        rw [h2, l1, l2]
        simp
      have hrc : SeqAt.RcAt A s (.ref a) (.ref a') b ∧ SeqAt.RcNeAt A s (.ref a) (.ref a') (!b) := by
        rw [eb]
        exact ⟨.tuples p p' hu' he, .tuples p p' hu' he⟩
      refine ⟨?_, hrc.1, hrc.2⟩
      by_cases ha : a = a'
      · subst ha
        have z := tuple_inj p p'
        subst z
        have z3 := eqLs_same (Vw.same n) _ _ _ _ r r' e'
        subst z3
        exact .same _
      · exact .of_refs ha hrc.1
end Dk
end
section
set_option Elab.async false
set_option linter.all false
set_option maxRecDepth 100000
set_option maxHeartbeats 4000000
/-! DkE: the operations on data are those of the machine. -/
namespace Dk
open PySem PySem.Spec PyProof.Rows L2
abbrev gx (X : Cx) : Gx := ⟨X.K, X.prog, X.w⟩
section
variable {X : Cx} {Z : Addr → Prop} {as : List Addr} {h : Hd} {pins : List (Addr × Obj)} {st : L2.St} {H : Hp} {s : Shared}
mutual
theorem Rep.vw (I : Inv X pins st H s) : ∀ {d : D} {v : V} {u : Value}, Rep (gx X) Z as H d v → RelV v u → Vw s d u
  | _, _, _, .non, r => by cases r; exact .non
  | _, _, _, .bl b, r => by cases r; exact .bl b
  | _, _, _, .int i, r => by obtain ⟨t, rfl⟩ := r; exact .int i t
  | _, _, _, .str x, r => by obtain ⟨t, rfl⟩ := r; exact .str x t
  | _, _, _, .tup e q, r => by
    cases r
    obtain ⟨us, rv, p, _⟩ := I.tuple e.sq
    exact .tup (show s.heap.IsTuple _ _ from p) (Reps.vw I q rv)
  | _, _, _, .lst e n z q, r => by
    cases r
    obtain ⟨us, rv, p, _⟩ := I.list (SqL.of e)
    exact .lst p.isList (Reps.vw I q rv)
  | _, _, _, .dct _ _ _ _, _ => .odd rfl
  | _, _, _, .set _ _ _ _, _ => .odd rfl
  | _, _, _, .scr _, _ => .odd rfl
  | _, _, _, .ins _ _ _ _, _ => .odd rfl
  | _, _, _, .ref _, _ => .odd rfl
  | _, _, _, .fn _, _ => .odd rfl
  | _, _, _, .cls _, _ => .odd rfl
  | _, _, _, .ty _, _ => .odd rfl
theorem Reps.vw (I : Inv X pins st H s) : ∀ {d : List D} {v : List V} {u : List Value}, Reps (gx X) Z as H d v → Vals v u → Vws s d u
  | _, _, _, .nil, r => by cases r; exact .nil
  | _, _, _, .cons p q, r => by
    cases r with
    | cons r1 r2 => exact .cons (Rep.vw I p r1) (Reps.vw I q r2)
end
theorem Reps.length {G : Gx} : ∀ {d : List D} {v : List V}, Reps G Z as H d v → d.length = v.length
  | _, _, .nil => rfl
  | _, _, .cons _ q => by rw [List.length_cons, List.length_cons, q.length]
theorem Reps.append {G : Gx} : ∀ {d d' : List D} {v v' : List V}, Reps G Z as H d v → Reps G Z as H d' v' → Reps G Z as H (d ++ d') (v ++ v')
  | _, _, _, _, .nil, q => q
  | _, _, _, _, .cons r p, q => .cons r (p.append q)
theorem Reps.get {G : Gx} : ∀ {d : List D} {v : List V} {j : Nat} {x : D}, Reps G Z as H d v → d[j]? = some x → ∃ y, v[j]? = some y ∧ Rep G Z as H x y
  | _, _, _, _, .nil, e => by simp at e
  | _, _, 0, _, .cons r _, e => by simp at e; subst e; exact ⟨_, rfl, r⟩
  | _, _, j + 1, x, .cons _ q, e => by
    obtain ⟨y, h1, h2⟩ := q.get (j := j) (x := x) (by simpa using e)
    exact ⟨y, by simpa using h1, h2⟩
theorem Reps.take {G : Gx} : ∀ {d : List D} {v : List V} (n : Nat), Reps G Z as H d v → Reps G Z as H (d.take n) (v.take n)
  | _, _, 0, _ => .nil
  | _, _, _ + 1, .nil => .nil
  | _, _, n + 1, .cons r q => .cons r (q.take n)
theorem Reps.drop {G : Gx} : ∀ {d : List D} {v : List V} (n : Nat), Reps G Z as H d v → Reps G Z as H (d.drop n) (v.drop n)
  | _, _, 0, q => q
  | _, _, _ + 1, .nil => .nil
  | _, _, n + 1, .cons _ q => q.drop n
theorem Reps.set {G : Gx} {x : D} {y : V} (r : Rep G Z as H x y) : ∀ {d : List D} {v : List V} (n : Nat), Reps G Z as H d v → Reps G Z as H (d.set n x) (v.set n y)
  | _, _, _, .nil => .nil
  | _, _, 0, .cons _ q => .cons r q
  | _, _, n + 1, .cons p q => .cons p (q.set r n)
theorem Reps.rev {G : Gx} : ∀ {d : List D} {v : List V}, Reps G Z as H d v → Reps G Z as H d.reverse v.reverse
  | _, _, .nil => .nil
  | _, _, .cons r q => by
    rw [List.reverse_cons, List.reverse_cons]
    exact q.rev.append (.cons r .nil)
theorem asL_rep {G : Gx} (S : Sim G Z as h H) {d : D} {v : V} {xs : List D} (r : Rep G Z as H d v) (e : asL h d = some xs) : ∃ a vs, v = .ref a ∧ H a = some (.lst vs) ∧ Reps G Z as H xs vs := by
  cases r with
  | lst e1 _ _ q =>
    simp [asL] at e
    subst e
    exact ⟨_, _, rfl, e1, q⟩
  | @ref a n e1 =>
    unfold asL at e
    cases e2 : h[n]? with
    | none => simp [e2] at e
    | some o =>
      simp only [e2] at e
      cases o with
      | lst ys =>
        simp at e
        subst e
        cases S.ob n _ a e2 e1 with
        | lst e3 q => exact ⟨_, _, rfl, e3, q⟩
      | dct _ => simp at e
      | ins _ _ => simp at e
  | _ => simp [asL] at e
theorem asS_rep {G : Gx} (S : Sim G Z as h H) {d : D} {v : V} {xs : List D} (r : Rep G Z as H d v) (e : asS h d = some xs) : ∃ a vs, v = .ref a ∧ (H a = some (.lst vs) ∨ TupA G.K H a vs) ∧ Reps G Z as H xs vs := by
  by_cases t : ∃ ys, d = .tup ys
  · obtain ⟨ys, rfl⟩ := t
    cases r with
    | tup e1 q =>
      simp [asS] at e
      subst e
      exact ⟨_, _, rfl, .inr e1, q⟩
  · have e' : asL h d = some xs := by
      cases d <;> first | exact e | exact absurd ⟨_, rfl⟩ t
    obtain ⟨a, vs, h1, h2, h3⟩ := asL_rep S r e'
    exact ⟨a, vs, h1, .inl h2, h3⟩
theorem asK_rep {G : Gx} (S : Sim G Z as h H) {d : D} {v : V} {xs : List (Key × D)} (r : Rep G Z as H d v) (e : asK h d = some xs) : ∃ a vs, v = .ref a ∧ Rd H a (.dK vs) ∧ RepK G Z as H xs vs := by
  cases r with
  | dct e1 _ _ q =>
    simp [asK] at e
    subst e
    exact ⟨_, _, rfl, e1, q⟩
  | @ref a n e1 =>
    unfold asK at e
    cases e2 : h[n]? with
    | none => simp [e2] at e
    | some o =>
      simp only [e2] at e
      cases o with
      | dct ys =>
        simp at e
        subst e
        cases S.ob n _ a e2 e1 with
        | dct e3 q => exact ⟨_, _, rfl, .inl e3, q⟩
      | lst _ => simp at e
      | ins _ _ => simp at e
  | _ => simp [asK] at e
/-- an own list, seen as data -/
theorem rs_rep (I : Inv X pins st H s) (S : Sim (gx X) Z as h H) {d : D} {v : V} {u : Value} (r : Rep (gx X) Z as H d v) (rv : RelV v u) : Vw s (rs h d) u := by
  by_cases t : ∃ n xs, d = .ref n ∧ h[n]? = some (.lst xs)
  · obtain ⟨n, xs, rfl, e⟩ := t
    have ea : asL h (.ref n) = some xs := by simp [asL, e]
    obtain ⟨a, vs, rfl, h2, h3⟩ := asL_rep S r ea
    cases rv
    obtain ⟨us, r1, p, _⟩ := I.list (SqL.of h2)
    have er : rs h (.ref n) = .lst xs := by simp [rs, e]
    rw [er]
    exact .lst p.isList (h3.vw I r1)
  · have er : rs h d = d := by
      cases d with
      | ref n =>
        cases e2 : h[n]? with
        | none => simp [rs, e2]
        | some o =>
          cases o with
          | lst xs => exact absurd ⟨n, xs, rfl, e2⟩ t
          | dct _ => simp [rs, e2]
          | ins _ _ => simp [rs, e2]
      | _ => rfl
    rw [er]
    exact r.vw I rv
end

/-- what must hold of a built-in's end -/
def PR (G : Gx) (Z : Addr → Prop) (as : List Addr) (h : Hd) (H : Hp) (mu : Bool) (o : Option Res) (Q : VK) : Prop :=
  ∃ r, o = some r ∧ ∀ (as' : List Addr) (v : V) (H' : Hp) (d : D) (h' : Hd), fin mu r h = .ok d h' → Ext as H as' H' → Sim G Z as' h' H' → Rep G Z as' H' d v → Q v H'
section
variable {G : Gx} {W : WX} {Z : Addr → Prop} {as : List Addr} {h : Hd} {H : Hp} {s : L2.St} {Q : VK} {mu : Bool}
theorem Post.pr {o : Option Res} (p : Post G W Z s as H (lf mu o h) Q) : PR G Z as h H mu o Q := by
  cases o with
  | none => exact False.elim p
  | some r =>
    refine ⟨r, rfl, fun as' v H' d h' e x S q => ?_⟩
    rw [lf_some, e] at p
    exact p as' v H' x S q
theorem PR.here {d : D} {v : V} (p : PR G Z as h H mu (some (.v d)) Q) (S : Sim G Z as h H) (r : Rep G Z as H d v) : Q v H := by
  obtain ⟨r', e, k⟩ := p
  cases e
  exact k as v H d h rfl .refl S r
theorem PR.at_ {d : D} {v : V} {H' : Hp} (p : PR G Z as h H mu (some (.v d)) Q) (x : Ext as H as H') (S : Sim G Z as h H') (r : Rep G Z as H' d v) : Q v H' := by
  obtain ⟨r', e, k⟩ := p
  cases e
  exact k as v H' d h rfl x S r
theorem PR.newT {ds : List D} {vs : List V} (p : PR G Z as h H mu (some (.v (.tup ds))) Q) (S : Sim G Z as h H) (r : Reps G Z as H ds vs) : NewT H vs Q := by
  intro a o n d
  exact p.at_ (.new n) (S.new n) (.tup (.inl ⟨o, upd_same, d⟩) (r.mono S (.new n)))
/-- an object joins the own ones -/
theorem Ext.own {p : Addr} {o : HO} (n : H p = none) : Ext as H (as ++ [p]) (upd H p o) := by
  have x := Ext.new (as := as) (o := o) n
  refine ⟨⟨[p], rfl⟩, x.frame, fun a m => ?_, x.keep⟩
  rcases List.mem_append.mp m with m | m
  · exact .inl m
  · exact .inr (by rw [List.mem_singleton.mp m]; exact n)
theorem Sim.own (S : Sim G Z as h H) {p : Addr} {u : HO} {o : Ob} (n : H p = none) (r : RepO G Z (as ++ [p]) (upd H p u) o p) : Sim G Z (as ++ [p]) (h ++ [o]) (upd H p u) := by
  have x : Ext as H (as ++ [p]) (upd H p u) := .own n
  refine ⟨by rw [List.length_append, List.length_append, S.len]; rfl, ?_, fun m o' a e1 e2 => ?_, fun a z => x.keep a (S.zs a z)⟩
  · refine List.nodup_append.mpr ⟨S.nd, by simp, fun a ha b hb => ?_⟩
    rw [List.mem_singleton.mp hb]
    exact fun z => S.nin n (z ▸ ha)
  · by_cases hm : m < h.length
    · rw [List.getElem?_append_left hm] at e1
      rw [List.getElem?_append_left (by rw [S.len]; exact hm)] at e2
      have ne : a ≠ p := fun z => S.nin n (z ▸ List.mem_of_getElem? e2)
      have ek : ∀ w, H a = some w → upd H p u a = some w := fun w q => by rw [upd_ne ne]; exact q
      cases S.ob m o' a e1 e2 with
      | lst e q => exact .lst (ek _ e) (q.mono S x)
      | dct e q => exact .dct (ek _ e) (q.mono S x)
      | ins e q => exact .ins (ek _ e) (q.mono S x)
    · have hl : m < (h ++ [o]).length := (List.getElem?_eq_some_iff.mp e1).1
      rw [List.length_append] at hl
      have em : m = h.length := by simp at hl; omega
      subst em
      rw [List.getElem?_append_right (Nat.le_refl _), Nat.sub_self] at e1
      rw [← S.len, List.getElem?_append_right (Nat.le_refl _), Nat.sub_self] at e2
      cases e1
      cases e2
      exact r
theorem PR.newL {ds : List D} {vs : List V} {p : Addr} (q : PR G Z as h H mu (some (.l ds)) Q) (S : Sim G Z as h H) (r : Reps G Z as H ds vs) (n : H p = none) : Q (.ref p) (upd H p (.lst vs)) := by
  obtain ⟨r', e, k⟩ := q
  cases e
  cases mu with
  | false => exact k as _ _ _ h rfl (.new n) (S.new n) (.lst upd_same (S.nin n) (S.nz n) (r.mono S (.new n)))
  | true =>
    have x : Ext as H (as ++ [p]) (upd H p (.lst vs)) := .own n
    refine k (as ++ [p]) _ _ _ (h ++ [.lst ds]) rfl x (S.own n (.lst upd_same (r.mono S x))) (.ref ?_)
    rw [← S.len, List.getElem?_append_right (Nat.le_refl _), Nat.sub_self]
    rfl
theorem PR.newD {ds : List (Key × D)} {vs : List (Key × V)} {p : Addr} (q : PR G Z as h H mu (some (.d ds)) Q) (S : Sim G Z as h H) (r : RepK G Z as H ds vs) (n : H p = none) : Q (.ref p) (upd H p (.dK vs)) := by
  obtain ⟨r', e, k⟩ := q
  cases e
  cases mu with
  | false => exact k as _ _ _ h rfl (.new n) (S.new n) (.dct (.inl upd_same) (S.nin n) (S.nz n) (r.mono S (.new n)))
  | true =>
    have x : Ext as H (as ++ [p]) (upd H p (.dK vs)) := .own n
    refine k (as ++ [p]) _ _ _ (h ++ [.dct ds]) rfl x (S.own n (.dct upd_same (r.mono S x))) (.ref ?_)
    rw [← S.len, List.getElem?_append_right (Nat.le_refl _), Nat.sub_self]
    rfl
theorem Post.imp {o : Out D} {Q' : VK} (p : Post G W Z s as H o Q) (k : ∀ v H', Q v H' → Q' v H') : Post G W Z s as H o Q' := by
  cases o with
  | ok d h' => exact fun as' v H' x S r => k _ _ (p as' v H' x S r)
  | ex c fs h' => exact p
  | fail => exact p
end
/-- a two-place operation on data -/
def rB (G : Gx) (mu : Bool) (g : Hd → D → D → Option Res) : R2 := fun x y H Q => ∃ (Z : Addr → Prop) (as : List Addr) (h : Hd) (a b : D), Sim G Z as h H ∧ Rep G Z as H a x ∧ Rep G Z as H b y ∧ PR G Z as h H mu (g h a b) Q
def op2 (mu : Bool) (g : Hd → D → D → Option Res) (fa fb : SE) : SE := fun e => bd (fa e) fun a => bd (fb e) fun b => fun h => lf mu (g h a b) h
theorem rd_op2 {G : Gx} {W : WX} {mu : Bool} {g : Hd → D → D → Option Res} {fa fb : SE} {s : L2.St} {H : Hp} {Q : VK} (r : rd G W (op2 mu g fa fb) s H Q) : tOp (rB G mu g) (rd G W fa) (rd G W fb) s H Q := by
  obtain ⟨Z, as, e, h, S, E, P⟩ := r
  refine ⟨Z, as, e, h, S, E, (Post.bind P).imp fun x H1 z => ?_⟩
  obtain ⟨as1, a, h1, _, x1, S1, r1, P1⟩ := z
  refine ⟨Z, as1, e, h1, S1, E.mono S x1, (Post.bind P1).imp fun y H2 z => ?_⟩
  obtain ⟨as2, b, h2, _, x2, S2, r2, P2⟩ := z
  exact ⟨Z, as2, h2, a, b, S2, r1.mono S1 x2, r2, Post.pr P2⟩
end Dk
end
section
set_option Elab.async false
set_option linter.all false
set_option maxRecDepth 100000
set_option maxHeartbeats 4000000
/-! DkF: operators, comparisons, items, slices. -/
namespace Dk
open PySem PySem.Spec PyProof.Rows L2
theorem PR.some_of {G : Gx} {Z : Addr → Prop} {as : List Addr} {h : Hd} {H : Hp} {mu : Bool} {o : Option Res} {Q : VK} (p : PR G Z as h H mu o Q) : ∃ r, o = some r := let ⟨r, e, _⟩ := p; ⟨r, e⟩
theorem PR.none_of {G : Gx} {Z : Addr → Prop} {as : List Addr} {h : Hd} {H : Hp} {mu : Bool} {Q : VK} {P : Prop} (p : PR G Z as h H mu none Q) : P := by
  obtain ⟨r, e, _⟩ := p
  cases e
theorem PR.ite {G : Gx} {Z : Addr → Prop} {as : List Addr} {h : Hd} {H : Hp} {mu : Bool} {Q : VK} {c : Prop} [Decidable c] {o : Option Res} (p : PR G Z as h H mu (if c then o else none) Q) : c ∧ PR G Z as h H mu o Q := by
  by_cases hc : c
  · rw [if_pos hc] at p
    exact ⟨hc, p⟩
  · rw [if_neg hc] at p
    exact p.none_of
section
variable {X : Cx}
theorem strRep_zero (x : Str) : strRep x 0 = Str.empty := rfl
theorem strRep_one (x : Str) : strRep x 1 = x := by
  unfold strRep
  simp
theorem strRep_nil {x : Str} (h : x.length = 0) : ∀ n, strRep x n = x := by
  intro n
  have e : x.cps = #[] := Array.eq_empty_of_size_eq_zero h
  have k : ∀ (n : Nat), (List.replicate n (#[] : Array Nat)).foldl (· ++ ·) #[] = #[] := by
    intro n
    induction n with
    | zero => rfl
    | succ n ih => rw [List.replicate_succ, List.foldl_cons]; simpa using ih
  cases x with
  | mk cps =>
    cases e
    show (⟨(List.replicate n (#[] : Array Nat)).foldl (· ++ ·) #[]⟩ : Str) = _
    rw [k]
theorem strRep_len (x : Str) : ∀ n, (strRep x n).length = n * x.length := by
  have k : ∀ (n : Nat) (acc : Array Nat), ((List.replicate n x.cps).foldl (· ++ ·) acc).size = acc.size + n * x.cps.size := by
    intro n
    induction n with
    | zero => intro acc; simp
    | succ n ih =>
      intro acc
      rw [List.replicate_succ, List.foldl_cons, ih, Array.size_append, Nat.succ_mul]
      omega
  intro n
  show ((List.replicate n x.cps).foldl (· ++ ·) #[]).size = _
  rw [k]
  simp
  rfl
theorem mul_strN {prog : Program} {w : World} {A : Around} {E : Value → Shared → Prop} {s : Shared} {x : Str} {n : Int} {t u : Tok} {Q : Value → Shared → Prop} (h0 : 0 ≤ n) (h1 : n ≤ 1000) (hz : x.length * n.toNat ≤ 100000) (h : ∀ t' k, Q (.str (strRep x n.toNat) t') { s with toks := k }) :
    wpAny (model prog w) A (binaryOp .Mult (.str x t) (.int n u)) Q E s := by
  have h16 := sizeLine_eq
  refine PySem.P.mul_str (by rw [decide_eq_false (by omega), decide_eq_false (by omega)]; rfl) (fun h2 _ => ?_) (fun _ _ => ?_) ?_
  · intro h3
    have h4 : (x.length : Int) ≤ 100000 := by
      have h5 : x.length * 1 ≤ x.length * n.toNat := Nat.mul_le_mul_left _ (by omega)
      omega
    have h6 := (Int.ediv_lt_iff_lt_mul (by omega : 0 < n)).mp h3
    have h7 : (x.length : Int) * n ≤ 100000 * 1000 := Int.mul_le_mul h4 h1 (by omega) (by omega)
    omega
  · unfold Builtin.Str.tooLong
    exact decide_eq_false (by omega)
  · by_cases hn : n < 1
    · rw [if_pos hn]
      have e : n.toNat = 0 := by omega
      rw [e, strRep_zero] at h
      exact ⟨by decide, h _ _⟩
    · rw [if_neg hn]
      by_cases h1 : (n == 1 || x.length == 0) = true
      · rw [if_pos h1]
        have e : strRep x n.toNat = x := by
          rw [Bool.or_eq_true, beq_iff_eq, beq_iff_eq] at h1
          rcases h1 with h1 | h1
          · subst h1; exact strRep_one x
          · exact strRep_nil h1 _
        rw [e] at h
        exact h _ _
      · rw [if_neg h1]
        refine ⟨?_, h _ _⟩
        show (strRep x n.toNat).length ≤ sizeLine
        have : (strRep x n.toNat).length = n.toNat * x.length := strRep_len x _
        rw [this, Nat.mul_comm]
        omega
theorem reps_rep {G : Gx} {Z : Addr → Prop} {as : List Addr} {H : Hp} {ds : List D} {vs : List V} (r : Reps G Z as H ds vs) : ∀ {n : Nat}, Reps G Z as H (List.replicate n ds).flatten (List.replicate n vs).flatten
  | 0 => .nil
  | n + 1 => by
    rw [List.replicate_succ, List.replicate_succ, List.flatten_cons, List.flatten_cons]
    exact r.append (reps_rep r)
theorem op_bin {op : Operator} {mu : Bool} : OpR X (binaryOp op) (rB (gx X) mu (binD op)) := by
  intro pins s st H x y v u Q I rx ry z
  obtain ⟨Z, as, h, a, b, S, ra, rb, p⟩ := z
  cases op with
  | Add =>
    simp only [binD] at p
    split at p
    · cases ra
      cases rb
      exact op_add pins s st H _ _ v u Q I rx ry ⟨_, _, rfl, rfl, p.here S (.int _)⟩
    · cases ra
      cases rb
      obtain ⟨c, p⟩ := p.ite
      exact op_add_str pins s st H _ _ v u Q I rx ry ⟨_, _, rfl, rfl, c, p.here S (.str _)⟩
    · obtain ⟨c, p⟩ := p.ite
      cases ra with
      | tup e1 q1 =>
        cases rb with
        | tup e2 q2 =>
          have l1 := q1.length
          have l2 := q2.length
          refine op_catN pins s st H _ _ v u Q I rx ry ⟨_, _, _, _, rfl, rfl, e1.sq, e2.sq, by omega, fun z => ?_, fun z => ?_, fun _ _ => p.newT S (q1.append q2)⟩
          · subst z
            cases q1
            exact p.here S (.tup e2 q2)
          · subst z
            cases q2
            rw [List.append_nil] at p
            exact p.here S (.tup e1 q1)
    · split at p
      · next xs ys e1 e2 =>
        obtain ⟨c, p⟩ := p.ite
        obtain ⟨a1, vs1, rfl, h1, q1⟩ := asL_rep S ra e1
        obtain ⟨a2, vs2, rfl, h2, q2⟩ := asL_rep S rb e2
        have l1 := q1.length
        have l2 := q2.length
        exact op_cat pins s st H _ _ v u Q I rx ry ⟨_, _, _, _, rfl, rfl, h1, h2, by omega, fun pp n => p.newL S (q1.append q2) n⟩
      · exact p.none_of
  | Sub =>
    simp only [binD] at p
    split at p
    · cases ra
      cases rb
      exact op_sub pins s st H _ _ v u Q I rx ry ⟨_, _, rfl, rfl, p.here S (.int _)⟩
    · exact p.none_of
  | Mult =>
    simp only [binD] at p
    split at p
    · cases ra
      cases rb
      obtain ⟨c, p⟩ := p.ite
      exact op_mul pins s st H _ _ v u Q I rx ry ⟨_, _, rfl, rfl, c, p.here S (.int _)⟩
    · next z n =>
      cases ra
      cases rb
      obtain ⟨c, p⟩ := p.ite
      obtain ⟨t, rfl⟩ := rx
      obtain ⟨t', rfl⟩ := ry
      exact mul_strN c.1 c.2.1 c.2.2 fun t2 k => ⟨.str _, H, I.tok k, ⟨t2, rfl⟩, p.here S (.str _)⟩
    · next n _ _ =>
      cases rb
      split at p
      · next xs e1 =>
        obtain ⟨c, p⟩ := p.ite
        obtain ⟨a1, vs1, rfl, h1, q1⟩ := asL_rep S ra e1
        have l1 := q1.length
        exact op_rep pins s st H _ _ v u Q I rx ry ⟨_, _, _, rfl, rfl, h1, by omega, by omega, by rw [← l1]; exact c.2.2, fun pp np => p.newL S (reps_rep q1) np⟩
      · exact p.none_of
    · exact p.none_of
  | FloorDiv =>
    simp only [binD] at p
    split at p
    · cases ra
      cases rb
      obtain ⟨c, p⟩ := p.ite
      exact op_fdiv pins s st H _ _ v u Q I rx ry ⟨_, _, rfl, rfl, c, p.here S (.int _)⟩
    · exact p.none_of
  | Mod =>
    simp only [binD] at p
    split at p
    · cases ra
      cases rb
      obtain ⟨c, p⟩ := p.ite
      exact op_mod pins s st H _ _ v u Q I rx ry ⟨_, _, rfl, rfl, c, p.here S (.int _)⟩
    · exact p.none_of
  | Pow =>
    simp only [binD] at p
    split at p
    · cases ra
      cases rb
      obtain ⟨c, p⟩ := p.ite
      exact op_pow pins s st H _ _ v u Q I rx ry ⟨_, _, rfl, rfl, c, p.here S (.int _)⟩
    · exact p.none_of
  | _ => exact p.none_of
theorem RelV.non {x : V} {G : Gx} {Z : Addr → Prop} {as : List Addr} {H : Hp} {d : D} (r : Rep G Z as H d x) : decide (x = .non) = isNon d := by
  cases r <;> simp [isNon]
/-- the truth of a comparison of data -/
theorem PR.bl {G : Gx} {Z : Addr → Prop} {as : List Addr} {h : Hd} {H : Hp} {mu : Bool} {Q : VK} {o : Option Bool} (p : PR G Z as h H mu (o.map fun c => .v (.bl c)) Q) (S : Sim G Z as h H) : ∃ c, o = some c ∧ Q (.bl c) H := by
  cases o with
  | none => exact PR.none_of p
  | some c => exact ⟨c, rfl, PR.here p S (.bl c)⟩
theorem Vws.mem {s : Shared} : ∀ {ds : List D} {us : List Value} {u : Value}, Vws s ds us → u ∈ us → ∃ d, d ∈ ds ∧ Vw s d u
  | _, _, _, .nil, e => by simp at e
  | _, _, u, .cons r q, e => by
    rcases List.mem_cons.mp e with e | e
    · exact ⟨_, List.mem_cons_self, e ▸ r⟩
    · obtain ⟨d, h1, h2⟩ := q.mem e
      exact ⟨d, List.mem_cons_of_mem _ h1, h2⟩
theorem Vws.mem2 {s : Shared} : ∀ {ds : List D} {us : List Value} {d : D}, Vws s ds us → d ∈ ds → ∃ u, u ∈ us ∧ Vw s d u
  | _, _, _, .nil, e => by simp at e
  | _, _, d, .cons r q, e => by
    rcases List.mem_cons.mp e with e | e
    · exact ⟨_, List.mem_cons_self, e ▸ r⟩
    · obtain ⟨u, h1, h2⟩ := q.mem2 e
      exact ⟨u, List.mem_cons_of_mem _ h1, h2⟩
theorem inLs_def {x : D} : ∀ {ys : List D} {c : Bool}, inLs x ys = some c → (∀ y ∈ ys, ∃ b, eqD dp y x = some b) ∧ (c = true ↔ ∃ y ∈ ys, eqD dp y x = some true)
  | [], c, e => by
    simp [inLs] at e
    subst e
    simp
  | y :: ys, c, e => by
    unfold inLs at e
    cases e1 : eqD dp y x with
    | none => rw [e1] at e; simp at e
    | some b =>
      cases e2 : inLs x ys with
      | none => rw [e1, e2] at e; simp at e
      | some b' =>
        rw [e1, e2] at e
        obtain ⟨h1, h2⟩ := inLs_def e2
        have ec : c = (b || b') := by simpa using e.symm
        refine ⟨fun z hz => ?_, ?_⟩
        · rcases List.mem_cons.mp hz with hz | hz
          · exact ⟨b, hz ▸ e1⟩
          · exact h1 z hz
        · rw [ec, Bool.or_eq_true, h2]
          constructor
          · rintro (q | ⟨z, hz, q⟩)
            · exact ⟨y, List.mem_cons_self, by rw [e1, q]⟩
            · exact ⟨z, List.mem_cons_of_mem _ hz, q⟩
          · rintro ⟨z, hz, q⟩
            rcases List.mem_cons.mp hz with hz | hz
            · subst hz
              rw [e1] at q
              exact .inl (Option.some.inj q)
            · exact .inr ⟨z, hz, q⟩
open Classical in
/-- which of the items equal x, as the machine has it -/
theorem eqs_of {s : Shared} {A : Around} {x : D} {u : Value} {ys : List D} {us : List Value} {c : Bool} (hx : Vw s x u) (hy : Vws s ys us) (e : inLs x ys = some c) (hu : A.units + dp < cLine) :
    ∃ f : Value → Bool, (∀ w ∈ us, SeqAt.EqAt A s w u (f w)) ∧ us.any f = c := by
  obtain ⟨h1, h2⟩ := inLs_def e
  have key : ∀ w ∈ us, ∃ y ∈ ys, ∃ b, Vw s y w ∧ eqD dp y x = some b ∧ SeqAt.EqAt A s w u b := fun w hw => by
    obtain ⟨y, m, v⟩ := hy.mem hw
    obtain ⟨b, eb⟩ := h1 y m
    exact ⟨y, m, b, v, eb, (eqAt_vw dp A y x w u b v hx eb hu).1⟩
  let f : Value → Bool := fun w => decide (∃ y b, y ∈ ys ∧ Vw s y w ∧ eqD dp y x = some b ∧ b = true)
  refine ⟨f, fun w hw => ?_, ?_⟩
  · obtain ⟨y, m, b, v, eb, q⟩ := key w hw
    by_cases z : ∃ y b, y ∈ ys ∧ Vw s y w ∧ eqD dp y x = some b ∧ b = true
    · have ef : f w = true := decide_eq_true z
      rw [ef]
      obtain ⟨y', b', m', v', eb', rfl⟩ := z
      exact (eqAt_vw dp A y' x w u true v' hx eb' hu).1
    · have ef : f w = false := decide_eq_false z
      rw [ef]
      cases b with
      | false => exact q
      | true => exact absurd ⟨y, true, m, v, eb, rfl⟩ z
  · rw [Bool.eq_iff_iff, List.any_eq_true, h2]
    constructor
    · rintro ⟨w, hw, q⟩
      obtain ⟨y, b, m, v, eb, rfl⟩ := of_decide_eq_true q
      exact ⟨y, m, eb⟩
    · rintro ⟨y, m, eb⟩
      obtain ⟨w, hw, v⟩ := hy.mem2 m
      exact ⟨w, hw, decide_eq_true ⟨y, true, m, v, eb, rfl⟩⟩
theorem getK_rep {G : Gx} {Z : Addr → Prop} {as : List Addr} {H : Hp} {k : Key} : ∀ {ds : List (Key × D)} {vs : List (Key × V)}, RepK G Z as H ds vs →
    (getK ds k = none ∧ valV vs k = none) ∨ ∃ d v, getK ds k = some d ∧ valV vs k = some v ∧ Rep G Z as H d v
  | _, _, .nil => .inl ⟨rfl, rfl⟩
  | _, _, @RepK.cons _ _ _ _ j d ds v vs r q => by
    by_cases e : j = k
    · refine .inr ⟨d, v, ?_, valV_pos e, r⟩
      simp [getK, List.find?_cons, e]
    · have e1 : getK ((j, d) :: ds) k = getK ds k := by simp [getK, List.find?_cons, e]
      rw [e1, valV_neg (p := (j, v)) e]
      exact getK_rep q
theorem keyOf_rep {G : Gx} {Z : Addr → Prop} {as : List Addr} {H : Hp} {d : D} {v : V} {k : Key} (r : Rep G Z as H d v) (e : keyOf d = some k) : v = kV k := by
  cases r <;> simp [keyOf] at e
  · subst e; rfl
  · subst e; rfl
/-- x in y, by values -/
theorem in_vals (hu : X.A.units + 64 < cLine) {pins : List (Addr × Obj)} {s : Shared} {st : L2.St} {H : Hp} {x y : V} {v u : Value} {Q : VK} {Z : Addr → Prop} {as : List Addr} {h : Hd} {a b : D} {c : Bool} (neg : Bool)
    (I : Inv X pins st H s) (rx : RelV x v) (ry : RelV y u) (S : Sim (gx X) Z as h H) (ra : Rep (gx X) Z as H a x) (rb : Rep (gx X) Z as H b y) (e : inD h a b = some c) (q : Q (.bl (if neg then !c else c)) H) :
    wpAny (model X.prog X.w) X.A (compareOp (if neg then .NotIn else .In) v u) (EP X pins st Q) X.xe s := by
  unfold inD at e
  cases e1 : asS h b with
  | some ys =>
    rw [e1] at e
    dsimp only at e
    obtain ⟨p, vs, rfl, h1, h2⟩ := asS_rep S rb e1
    cases ry
    rcases h1 with h1 | h1
    · obtain ⟨us, r1, pl, _⟩ := I.list (SqL.of h1)
      obtain ⟨f, f1, f2⟩ := eqs_of (A := X.A.in1) (ra.vw I rx) (h2.vw I r1) e (by show X.A.units + 1 + dp < cLine; unfold dp; omega)
      have f2' : us.toArray.any f = c := by simpa using f2
      cases neg with
      | false => exact SeqAt.in_listAt f pl.isList (fun y hy => f1 y (by simpa using hy)) (by rw [f2']; exact ⟨.bl c, H, I, rfl, q⟩)
      | true => exact SeqAt.notIn_listAt f pl.isList (fun y hy => f1 y (by simpa using hy)) (by rw [f2']; exact ⟨.bl (!c), H, I, rfl, q⟩)
    · obtain ⟨us, r1, pl, _⟩ := I.tuple h1.sq
      obtain ⟨f, f1, f2⟩ := eqs_of (A := X.A.in1) (ra.vw I rx) (h2.vw I r1) e (by show X.A.units + 1 + dp < cLine; unfold dp; omega)
      have f2' : us.toArray.any f = c := by simpa using f2
      cases neg with
      | false => exact SeqAt.in_tupleAt f (show s.heap.IsTuple _ _ from pl) (fun y hy => f1 y (by simpa using hy)) (by rw [f2']; exact ⟨.bl c, H, I, rfl, q⟩)
      | true => exact SeqAt.notIn_tupleAt f (show s.heap.IsTuple _ _ from pl) (fun y hy => f1 y (by simpa using hy)) (by rw [f2']; exact ⟨.bl (!c), H, I, rfl, q⟩)
  | none =>
    rw [e1] at e
    dsimp only at e
    cases e2 : asK h b with
    | some kvs =>
      rw [e2] at e
      dsimp only at e
      cases e3 : keyOf a with
      | none => rw [e3] at e; simp at e
      | some k =>
        rw [e3] at e
        have ec : c = (getK kvs k).isSome := by simpa using e.symm
        obtain ⟨p, vs, rfl, h1, h2⟩ := asK_rep S rb e2
        have ex := keyOf_rep ra e3
        subst ex
        cases ry
        have g : DGet H p (kV k) (valV vs k) := .inl ⟨vs, k, h1, rfl, rfl⟩
        have es : (valV vs k).isSome = c := by
          rw [ec]
          rcases getK_rep (k := k) h2 with ⟨z1, z2⟩ | ⟨d, w, z1, z2, _⟩ <;> rw [z1, z2] <;> rfl
        cases neg with
        | false => exact d_in (by omega) I g rx fun s' I' => ⟨.bl c, H, I', by rw [es]; rfl, q⟩
        | true => exact d_notIn (by omega) I g rx fun s' I' => ⟨.bl (!c), H, I', by rw [es]; rfl, q⟩
    | none =>
      rw [e2] at e
      dsimp only at e
      cases rb with
      | @set p ks g1 g3 g4 g5 =>
        dsimp only at e
        cases e3 : keyOf a with
        | none => rw [e3] at e; simp at e
        | some k =>
          rw [e3] at e
          have ex := keyOf_rep ra e3
          subst ex
          have ec : c = true ↔ k ∈ ks := by
            have ec2 : (ks.any fun j => decide (j = k)) = c := Option.some.inj e
            rw [← ec2, List.any_eq_true]
            constructor
            · rintro ⟨j, m, z⟩
              exact of_decide_eq_true z ▸ m
            · exact fun m => ⟨k, m, decide_eq_true rfl⟩
          cases neg with
          | false => cases ry; exact in_setQ I g1 rx ec q
          | true => cases ry; exact notin_setQ I g1 rx ec q
      | str z =>
        dsimp only at e
        cases ra with
        | str w =>
          have ec : (!(Builtin.Str.occurrences z w 0 z.length 1).isEmpty) = c := by simpa using e
          cases neg with
          | false => exact op_in_str pins s st H _ _ v u Q I rx ry ⟨w, z, rfl, rfl, by rw [ec]; exact q⟩
          | true => exact op_notin_str pins s st H _ _ v u Q I rx ry ⟨w, z, rfl, rfl, by rw [ec]; exact q⟩
        | _ => simp at e
      | _ => simp at e
theorem isN_of {f : Bool → Bool} {a b : D} {c : Bool} (e : (if isNon b then some (f (isNon a)) else (isBB a b).map f) = some c) : (isNon b = true ∧ c = f (isNon a)) ∨ ∃ x y, a = .bl x ∧ b = .bl y ∧ c = f (x == y) := by
  cases q : isNon b with
  | false =>
    rw [q] at e
    simp only [Bool.false_eq_true, if_false] at e
    unfold isBB at e
    split at e
    · exact .inr ⟨_, _, rfl, rfl, by simpa using e.symm⟩
    · cases e
  | true => rw [q] at e; exact .inl ⟨rfl, by simpa using e.symm⟩
theorem op_isB : OpR X (compareOp .Is) (fun x y H Q => ∃ i j, x = .bl i ∧ y = .bl j ∧ Q (.bl (i == j)) H) := by
  rintro pins s st H x y v u Q I rx ry ⟨i, j, rfl, rfl, q⟩
  cases rx
  cases ry
  exact wpAny_is_plain rfl (fin_bl I q (by cases i <;> cases j <;> rfl))
theorem op_notB : OpR X (compareOp .IsNot) (fun x y H Q => ∃ i j, x = .bl i ∧ y = .bl j ∧ Q (.bl (!(i == j))) H) := by
  rintro pins s st H x y v u Q I rx ry ⟨i, j, rfl, rfl, q⟩
  cases rx
  cases ry
  exact wpAny_isNot_plain rfl (fin_bl I q (by cases i <;> cases j <;> rfl))
theorem op_cmp {op : CmpOp} {mu : Bool} (hu : X.A.units + 64 < cLine) : OpR X (compareOp op) (rB (gx X) mu (cmpD op)) := by
  intro pins s st H x y v u Q I rx ry z
  obtain ⟨Z, as, h, a, b, S, ra, rb, p⟩ := z
  obtain ⟨c, e, q⟩ := PR.bl p S
  cases op with
  | Eq =>
    have t := eqAt_vw dp X.A _ _ _ _ c (rs_rep I S ra rx) (rs_rep I S rb ry) e (by unfold dp; omega)
    exact t.2.1 _ _ _ _ ⟨.bl c, H, I, rfl, q⟩
  | NotEq =>
    cases e1 : eqD dp (rs h a) (rs h b) with
    | none => simp [cmpB, e1] at e
    | some b' =>
      have eb : c = !b' := by simpa [cmpB, e1] using e.symm
      subst eb
      have t := eqAt_vw dp X.A _ _ _ _ b' (rs_rep I S ra rx) (rs_rep I S rb ry) e1 (by unfold dp; omega)
      exact t.2.2 _ _ _ _ ⟨.bl (!b'), H, I, rfl, q⟩
  | Lt =>
    cases ra <;> cases rb <;> simp [cmpB, ordD] at e <;> subst e
    · exact op_lt pins s st H _ _ v u Q I rx ry ⟨_, _, rfl, rfl, q⟩
    · exact op_lt_str pins s st H _ _ v u Q I rx ry ⟨_, _, rfl, rfl, q⟩
  | LtE =>
    cases ra <;> cases rb <;> simp only [cmpB, ordD] at e <;> cases e
    · exact op_le pins s st H _ _ v u Q I rx ry ⟨_, _, rfl, rfl, q⟩
    · exact op_le_str pins s st H _ _ v u Q I rx ry ⟨_, _, rfl, rfl, q⟩
  | Gt =>
    cases ra <;> cases rb <;> simp only [cmpB, ordD] at e <;> cases e
    · exact op_gt pins s st H _ _ v u Q I rx ry ⟨_, _, rfl, rfl, q⟩
    · exact op_gt_str pins s st H _ _ v u Q I rx ry ⟨_, _, rfl, rfl, q⟩
  | GtE =>
    cases ra <;> cases rb <;> simp only [cmpB, ordD] at e <;> cases e
    · exact op_ge pins s st H _ _ v u Q I rx ry ⟨_, _, rfl, rfl, q⟩
    · exact op_ge_str pins s st H _ _ v u Q I rx ry ⟨_, _, rfl, rfl, q⟩
  | Is =>
    have e' : (if isNon b then some ((fun z => z) (isNon a)) else (isBB a b).map (fun z => z)) = some c := by
      rw [Option.map_id']
      exact e
    rcases isN_of (f := fun z => z) e' with ⟨e1, e2⟩ | ⟨i, j, rfl, rfl, e2⟩
    · have ey : y = .non := by
        cases rb <;> first | rfl | exact absurd e1 (by simp [isNon])
      refine op_isN pins s st H _ _ v u Q I rx ry ⟨ey, ?_⟩
      rw [RelV.non ra, ← e2]
      exact q
    · cases ra
      cases rb
      exact op_isB pins s st H _ _ v u Q I rx ry ⟨i, j, rfl, rfl, by rw [e2] at q; exact q⟩
  | IsNot =>
    rcases isN_of (f := fun z => !z) e with ⟨e1, e2⟩ | ⟨i, j, rfl, rfl, e2⟩
    · have ey : y = .non := by
        cases rb <;> first | rfl | exact absurd e1 (by simp [isNon])
      refine op_notN pins s st H _ _ v u Q I rx ry ⟨ey, ?_⟩
      rw [RelV.non ra, ← e2]
      exact q
    · cases ra
      cases rb
      exact op_notB pins s st H _ _ v u Q I rx ry ⟨i, j, rfl, rfl, by rw [e2] at q; exact q⟩
  | In => exact in_vals hu false I rx ry S ra rb e q
  | NotIn =>
    cases e1 : inD h a b with
    | none => simp [cmpB, e1] at e
    | some c' =>
      have eb : c = !c' := by simpa [cmpB, e1] using e.symm
      subst eb
      exact in_vals hu true I rx ry S ra rb e1 q
end
end Dk
end
section
set_option Elab.async false
set_option linter.all false
set_option maxRecDepth 100000
set_option maxHeartbeats 4000000
/-! DkG: items, slices, truth; names, constants, displays as expressions. -/
namespace Dk
open PySem PySem.Spec PyProof.Rows L2
section
variable {X : Cx}
theorem atI_map {xs : List D} {i : Int} {d : D} (e : atI xs i = some d) : ∃ j, ixN xs.length i = some j ∧ xs[j]? = some d := by
  unfold atI at e
  cases q : ixN xs.length i with
  | none => rw [q] at e; cases e
  | some j => rw [q] at e; exact ⟨j, rfl, e⟩
theorem atI_rep {G : Gx} {Z : Addr → Prop} {as : List Addr} {H : Hp} {xs : List D} {vs : List V} {i : Int} {d : D} (r : Reps G Z as H xs vs) (e : atI xs i = some d) : ∃ v, atI vs i = some v ∧ Rep G Z as H d v := by
  obtain ⟨j, e1, e2⟩ := atI_map e
  obtain ⟨v, h1, h2⟩ := r.get e2
  refine ⟨v, ?_, h2⟩
  unfold atI
  rw [← r.length, e1]
  exact h1
theorem ix_ok {mu : Bool} (hu : X.A.units + 64 < cLine) : IxR X (rB (gx X) mu idxD) := by
  intro value slice pins s st H x y v u Q I rx ry z hs
  obtain ⟨Z, as, h, a, b, S, ra, rb, p⟩ := z
  have dk : ∀ (k : Key) (kvs : List (Key × D)), asK h a = some kvs → y = kV k → PR (gx X) Z as h H mu ((getK kvs k).map Res.v) Q → wpAny (model X.prog X.w) X.A (subscriptTail value slice v u) (EP X pins st Q) X.xe s := by
    intro k kvs e1 ey p
    obtain ⟨p1, vs, rfl, h1, h2⟩ := asK_rep S ra e1
    subst ey
    cases rx
    rcases getK_rep (k := k) h2 with ⟨z1, _⟩ | ⟨d, w, z1, z2, z3⟩
    · rw [z1] at p
      exact PR.none_of p
    · rw [z1] at p
      have g : DGet H p1 (kV k) (some w) := .inl ⟨vs, k, h1, rfl, z2.symm⟩
      exact tail_any (dict_typeIs I g) PySem.F.slot_dict_getitem.lookup (d_getItem (by omega) I g ry fun w' s' I' r' => ⟨w, H, I', r', PR.here p S z3⟩) hs
  unfold idxD at p
  cases rb with
  | int i =>
    dsimp only at p
    cases e1 : asS h a with
    | some xs =>
      rw [e1] at p
      dsimp only at p
      obtain ⟨p1, vs, rfl, h1, h2⟩ := asS_rep S ra e1
      cases e2 : atI xs i with
      | none => rw [e2] at p; exact PR.none_of p
      | some d =>
        rw [e2] at p
        obtain ⟨w, h3, h4⟩ := atI_rep h2 e2
        rcases h1 with h1 | h1
        · exact ix_list value slice pins s st H _ _ v u Q I rx ry ⟨p1, vs, i, w, rfl, rfl, SqL.of h1, h3, PR.here p S h4⟩ hs
        · exact ix_tup value slice pins s st H _ _ v u Q I rx ry ⟨p1, vs, i, w, rfl, rfl, h1.sq, h3, PR.here p S h4⟩ hs
    | none =>
      rw [e1] at p
      dsimp only at p
      by_cases t : ∃ z, a = .str z
      · obtain ⟨z, rfl⟩ := t
        dsimp only at p
        obtain ⟨c, p⟩ := p.ite
        cases ra
        cases e2 : atI z.cps.toList i with
        | none => rw [e2] at p; exact PR.none_of p
        | some cc =>
          rw [e2] at p
          exact ix_str value slice pins s st H _ _ v u Q I rx ry ⟨z, i, cc, rfl, rfl, c, e2, PR.here p S (.str _)⟩ hs
      · have p' : PR (gx X) Z as h H mu (match asK h a with | some kvs => (getK kvs (.inl i)).map Res.v | none => none) Q := by
          cases a <;> first | exact p | exact absurd ⟨_, rfl⟩ t
        cases e2 : asK h a with
        | none => rw [e2] at p'; exact PR.none_of p'
        | some kvs =>
          rw [e2] at p'
          exact dk (.inl i) kvs e2 rfl p'
  | str z =>
    dsimp only at p
    cases e2 : asK h a with
    | none => rw [e2] at p; exact PR.none_of p
    | some kvs =>
      rw [e2] at p
      exact dk (.inr z) kvs e2 rfl p
  | _ => exact PR.none_of p
theorem cutD_rep {G : Gx} {Z : Addr → Prop} {as : List Addr} {H : Hp} {xs : List D} {vs : List V} (r : Reps G Z as H xs vs) (lo hi : Option Int) : Reps G Z as H (cutD xs lo hi) (cutV vs lo hi) := by
  unfold cutD cutV
  rw [r.length]
  exact (r.drop _).take _
theorem reps_ints {G : Gx} {Z : Addr → Prop} {as : List Addr} {H : Hp} : ∀ ns : List Int, Reps G Z as H (ns.map D.int) (ns.map V.int)
  | [] => .nil
  | n :: ns => .cons (.int n) (reps_ints ns)
def rS (G : Gx) (mu : Bool) : V → Option Int → Option Int → Hp → VK → Prop := fun x lo hi H Q => ∃ (Z : Addr → Prop) (as : List Addr) (h : Hd) (a : D), Sim G Z as h H ∧ Rep G Z as H a x ∧ PR G Z as h H mu (slcD h a lo hi) Q
theorem sl_ok {mu : Bool} : SlR X (rS (gx X) mu) := by
  intro pins s st H x v vl vu lo hi sl Q I rx hs pl pu z
  obtain ⟨Z, as, h, a, S, ra, p⟩ := z
  unfold slcD at p
  split at p
  · next xs =>
    cases ra with
    | tup e q =>
      refine sl_tupN pins s st H _ v vl vu lo hi sl Q I rx hs pl pu ⟨_, _, rfl, e.sq, fun z => ?_, fun _ => p.newT S (cutD_rep q lo hi)⟩
      have l := q.length
      have ec : cutD xs lo hi = xs := by
        unfold cutD
        rw [l, z.1, z.2, List.drop_zero, Nat.sub_zero, ← l, List.take_length]
      rw [ec] at p
      exact PR.here p S (.tup e q)
  · obtain ⟨c, p⟩ := p.ite
    cases ra
    exact sl_str pins s st H _ v vl vu lo hi sl Q I rx hs pl pu ⟨_, rfl, c, PR.here p S (.str _)⟩
  · next ns =>
    cases ra with
    | scr e =>
      refine sl_list pins s st H _ v vl vu lo hi sl Q I rx hs pl pu ⟨_, _, rfl, e.sq, fun pp n => ?_⟩
      exact p.newL S (cutD_rep (reps_ints ns) lo hi) n
  · split at p
    · next xs e1 =>
      obtain ⟨p1, vs, rfl, h1, h2⟩ := asL_rep S ra e1
      exact sl_list pins s st H _ v vl vu lo hi sl Q I rx hs pl pu ⟨_, _, rfl, SqL.of h1, fun pp n => p.newL S (cutD_rep h2 lo hi) n⟩
    · exact PR.none_of p
/-- the truth of data -/
theorem tru_vals {G : Gx} {Z : Addr → Prop} {as : List Addr} {h : Hd} {H : Hp} {d : D} {v : V} {c : Bool} (S : Sim G Z as h H) (r : Rep G Z as H d v) (e : truD h d = some c) : TruV G.K v H c := by
  have ne : ∀ {xs : List D} {vs : List V}, Reps G Z as H xs vs → xs.isEmpty = vs.isEmpty := fun q => by cases q <;> rfl
  unfold truD at e
  split at e
  · cases r; exact (Option.some.inj e).symm
  · cases r; exact (Option.some.inj e).symm
  · cases r; exact (Option.some.inj e).symm
  · next x =>
    cases r
    by_cases hc : x.length ≤ sizeLine
    · rw [if_pos hc] at e
      refine ⟨hc, ?_⟩
      rw [← Option.some.inj e, Bool.eq_iff_iff]
      simp
    · rw [if_neg hc] at e; cases e
  · cases r with
    | tup e1 q => exact .inr (.inl ⟨_, e1.sq, by rw [← Option.some.inj e, ne q]⟩)
  · split at e
    · next xs e1 =>
      obtain ⟨a, vs, rfl, h1, h2⟩ := asL_rep S r e1
      exact .inl ⟨vs, SqL.of h1, by rw [← Option.some.inj e, ne h2]⟩
    · cases e
end
/-! ### expressions by what they do -/
abbrev ST := Env → M Bool
def tru (f : SE) : ST := fun e => bd (f e) fun d h => match truD h d with
  | some c => .ok c h
  | none => .fail
def PostT (G : Gx) (W : WX) (Z : Addr → Prop) (s : L2.St) (as : List Addr) (H : Hp) (o : Out Bool) (Q : Bool → Hp → Prop) : Prop := match o with
  | .ok c h' => ∀ (as' : List Addr) (H' : Hp), Ext as H as' H' → Sim G Z as' h' H' → Q c H'
  | .ex c fs h' => ∀ (as' : List Addr) (cv : Value) (dx : Option Addr) (H' : Hp), Ext as H as' H' → Sim G Z as' h' H' → ExR G Z as' H' c fs cv dx → W cv dx s H'
  | .fail => False
def rdT (G : Gx) (W : WX) (f : ST) : TT := fun s H Q => ∃ (Z : Addr → Prop) (as : List Addr) (e : Env) (h : Hd), Sim G Z as h H ∧ SimE G Z as H e s ∧ PostT G W Z s as H (f e h) Q
section
variable {X : Cx} {G : Gx} {W : WX} {Z : Addr → Prop} {as : List Addr} {h : Hd} {H : Hp} {s : L2.St} {Q : Bool → Hp → Prop}
theorem PostT.imp {o : Out Bool} {Q' : Bool → Hp → Prop} (p : PostT G W Z s as H o Q) (k : ∀ v H', Q v H' → Q' v H') : PostT G W Z s as H o Q' := by
  cases o with
  | ok d h' => exact fun as' H' x S => k _ _ (p as' H' x S)
  | ex c fs h' => exact p
  | fail => exact p
theorem PostT.bind {m : M D} {k : D → M Bool} (p : PostT G W Z s as H (bd m k h) Q) :
    Post G W Z s as H (m h) fun v H1 => ∃ (as1 : List Addr) (d : D) (h1 : Hd), m h = .ok d h1 ∧ Ext as H as1 H1 ∧ Sim G Z as1 h1 H1 ∧ Rep G Z as1 H1 d v ∧ PostT G W Z s as1 H1 (k d h1) Q := by
  rw [bd_eq] at p
  cases e : m h with
  | fail => rw [e] at p; exact p
  | ex c fs h1 => rw [e] at p; exact p
  | ok d h1 =>
    rw [e] at p
    intro as1 v H1 x S1 r
    refine ⟨as1, d, h1, rfl, x, S1, r, ?_⟩
    dsimp only at p
    cases e2 : k d h1 with
    | fail => rw [e2] at p; exact p
    | ex c fs h2 =>
      rw [e2] at p
      intro as2 cv dx H2 y S2 q
      exact p as2 cv dx H2 (x.trans y) S2 q
    | ok d2 h2 =>
      rw [e2] at p
      intro as2 H2 y S2
      exact p as2 H2 (x.trans y) S2
theorem PostT.bindT {m : M Bool} {k : Bool → M Bool} (p : PostT G W Z s as H (bd m k h) Q) :
    PostT G W Z s as H (m h) fun c H1 => ∃ (as1 : List Addr) (h1 : Hd), m h = .ok c h1 ∧ Ext as H as1 H1 ∧ Sim G Z as1 h1 H1 ∧ PostT G W Z s as1 H1 (k c h1) Q := by
  rw [bd_eq] at p
  cases e : m h with
  | fail => rw [e] at p; exact p
  | ex c fs h1 => rw [e] at p; exact p
  | ok c h1 =>
    rw [e] at p
    intro as1 H1 x S1
    refine ⟨as1, h1, rfl, x, S1, ?_⟩
    dsimp only at p
    cases e2 : k c h1 with
    | fail => rw [e2] at p; exact p
    | ex c fs h2 =>
      rw [e2] at p
      intro as2 cv dx H2 y S2 q
      exact p as2 cv dx H2 (x.trans y) S2 q
    | ok d2 h2 =>
      rw [e2] at p
      intro as2 H2 y S2
      exact p as2 H2 (x.trans y) S2
theorem Post.bindT {m : M Bool} {k : Bool → M D} {Q : VK} (p : Post G W Z s as H (bd m k h) Q) :
    PostT G W Z s as H (m h) fun c H1 => ∃ (as1 : List Addr) (h1 : Hd), m h = .ok c h1 ∧ Ext as H as1 H1 ∧ Sim G Z as1 h1 H1 ∧ Post G W Z s as1 H1 (k c h1) Q := by
  rw [bd_eq] at p
  cases e : m h with
  | fail => rw [e] at p; exact p
  | ex c fs h1 => rw [e] at p; exact p
  | ok c h1 =>
    rw [e] at p
    intro as1 H1 x S1
    refine ⟨as1, h1, rfl, x, S1, ?_⟩
    dsimp only at p
    cases e2 : k c h1 with
    | fail => rw [e2] at p; exact p
    | ex c fs h2 =>
      rw [e2] at p
      intro as2 cv dx H2 y S2 q
      exact p as2 cv dx H2 (x.trans y) S2 q
    | ok d2 h2 =>
      rw [e2] at p
      intro as2 v2 H2 y S2 q
      exact p as2 v2 H2 (x.trans y) S2 q
end
theorem _root_.L2.PT.imp {X : Cx} {e : Expr} {t t' : TT} (p : PT X e t) (q : ∀ s H Q, t' s H Q → t s H Q) : PT X e t' :=
  ⟨fun pins s st H Q I w => p.run pins s st H Q I (q _ _ _ w)⟩
theorem _root_.L2.PA.imp {X : Cx} {e : List Expr} {t t' : TA} (p : PA X e t) (q : ∀ s H Q, t' s H Q → t s H Q) : PA X e t' :=
  ⟨fun pos pins s st H Q I w => p.run pos pins s st H Q I (q _ _ _ w)⟩
end Dk
end
section
set_option Elab.async false
set_option linter.all false
set_option maxRecDepth 100000
set_option maxHeartbeats 4000000
/-! DkH: expressions: names, constants, operators, displays, items. -/
namespace Dk
open PySem PySem.Spec PyProof.Rows L2
/-- the same of any kind of outcome -/
def PX {α β : Type} (R : List Addr → Hp → α → β → Prop) (G : Gx) (W : WX) (Z : Addr → Prop) (s : L2.St) (as : List Addr) (H : Hp) (o : Out α) (Q : β → Hp → Prop) : Prop := match o with
  | .ok d h' => ∀ (as' : List Addr) (v : β) (H' : Hp), Ext as H as' H' → Sim G Z as' h' H' → R as' H' d v → Q v H'
  | .ex c fs h' => ∀ (as' : List Addr) (cv : Value) (dx : Option Addr) (H' : Hp), Ext as H as' H' → Sim G Z as' h' H' → ExR G Z as' H' c fs cv dx → W cv dx s H'
  | .fail => False
section
variable {G : Gx} {W : WX} {Z : Addr → Prop} {as : List Addr} {h : Hd} {H : Hp} {s : L2.St}
theorem post_px {o : Out D} {Q : VK} : Post G W Z s as H o Q = PX (Rep G Z) G W Z s as H o Q := by cases o <;> rfl
theorem PX.bind {α β γ δ : Type} {R1 : List Addr → Hp → α → β → Prop} {R2 : List Addr → Hp → γ → δ → Prop} {m : M α} {k : α → M γ} {Q : δ → Hp → Prop} (p : PX R2 G W Z s as H (bd m k h) Q) :
    PX R1 G W Z s as H (m h) fun v H1 => ∃ (as1 : List Addr) (d : α) (h1 : Hd), m h = .ok d h1 ∧ Ext as H as1 H1 ∧ Sim G Z as1 h1 H1 ∧ R1 as1 H1 d v ∧ PX R2 G W Z s as1 H1 (k d h1) Q := by
  rw [bd_eq] at p
  cases e : m h with
  | fail => rw [e] at p; exact p
  | ex c fs h1 => rw [e] at p; exact p
  | ok d h1 =>
    rw [e] at p
    intro as1 v H1 x S1 r
    refine ⟨as1, d, h1, rfl, x, S1, r, ?_⟩
    dsimp only at p
    cases e2 : k d h1 with
    | fail => rw [e2] at p; exact p
    | ex c fs h2 =>
      rw [e2] at p
      intro as2 cv dx H2 y S2 q
      exact p as2 cv dx H2 (x.trans y) S2 q
    | ok d2 h2 =>
      rw [e2] at p
      intro as2 v2 H2 y S2 q
      exact p as2 v2 H2 (x.trans y) S2 q
theorem PX.imp {α β : Type} {R : List Addr → Hp → α → β → Prop} {o : Out α} {Q Q' : β → Hp → Prop} (p : PX R G W Z s as H o Q) (k : ∀ v H', Q v H' → Q' v H') : PX R G W Z s as H o Q' := by
  cases o with
  | ok d h' => exact fun as' v H' x S r => k _ _ (p as' v H' x S r)
  | ex c fs h' => exact p
  | fail => exact p
theorem PX.ok {α β : Type} {R : List Addr → Hp → α → β → Prop} {d : α} {Q : β → Hp → Prop} {v : β} (p : PX R G W Z s as H (.ok d h) Q) (S : Sim G Z as h H) (r : R as H d v) : Q v H := p as v H .refl S r
end
abbrev SA := Env → M (List D)
def rdA (G : Gx) (W : WX) (f : SA) : TA := fun s H Q => ∃ (Z : Addr → Prop) (as : List Addr) (e : Env) (h : Hd), Sim G Z as h H ∧ SimE G Z as H e s ∧ PX (Reps G Z) G W Z s as H (f e h) Q
def aNil : SA := fun _ => pu []
def aCons (f : SE) (g : SA) : SA := fun e => bd (f e) fun d => bd (g e) fun ds => pu (d :: ds)
def aList : List SE → SA
  | [] => aNil
  | f :: fs => aCons f (aList fs)
def notStar : Expr → Bool
  | .Starred _ _ => false
  | _ => true
theorem starEach_of {e : Expr} {es : List Expr} {env : PySem.Env} (n : notStar e = true) : starEach (e :: es) env = (false, eval e env) :: starEach es env := by
  cases e <;> first | rfl | cases n
section
variable {X : Cx} {W : WX}
end
section
variable {X : Cx} {W : WX}
theorem da_nil : PA X [] (rdA (gx X) W aNil) := pa_nil.imp fun s H Q z => by
  obtain ⟨Z, as, e, h, S, E, P⟩ := z
  exact PX.ok P S .nil
theorem da_cons {e : Expr} {es : List Expr} {f : SE} {g : SA} (n : notStar e = true) (he : PE X e (rd (gx X) W f)) (hs : PA X es (rdA (gx X) W g)) : PA X (e :: es) (rdA (gx X) W (aCons f g)) :=
  (pa_cons he hs (starEach_of n)).imp fun s H Q z => by
    obtain ⟨Z, as, e, h, S, E, P⟩ := z
    refine ⟨Z, as, e, h, S, E, ?_⟩
    rw [post_px]
    refine (PX.bind (R1 := Rep (gx X) Z) P).imp fun x H1 z => ?_
    obtain ⟨as1, a, h1, _, x1, S1, r1, P1⟩ := z
    refine ⟨Z, as1, e, h1, S1, E.mono S x1, (PX.bind (R1 := Reps (gx X) Z) P1).imp fun y H2 z => ?_⟩
    obtain ⟨as2, b, h2, _, x2, S2, r2, P2⟩ := z
    exact PX.ok P2 S2 (.cons (r1.mono S1 x2) r2)
/-! ### names and constants -/
def cX (d : D) : SE := fun _ => pu d
def vX (i : Nat) : SE := fun e h => match e[i]? with
  | some (some d) => .ok d h
  | _ => .fail
theorem de_cst {e : Expr} {v : V} {d : D} (r : ∀ Z as H, Rep (gx X) Z as H d v) (p : PE X e (tC v)) : PE X e (rd (gx X) W (cX d)) := p.imp fun s H Q z => by
  obtain ⟨Z, as, e, h, S, E, P⟩ := z
  exact P as v H .refl S (r Z as H)
theorem de_int {i : Int} {k : Nat} {pos : Pos} : PE X (.Constant (.int i) k pos) (rd (gx X) W (cX (.int i))) := de_cst (fun _ _ _ => .int i) pe_int
theorem de_bl {b : Bool} {k : Nat} {pos : Pos} : PE X (.Constant (.bool b) k pos) (rd (gx X) W (cX (.bl b))) := de_cst (fun _ _ _ => .bl b) pe_bl
theorem de_non {k : Nat} {pos : Pos} : PE X (.Constant .none k pos) (rd (gx X) W (cX .non)) := de_cst (fun _ _ _ => .non) pe_non
theorem de_str {x : Str} {k : Nat} {pos : Pos} : PE X (.Constant (.str x) k pos) (rd (gx X) W (cX (.str x))) := de_cst (fun _ _ _ => .str x) pe_str
theorem de_var {i : Nat} {x : Str} {pos : Pos} (hN : X.N[i]? = some x) (hv : Vis X.env.scope x) (hd : (x == ("__debug__" : Str)) = false) (hc : (x == ("__classdict__" : Str)) = false) : PE X (.Name x pos) (rd (gx X) W (vX i)) :=
  (pe_var hN hv hd hc).imp fun s H Q z => by
    obtain ⟨Z, as, e, h, S, E, P⟩ := z
    unfold vX at P
    cases q : e[i]? with
    | none => rw [q] at P; exact P.elim
    | some o =>
      cases o with
      | none => rw [q] at P; exact P.elim
      | some d =>
        rw [q] at P
        obtain ⟨v, h1, h2⟩ := E.at_ i d q
        exact ⟨v, h1, P as v H .refl S h2⟩
/-! ### operators -/
noncomputable def binX (op : Operator) (mu : Bool) (fa fb : SE) : SE := op2 mu (binD op) fa fb
def cmpX (op : CmpOp) (fa fb : SE) : SE := op2 false (cmpD op) fa fb
def idxX (fa fb : SE) : SE := op2 false idxD fa fb
theorem de_bin {a b : Expr} {op : Operator} {mu : Bool} {fa fb : SE} {pos : Pos} (ha : PE X a (rd (gx X) W fa)) (hb : PE X b (rd (gx X) W fb)) : PE X (.BinOp a op b pos) (rd (gx X) W (binX op mu fa fb)) :=
  (pe_op op_bin ha hb).imp fun _ _ _ z => rd_op2 z
def noSet : Expr → Bool
  | .Set _ _ _ => false
  | _ => true
theorem noMark {op : CmpOp} {b : Expr} (n : noSet b = true) : behindInMarks op b = false := by
  cases b <;> first | rfl | cases n
theorem de_cmp {a b : Expr} {op : CmpOp} {fa fb : SE} {pos : Pos} (hu : X.A.units + 64 < cLine) (n : noSet b = true) (ha : PE X a (rd (gx X) W fa)) (hb : PE X b (rd (gx X) W fb)) :
    PE X (.Compare a [op] [b] pos) (rd (gx X) W (cmpX op fa fb)) :=
  (pe_cmpR (op_cmp hu) ha hb (noMark n)).imp fun _ _ _ z => rd_op2 z
theorem dt_cmp {a b : Expr} {op : CmpOp} {fa fb : SE} {pos : Pos} (hu : X.A.units + 64 < cLine) (n : noSet b = true) (ha : PE X a (rd (gx X) W fa)) (hb : PE X b (rd (gx X) W fb)) :
    PT X (.Compare a [op] [b] pos) (rdT (gx X) W (tru (cmpX op fa fb))) :=
  (pt_cmpR (op_cmp (mu := false) hu) ha hb (noMark n)).imp fun s H Q z => by
    obtain ⟨Z, as, e, h, S, E, P⟩ := z
    refine rd_op2 (mu := false) ⟨Z, as, e, h, S, E, ?_⟩
    unfold tru at P
    have P' := PostT.bind P
    refine P'.imp fun v H1 q => ?_
    obtain ⟨as1, d, h1, ed, x1, S1, r1, P1⟩ := q
    -- the value of a comparison is a truth
    have hb : ∃ c, d = .bl c := by
      have : ∃ a b hh, cmpD op hh a b = some (.v d) := by
        unfold cmpX op2 at ed
        rw [bd_eq] at ed
        cases e1 : fa e h with
        | fail => rw [e1] at ed; cases ed
        | ex _ _ _ => rw [e1] at ed; cases ed
        | ok a h2 =>
          rw [e1] at ed
          dsimp only at ed
          rw [bd_eq] at ed
          cases e2 : fb e h2 with
          | fail => rw [e2] at ed; cases ed
          | ex _ _ _ => rw [e2] at ed; cases ed
          | ok b h3 =>
            rw [e2] at ed
            dsimp only at ed
            cases e3 : cmpD op h3 a b with
            | none => rw [e3] at ed; cases ed
            | some r =>
              rw [e3, lf_some] at ed
              unfold cmpD at e3
              cases e4 : cmpB op h3 a b with
              | none => rw [e4] at e3; cases e3
              | some c =>
                rw [e4] at e3
                cases e3
                cases ed
                exact ⟨a, b, _, by unfold cmpD; rw [e4]; rfl⟩
      obtain ⟨a, b, hh, e3⟩ := this
      unfold cmpD at e3
      cases e4 : cmpB op hh a b with
      | none => rw [e4] at e3; cases e3
      | some c => rw [e4] at e3; cases e3; exact ⟨c, rfl⟩
    obtain ⟨c, rfl⟩ := hb
    cases r1
    exact ⟨c, rfl, P1 as1 H1 .refl S1⟩
def isSl : Expr → Bool
  | .Slice _ _ none _ => true
  | _ => false
theorem plainIx {b : Expr} (n : isSl b = false) : PlainIx b := by
  intro o i
  cases b with
  | Slice l u s p =>
    cases s with
    | none => cases n
    | some _ => rfl
  | _ => rfl
theorem de_idx {a b : Expr} {fa fb : SE} {pos : Pos} (hu : X.A.units + 64 < cLine) (n : isSl b = false) (ha : PE X a (rd (gx X) W fa)) (hb : PE X b (rd (gx X) W fb)) : PE X (.Subscript a b pos) (rd (gx X) W (idxX fa fb)) :=
  (pe_ix (ix_ok hu) ha hb (plainIx n)).imp fun _ _ _ z => rd_op2 z
/-- -a of a number -/
def negX (fa : SE) : SE := fun e => bd (fa e) fun d h => match d with
  | .int i => .ok (.int (-i)) h
  | _ => .fail
theorem de_neg {a : Expr} {fa : SE} {pos : Pos} (ha : PE X a (rd (gx X) W fa)) : PE X (.UnaryOp .USub a pos) (rd (gx X) W (negX fa)) :=
  (pe_un un_neg ha).imp fun s H Q z => by
    obtain ⟨Z, as, e, h, S, E, P⟩ := z
    refine ⟨Z, as, e, h, S, E, (Post.bind P).imp fun x H1 z => ?_⟩
    obtain ⟨as1, a, h1, _, x1, S1, r1, P1⟩ := z
    cases r1 with
    | int i => exact ⟨i, rfl, P1 as1 _ H1 .refl S1 (.int _)⟩
    | _ => exact P1.elim
/-! ### truth -/
theorem dt_val {e : Expr} {f : SE} (he : ∀ whole, isTrue e X.env whole = (do let v ← whole; standAt e.pos; holding [v] (truthy v))) (h : PE X e (rd (gx X) W f)) : PT X e (rdT (gx X) W (tru f)) :=
  (pt_truth h he).imp fun s H Q z => by
    obtain ⟨Z, as, e, h, S, E, P⟩ := z
    refine ⟨Z, as, e, h, S, E, (PostT.bind P).imp fun x H1 z => ?_⟩
    obtain ⟨as1, d, h1, _, x1, S1, r1, P1⟩ := z
    cases q : truD h1 d with
    | none => simp only [q] at P1; exact P1.elim
    | some c =>
      simp only [q] at P1
      exact ⟨c, tru_vals S1 r1 q, P1 as1 H1 .refl S1⟩
def notT (t : ST) : ST := fun e => bd (t e) fun c => pu (!c)
def andT (t u : ST) : ST := fun e => bd (t e) fun c => if c then u e else pu false
def orT (t u : ST) : ST := fun e => bd (t e) fun c => if c then pu true else u e
theorem dt_not {a : Expr} {t : ST} {pos : Pos} (h : PT X a (rdT (gx X) W t)) : PT X (.UnaryOp .Not a pos) (rdT (gx X) W (notT t)) :=
  (pt_not h).imp fun s H Q z => by
    obtain ⟨Z, as, e, h, S, E, P⟩ := z
    refine ⟨Z, as, e, h, S, E, (PostT.bindT P).imp fun c H1 z => ?_⟩
    obtain ⟨as1, h1, _, x1, S1, P1⟩ := z
    exact P1 as1 H1 .refl S1
theorem _root_.L2.PW.imp {X : Cx} {e : Expr} {t t' : TT} (p : PW X e t) (q : ∀ s H Q, t' s H Q → t s H Q) : PW X e t' :=
  ⟨fun wh pins s st H Q I w => p.run wh pins s st H Q I (q _ _ _ w)⟩
theorem dw_and1 {a : Expr} {t : ST} {pos : Pos} (h : PT X a (rdT (gx X) W t)) : PW X (.BoolOp .And [a] pos) (rdT (gx X) W t) := pw_and1 h
theorem dw_or1 {a : Expr} {t : ST} {pos : Pos} (h : PT X a (rdT (gx X) W t)) : PW X (.BoolOp .Or [a] pos) (rdT (gx X) W t) := pw_or1 h
theorem dw_and {a b : Expr} {r : List Expr} {t u : ST} {pos : Pos} (ha : PT X a (rdT (gx X) W t)) (hb : PW X (.BoolOp .And (b :: r) pos) (rdT (gx X) W u)) : PW X (.BoolOp .And (a :: b :: r) pos) (rdT (gx X) W (andT t u)) :=
  (pw_and ha hb).imp fun s H Q z => by
    obtain ⟨Z, as, e, h, S, E, P⟩ := z
    refine ⟨Z, as, e, h, S, E, (PostT.bindT P).imp fun c H1 z => ?_⟩
    obtain ⟨as1, h1, _, x1, S1, P1⟩ := z
    cases c with
    | true => exact ⟨Z, as1, e, h1, S1, E.mono S x1, P1⟩
    | false => exact P1 as1 H1 .refl S1
theorem dw_or {a b : Expr} {r : List Expr} {t u : ST} {pos : Pos} (ha : PT X a (rdT (gx X) W t)) (hb : PW X (.BoolOp .Or (b :: r) pos) (rdT (gx X) W u)) : PW X (.BoolOp .Or (a :: b :: r) pos) (rdT (gx X) W (orT t u)) :=
  (pw_or ha hb).imp fun s H Q z => by
    obtain ⟨Z, as, e, h, S, E, P⟩ := z
    refine ⟨Z, as, e, h, S, E, (PostT.bindT P).imp fun c H1 z => ?_⟩
    obtain ⟨as1, h1, _, x1, S1, P1⟩ := z
    cases c with
    | false => exact ⟨Z, as1, e, h1, S1, E.mono S x1, P1⟩
    | true => exact P1 as1 H1 .refl S1
/-! values -/
def notX (f : SE) : SE := fun e => bd (f e) fun d h => match d with
  | .bl c => .ok (.bl (!c)) h
  | _ => .fail
def andX (f g : SE) : SE := fun e => bd (f e) fun d => match d with
  | .bl c => if c then g e else pu (.bl false)
  | _ => no
def orX (f g : SE) : SE := fun e => bd (f e) fun d => match d with
  | .bl c => if c then pu (.bl true) else g e
  | _ => no
theorem de_not {a : Expr} {f : SE} {pos : Pos} (h : PE X a (rd (gx X) W f)) : PE X (.UnaryOp .Not a pos) (rd (gx X) W (notX f)) :=
  (pe_not h).imp fun s H Q z => by
    obtain ⟨Z, as, e, h, S, E, P⟩ := z
    refine ⟨Z, as, e, h, S, E, (Post.bind P).imp fun x H1 z => ?_⟩
    obtain ⟨as1, d, h1, _, x1, S1, r1, P1⟩ := z
    cases r1 with
    | bl c => exact ⟨c, rfl, P1 as1 _ H1 .refl S1 (.bl _)⟩
    | _ => exact P1.elim
theorem de_one {op : BoolOp} {a : Expr} {f : SE} {pos : Pos} (h : PE X a (rd (gx X) W f)) : PE X (.BoolOp op [a] pos) (rd (gx X) W f) := pe_one h
theorem de_and {a b : Expr} {r : List Expr} {f g : SE} {pos : Pos} (ha : PE X a (rd (gx X) W f)) (hb : PE X (.BoolOp .And (b :: r) pos) (rd (gx X) W g)) : PE X (.BoolOp .And (a :: b :: r) pos) (rd (gx X) W (andX f g)) :=
  (pe_and ha hb).imp fun s H Q z => by
    obtain ⟨Z, as, e, h, S, E, P⟩ := z
    refine ⟨Z, as, e, h, S, E, (Post.bind P).imp fun x H1 z => ?_⟩
    obtain ⟨as1, d, h1, _, x1, S1, r1, P1⟩ := z
    cases r1 with
    | bl c =>
      refine ⟨c, rfl, ?_⟩
      cases c with
      | true => exact ⟨Z, as1, e, h1, S1, E.mono S x1, P1⟩
      | false => exact P1 as1 _ H1 .refl S1 (.bl _)
    | _ => exact P1.elim
theorem de_or {a b : Expr} {r : List Expr} {f g : SE} {pos : Pos} (ha : PE X a (rd (gx X) W f)) (hb : PE X (.BoolOp .Or (b :: r) pos) (rd (gx X) W g)) : PE X (.BoolOp .Or (a :: b :: r) pos) (rd (gx X) W (orX f g)) :=
  (pe_or ha hb).imp fun s H Q z => by
    obtain ⟨Z, as, e, h, S, E, P⟩ := z
    refine ⟨Z, as, e, h, S, E, (Post.bind P).imp fun x H1 z => ?_⟩
    obtain ⟨as1, d, h1, _, x1, S1, r1, P1⟩ := z
    cases r1 with
    | bl c =>
      refine ⟨c, rfl, ?_⟩
      cases c with
      | false => exact ⟨Z, as1, e, h1, S1, E.mono S x1, P1⟩
      | true => exact P1 as1 _ H1 .refl S1 (.bl _)
    | _ => exact P1.elim
def ifX (t : ST) (f g : SE) : SE := fun e => bd (t e) fun c => if c then f e else g e
theorem de_if {c a b : Expr} {t : ST} {f g : SE} {pos : Pos} (hc : PT X c (rdT (gx X) W t)) (ha : PE X a (rd (gx X) W f)) (hb : PE X b (rd (gx X) W g)) : PE X (.IfExp c a b pos) (rd (gx X) W (ifX t f g)) :=
  (pe_ifExp hc ha hb).imp fun s H Q z => by
    obtain ⟨Z, as, e, h, S, E, P⟩ := z
    refine ⟨Z, as, e, h, S, E, (Post.bindT P).imp fun c H1 z => ?_⟩
    obtain ⟨as1, h1, _, x1, S1, P1⟩ := z
    cases c with
    | true => exact ⟨Z, as1, e, h1, S1, E.mono S x1, P1⟩
    | false => exact ⟨Z, as1, e, h1, S1, E.mono S x1, P1⟩
/-! ### displays -/
def small (xs : List D) : Bool := decide (xs.length ≤ 1000)
def tupX (f : SA) : SE := fun e => bd (f e) fun ds h => if ds.length ≤ sizeLine then .ok (.tup ds) h else .fail
def lstX (mu : Bool) (f : SA) : SE := fun e => bd (f e) fun ds h => if ds.length ≤ sizeLine then fin mu (.l ds) h else .fail
theorem de_tup {es : List Expr} {f : SA} {k : Nat} {pos : Pos} (h : PA X es (rdA (gx X) W f)) : PE X (.Tuple es k pos) (rd (gx X) W (tupX f)) :=
  (pe_tupN h).imp fun s H Q z => by
    obtain ⟨Z, as, e, h, S, E, P⟩ := z
    rw [post_px] at P
    refine ⟨Z, as, e, h, S, E, (PX.bind (R1 := Reps (gx X) Z) P).imp fun vs H1 z => ?_⟩
    obtain ⟨as1, ds, h1, _, x1, S1, r1, P1⟩ := z
    by_cases hc : ds.length ≤ sizeLine
    · rw [if_pos hc] at P1
      refine ⟨by rw [← r1.length]; exact hc, fun p o n d => ?_⟩
      exact P1 as1 _ _ (.new n) (S1.new n) (.tup (.inl ⟨o, upd_same, d⟩) (r1.mono S1 (.new n)))
    · rw [if_neg hc] at P1
      exact P1.elim
theorem de_lst {es : List Expr} {f : SA} {mu : Bool} {pos : Pos} (h : PA X es (rdA (gx X) W f)) : PE X (.List es pos) (rd (gx X) W (lstX mu f)) :=
  (pe_lst h).imp fun s H Q z => by
    obtain ⟨Z, as, e, h, S, E, P⟩ := z
    rw [post_px] at P
    refine ⟨Z, as, e, h, S, E, (PX.bind (R1 := Reps (gx X) Z) P).imp fun vs H1 z => ?_⟩
    obtain ⟨as1, ds, h1, _, x1, S1, r1, P1⟩ := z
    by_cases hc : ds.length ≤ sizeLine
    · rw [if_pos hc, ← post_px] at P1
      refine ⟨by rw [← r1.length]; exact hc, fun p n => ?_⟩
      exact PR.newL (Post.pr (o := some (.l ds)) P1) S1 r1 n
    · rw [if_neg hc] at P1
      exact P1.elim
/-! ### slices -/
abbrev SO := Env → M (Option Int)
def oNone : SO := fun _ => pu none
def oSome (f : SE) : SO := fun e => bd (f e) fun d h => match d with
  | .int i => .ok (some i) h
  | _ => .fail
def slcX (mu : Bool) (f : SE) (lo hi : SO) : SE := fun e => bd (f e) fun d => bd (lo e) fun l => bd (hi e) fun u => fun h => lf mu (slcD h d l u) h
def rdO (G : Gx) (W : WX) (f : SO) : TO := fun s H Q => ∃ (Z : Addr → Prop) (as : List Addr) (e : Env) (h : Hd), Sim G Z as h H ∧ SimE G Z as H e s ∧ PX (fun _ _ (a b : Option Int) => a = b) G W Z s as H (f e h) Q
theorem _root_.L2.PO.imp {X : Cx} {e : Option Expr} {t t' : TO} (p : PO X e t) (q : ∀ s H Q, t' s H Q → t s H Q) : PO X e t' :=
  ⟨fun pins s st H Q I w => p.run pins s st H Q I (q _ _ _ w)⟩
theorem do_none : PO X none (rdO (gx X) W oNone) := po_none.imp fun s H Q z => by
  obtain ⟨Z, as, e, h, S, E, P⟩ := z
  exact PX.ok P S rfl
theorem do_some {e : Expr} {f : SE} (he : PE X e (rd (gx X) W f)) : PO X (some e) (rdO (gx X) W (oSome f)) := (po_some he).imp fun s H Q z => by
  obtain ⟨Z, as, e, h, S, E, P⟩ := z
  refine ⟨Z, as, e, h, S, E, ?_⟩
  rw [post_px]
  refine (PX.bind (R1 := Rep (gx X) Z) P).imp fun x H1 z => ?_
  obtain ⟨as1, d, h1, _, x1, S1, r1, P1⟩ := z
  cases r1 with
  | int i => exact ⟨i, rfl, PX.ok P1 S1 rfl⟩
  | _ => exact P1.elim
theorem de_slc {a : Expr} {lo hi : Option Expr} {f : SE} {l u : SO} {mu : Bool} {p2 pos : Pos} (ha : PE X a (rd (gx X) W f)) (hl : PO X lo (rdO (gx X) W l)) (hh : PO X hi (rdO (gx X) W u)) :
    PE X (.Subscript a (.Slice lo hi none p2) pos) (rd (gx X) W (slcX mu f l u)) :=
  (pe_slice (sl_ok (mu := mu)) ha hl hh).imp fun s H Q z => by
    obtain ⟨Z, as, e, h, S, E, P⟩ := z
    rw [post_px] at P
    refine ⟨Z, as, e, h, S, E, ?_⟩
    rw [post_px]
    refine (PX.bind (R1 := Rep (gx X) Z) P).imp fun x H1 z => ?_
    obtain ⟨as1, d, h1, _, x1, S1, r1, P1⟩ := z
    refine ⟨Z, as1, e, h1, S1, E.mono S x1, (PX.bind (R1 := fun _ _ (a b : Option Int) => a = b) P1).imp fun l H2 z => ?_⟩
    obtain ⟨as2, l', h2, _, x2, S2, r2, P2⟩ := z
    subst r2
    refine ⟨Z, as2, e, h2, S2, (E.mono S x1).mono S1 x2, (PX.bind (R1 := fun _ _ (a b : Option Int) => a = b) P2).imp fun u H3 z => ?_⟩
    obtain ⟨as3, u', h3, _, x3, S3, r3, P3⟩ := z
    subst r3
    rw [← post_px] at P3
    exact ⟨Z, as3, h3, d, S3, (r1.mono S1 x2).mono S2 x3, Post.pr P3⟩
end
end Dk
end
section
set_option Elab.async false
set_option linter.all false
set_option maxRecDepth 100000
set_option maxHeartbeats 4000000
/-! DkI: chains; statements, targets, loops. -/
namespace Dk
open PySem PySem.Spec PyProof.Rows L2
/-- a op b op' c -/
def chnX (op op' : CmpOp) (fa fb fc : SE) : SE := fun e => bd (fa e) fun a => bd (fb e) fun b h => match cmpB op h a b with
  | some true => bd (fc e) (fun c h => lf false (cmpD op' h b c) h) h
  | some false => .ok (.bl false) h
  | none => .fail
section
variable {X : Cx} {W : WX}
theorem rd_chn {G : Gx} {W : WX} {op op' : CmpOp} {fa fb fc : SE} {s : L2.St} {H : Hp} {Q : VK} (z : rd G W (chnX op op' fa fb fc) s H Q) :
    tChain (rB G false (cmpD op)) (rB G false (cmpD op')) (rd G W fa) (rd G W fb) (rd G W fc) s H Q := by
  obtain ⟨Z, as, e, h, S, E, P⟩ := z
  refine ⟨Z, as, e, h, S, E, (Post.bind P).imp fun x H1 z => ?_⟩
  obtain ⟨as1, a, h1, _, x1, S1, r1, P1⟩ := z
  refine ⟨Z, as1, e, h1, S1, E.mono S x1, (Post.bind P1).imp fun y H2 z => ?_⟩
  obtain ⟨as2, b, h2, _, x2, S2, r2, P2⟩ := z
  refine ⟨Z, as2, h2, a, b, S2, r1.mono S1 x2, r2, ?_⟩
  cases q : cmpB op h2 a b with
  | none => simp only [q] at P2; exact P2.elim
  | some c =>
    refine ⟨.v (.bl c), by unfold cmpD; rw [q]; rfl, fun as3 v H3 d h3 e3 x3 S3 r3 => ?_⟩
    cases e3
    cases r3
    refine ⟨c, rfl, ?_⟩
    cases c with
    | false =>
      simp only [q] at P2
      exact P2 as3 _ H3 x3 S3 (.bl _)
    | true =>
      simp only [q] at P2
      have P3 : Post G W Z s as3 H3 (bd (fc e) (fun c h => lf false (cmpD op' h b c) h) h2) Q := by
        cases q3 : bd (fc e) (fun c h => lf false (cmpD op' h b c) h) h2 with
        | fail => rw [q3] at P2; exact P2
        | ok d h4 => rw [q3] at P2; exact fun as4 v H4 x4 => P2 as4 v H4 (x3.trans x4)
        | ex c fs h4 => rw [q3] at P2; exact fun as4 cv dx H4 x4 => P2 as4 cv dx H4 (x3.trans x4)
      refine ⟨Z, as3, e, h2, S3, ((E.mono S x1).mono S1 x2).mono S2 x3, (Post.bind P3).imp fun w H4 z => ?_⟩
      obtain ⟨as4, c, h4, _, x4, S4, r4, P4⟩ := z
      exact ⟨Z, as4, h4, b, c, S4, (r2.mono S2 x3).mono S3 x4, r4, Post.pr P4⟩
theorem lastM {op op' : CmpOp} {b c : Expr} (n : noSet c = true) : lastMarks [op, op'] [b, c] = false := noMark (op := op') n
theorem de_chn {a b c : Expr} {op op' : CmpOp} {fa fb fc : SE} {pos : Pos} (hu : X.A.units + 64 < cLine) (n : noSet c = true) (ha : PE X a (rd (gx X) W fa)) (hb : PE X b (rd (gx X) W fb)) (hc : PE X c (rd (gx X) W fc)) :
    PE X (.Compare a [op, op'] [b, c] pos) (rd (gx X) W (chnX op op' fa fb fc)) :=
  (pe_chain (op_cmp (mu := false) hu) (op_cmp (mu := false) hu) ha hb hc (lastM n)).imp fun _ _ _ z => rd_chn z
theorem cmp_bl {op : CmpOp} {h h' : Hd} {a b d : D} (e : lf false (cmpD op h a b) h = .ok d h') : ∃ c, d = .bl c := by
  unfold cmpD at e
  cases q : cmpB op h a b with
  | none => rw [q] at e; cases e
  | some c => rw [q] at e; cases e; exact ⟨c, rfl⟩
theorem chn_bl {op op' : CmpOp} {fa fb fc : SE} {e : Env} {h h' : Hd} {d : D} (q : chnX op op' fa fb fc e h = .ok d h') : ∃ c, d = .bl c := by
  unfold chnX at q
  rw [bd_eq] at q
  cases e1 : fa e h with
  | fail => rw [e1] at q; cases q
  | ex _ _ _ => rw [e1] at q; cases q
  | ok a h1 =>
    rw [e1] at q
    dsimp only at q
    rw [bd_eq] at q
    cases e2 : fb e h1 with
    | fail => rw [e2] at q; cases q
    | ex _ _ _ => rw [e2] at q; cases q
    | ok b h2 =>
      rw [e2] at q
      dsimp only at q
      cases e3 : cmpB op h2 a b with
      | none => simp only [e3] at q; cases q
      | some c =>
        cases c with
        | false => simp only [e3] at q; cases q; exact ⟨_, rfl⟩
        | true =>
          simp only [e3] at q
          rw [bd_eq] at q
          cases e4 : fc e h2 with
          | fail => rw [e4] at q; cases q
          | ex _ _ _ => rw [e4] at q; cases q
          | ok c h3 => rw [e4] at q; exact cmp_bl q
theorem dt_chn {a b c : Expr} {op op' : CmpOp} {fa fb fc : SE} {pos : Pos} (hu : X.A.units + 64 < cLine) (n : noSet c = true) (ha : PE X a (rd (gx X) W fa)) (hb : PE X b (rd (gx X) W fb)) (hc : PE X c (rd (gx X) W fc)) :
    PT X (.Compare a [op, op'] [b, c] pos) (rdT (gx X) W (tru (chnX op op' fa fb fc))) :=
  (pt_chain (op_cmp (mu := false) hu) (op_cmp (mu := false) hu) ha hb hc (lastM n)).imp fun s H Q z => by
    obtain ⟨Z, as, e, h, S, E, P⟩ := z
    refine rd_chn ⟨Z, as, e, h, S, E, (PostT.bind P).imp fun v H1 q => ?_⟩
    obtain ⟨as1, d, h1, ed, x1, S1, r1, P1⟩ := q
    obtain ⟨c, rfl⟩ := chn_bl ed
    cases r1
    exact ⟨c, rfl, P1 as1 H1 .refl S1⟩
end

/-! ### statements -/
inductive Fl where
  | nx (e : Env)
  | rt (d : D)
  | bk (e : Env)
  | ct (e : Env)
  | ex (c : String) (fs : Fs) (e : Env)
inductive OS where
  | ok (f : Fl) (h : Hd)
  | fail
abbrev SS := Env → Hd → OS
def PostS (G : Gx) (W : WX) (Z : Addr → Prop) (as : List Addr) (H : Hp) (o : OS) (D : Ends) : Prop := match o with
  | .ok (.nx e') h' => ∀ (as' : List Addr) (s' : L2.St) (H' : Hp), Ext as H as' H' → Sim G Z as' h' H' → SimE G Z as' H' e' s' → D.nx s' H'
  | .ok (.rt d) h' => ∀ (as' : List Addr) (v : V) (H' : Hp), Ext as H as' H' → Sim G Z as' h' H' → Rep G Z as' H' d v → D.rt v H'
  | .ok (.bk e') h' => ∀ (as' : List Addr) (s' : L2.St) (H' : Hp), Ext as H as' H' → Sim G Z as' h' H' → SimE G Z as' H' e' s' → D.bk s' H'
  | .ok (.ct e') h' => ∀ (as' : List Addr) (s' : L2.St) (H' : Hp), Ext as H as' H' → Sim G Z as' h' H' → SimE G Z as' H' e' s' → D.ct s' H'
  | .ok (.ex c fs e') h' => ∀ (as' : List Addr) (cv : Value) (dx : Option Addr) (s' : L2.St) (H' : Hp), Ext as H as' H' → Sim G Z as' h' H' → SimE G Z as' H' e' s' → ExR G Z as' H' c fs cv dx → W cv dx s' H'
  | .fail => False
def rdS (G : Gx) (W : WX) (f : SS) : TS := fun D s H => ∃ (Z : Addr → Prop) (as : List Addr) (e : Env) (h : Hd), Sim G Z as h H ∧ SimE G Z as H e s ∧ PostS G W Z as H (f e h) D
/-- an expression within a statement -/
def sE {α : Type} (m : M α) (e : Env) (k : α → Hd → OS) : Hd → OS := fun h => match m h with
  | .ok a h' => k a h'
  | .ex c fs h' => .ok (.ex c fs e) h'
  | .fail => .fail
section
variable {G : Gx} {W : WX} {Z : Addr → Prop} {as as1 : List Addr} {h : Hd} {H H1 : Hp} {s : L2.St} {D : Ends}
theorem PostS.ext {o : OS} (p : PostS G W Z as H o D) (x : Ext as H as1 H1) : PostS G W Z as1 H1 o D := by
  cases o with
  | fail => exact p
  | ok f h' =>
    cases f with
    | nx e' => exact fun as' s' H' y => p as' s' H' (x.trans y)
    | rt d => exact fun as' v H' y => p as' v H' (x.trans y)
    | bk e' => exact fun as' s' H' y => p as' s' H' (x.trans y)
    | ct e' => exact fun as' s' H' y => p as' s' H' (x.trans y)
    | ex c fs e' => exact fun as' cv dx s' H' y => p as' cv dx s' H' (x.trans y)
theorem PostS.bind {α β : Type} {R : List Addr → Hp → α → β → Prop} {m : M α} {e : Env} {k : α → Hd → OS} (p : PostS G W Z as H (sE m e k h) D) (S : Sim G Z as h H) (E : SimE G Z as H e s) :
    PX R G W Z s as H (m h) fun v H1 => ∃ (as1 : List Addr) (d : α) (h1 : Hd), m h = .ok d h1 ∧ Ext as H as1 H1 ∧ Sim G Z as1 h1 H1 ∧ R as1 H1 d v ∧ PostS G W Z as1 H1 (k d h1) D := by
  unfold sE at p
  cases q : m h with
  | fail => rw [q] at p; exact p
  | ex c fs h1 =>
    rw [q] at p
    exact fun as' cv dx H' x S' r => p as' cv dx s H' x S' (E.mono S x) r
  | ok d h1 =>
    rw [q] at p
    exact fun as1 v H1 x S1 r => ⟨as1, d, h1, rfl, x, S1, r, PostS.ext p x⟩
end
theorem _root_.L2.PS.imp {X : Cx} {e : Stmt} {t t' : TS} (p : PS X e t) (q : ∀ D s H, t' D s H → t D s H) : PS X e t' :=
  ⟨fun pins s st H D I w => p.run pins s st H D I (q _ _ _ w)⟩
theorem _root_.L2.PSs.imp {X : Cx} {e : List Stmt} {t t' : TS} (p : PSs X e t) (q : ∀ D s H, t' D s H → t D s H) : PSs X e t' :=
  ⟨fun pins s st H D I w => p.run pins s st H D I (q _ _ _ w)⟩
def sNil : SS := fun e h => .ok (.nx e) h
def sCons (f g : SS) : SS := fun e h => match f e h with
  | .ok (.nx e') h' => g e' h'
  | o => o
def sList : List SS → SS
  | [] => sNil
  | f :: fs => sCons f (sList fs)
def sPass : SS := sNil
def sBrk : SS := fun e h => .ok (.bk e) h
def sCnt : SS := fun e h => .ok (.ct e) h
def sRet (f : SE) : SS := fun e => sE (f e) e fun d h => .ok (.rt d) h
def sRetN : SS := fun e h => .ok (.rt .non) h
def sExp (f : SE) : SS := fun e => sE (f e) e fun _ h => .ok (.nx e) h
def sIf (t : ST) (f g : SS) : SS := fun e => sE (t e) e fun c => if c then f e else g e
section
variable {X : Cx} {W : WX}
theorem ds_nil : PSs X [] (rdS (gx X) W sNil) := pss_nil.imp fun D s H z => by
  obtain ⟨Z, as, e, h, S, E, P⟩ := z
  exact P as s H .refl S E
theorem ds_cons {st : Stmt} {r : List Stmt} {f g : SS} (h1 : PS X st (rdS (gx X) W f)) (h2 : PSs X r (rdS (gx X) W g)) : PSs X (st :: r) (rdS (gx X) W (sCons f g)) :=
  (pss_cons h1 h2).imp fun D s H z => by
    obtain ⟨Z, as, e, h, S, E, P⟩ := z
    refine ⟨Z, as, e, h, S, E, ?_⟩
    unfold sCons at P
    cases q : f e h with
    | fail => rw [q] at P; exact P
    | ok fl h' =>
      rw [q] at P
      cases fl with
      | nx e' => exact fun as' s' H' x S' E' => ⟨Z, as', e', h', S', E', PostS.ext P x⟩
      | rt d => exact P
      | bk e' => exact P
      | ct e' => exact P
      | ex c fs e' => exact P
theorem ds_pass {pos : Pos} : PS X (.Pass pos) (rdS (gx X) W sPass) := ps_pass.imp fun D s H z => by
  obtain ⟨Z, as, e, h, S, E, P⟩ := z
  exact P as s H .refl S E
theorem ds_brk {pos : Pos} : PS X (.Break pos) (rdS (gx X) W sBrk) := ps_break.imp fun D s H z => by
  obtain ⟨Z, as, e, h, S, E, P⟩ := z
  exact P as s H .refl S E
theorem ds_cnt {pos : Pos} : PS X (.Continue pos) (rdS (gx X) W sCnt) := ps_continue.imp fun D s H z => by
  obtain ⟨Z, as, e, h, S, E, P⟩ := z
  exact P as s H .refl S E
theorem ds_ret {a : Expr} {f : SE} {pos : Pos} (h : PE X a (rd (gx X) W f)) : PS X (.Return (some a) pos) (rdS (gx X) W (sRet f)) := (ps_ret h).imp fun D s H z => by
  obtain ⟨Z, as, e, h, S, E, P⟩ := z
  refine ⟨Z, as, e, h, S, E, ?_⟩
  rw [post_px]
  refine (PostS.bind (R := Rep (gx X) Z) P S E).imp fun v H1 z => ?_
  obtain ⟨as1, d, h1, _, x1, S1, r1, P1⟩ := z
  exact P1 as1 v H1 .refl S1 r1
theorem ds_retN {pos : Pos} : PS X (.Return none pos) (rdS (gx X) W sRetN) := ps_retN.imp fun D s H z => by
  obtain ⟨Z, as, e, h, S, E, P⟩ := z
  exact P as _ H .refl S .non
theorem ds_exp {a : Expr} {f : SE} {pos : Pos} (hs : swapsWith a none pos.line X.env = pure false) (h : PE X a (rd (gx X) W f)) : PS X (.Expr a pos) (rdS (gx X) W (sExp f)) := (ps_expr h hs).imp fun D s H z => by
  obtain ⟨Z, as, e, h, S, E, P⟩ := z
  refine ⟨Z, as, e, h, S, E, ?_⟩
  rw [post_px]
  refine (PostS.bind (R := Rep (gx X) Z) P S E).imp fun v H1 z => ?_
  obtain ⟨as1, d, h1, _, x1, S1, r1, P1⟩ := z
  exact P1 as1 s H1 .refl S1 (E.mono S x1)
theorem postT_px {G : Gx} {Z : Addr → Prop} {s : L2.St} {as : List Addr} {H : Hp} {o : Out Bool} {Q : Bool → Hp → Prop} (p : PX (fun _ _ (a b : Bool) => a = b) G W Z s as H o Q) : PostT G W Z s as H o Q := by
  cases o with
  | fail => exact p
  | ex c fs h => exact p
  | ok c h => exact fun as' H' x S => p as' c H' x S rfl
theorem ds_if {c : Expr} {a b : List Stmt} {t : ST} {f g : SS} {pos : Pos} (hc : PT X c (rdT (gx X) W t)) (ha : PSs X a (rdS (gx X) W f)) (hb : PSs X b (rdS (gx X) W g)) : PS X (.If c a b pos) (rdS (gx X) W (sIf t f g)) :=
  (ps_if hc ha hb).imp fun D s H z => by
    obtain ⟨Z, as, e, h, S, E, P⟩ := z
    refine ⟨Z, as, e, h, S, E, postT_px ((PostS.bind (R := fun _ _ (a b : Bool) => a = b) P S E).imp fun v H1 z => ?_)⟩
    obtain ⟨as1, d, h1, _, x1, S1, rfl, P1⟩ := z
    cases d with
    | true => exact ⟨Z, as1, e, h1, S1, E.mono S x1, P1⟩
    | false => exact ⟨Z, as1, e, h1, S1, E.mono S x1, P1⟩
/-! ### while -/
/-- how often a while may turn at most -/
def turns : Nat := 100000
def wGo (t : ST) (f : SS) : Nat → Env → Hd → OS
  | 0, _ => fun _ => .fail
  | n + 1, e => sE (t e) e fun c h => if c then (match f e h with
    | .ok (.nx e') h' => wGo t f n e' h'
    | .ok (.ct e') h' => wGo t f n e' h'
    | .ok (.bk e') h' => .ok (.nx e') h'
    | o => o) else .ok (.nx e) h
def sWhl (t : ST) (f : SS) : SS := fun e => wGo t f turns e
theorem ds_whl {c : Expr} {b : List Stmt} {t : ST} {f : SS} {pos : Pos} (hp : PassesOwn (model X.prog X.w) X.A X.env X.xe) (hc : PT X c (rdT (gx X) W t)) (hb : PSs X b (rdS (gx X) W f)) : PS X (.While c b [] pos) (rdS (gx X) W (sWhl t f)) :=
  (ps_while hp hc hb).imp fun D s H z => by
    obtain ⟨Z, as, e, h, S, E, P⟩ := z
    refine ⟨fun n s H => ∃ as e h, Sim (gx X) Z as h H ∧ SimE (gx X) Z as H e s ∧ PostS (gx X) W Z as H (wGo t f n e h) D, ⟨turns, as, e, h, S, E, P⟩, ?_⟩
    rintro n s H ⟨as, e, h, S, E, P⟩
    cases n with
    | zero => exact P.elim
    | succ n =>
      unfold wGo at P
      refine ⟨Z, as, e, h, S, E, postT_px ((PostS.bind (R := fun _ _ (a b : Bool) => a = b) P S E).imp fun v H1 z => ?_)⟩
      obtain ⟨as1, d, h1, _, x1, S1, rfl, P1⟩ := z
      cases d with
      | false => exact P1 as1 s H1 .refl S1 (E.mono S x1)
      | true =>
        refine ⟨fun s' H' => ∃ as e h, Sim (gx X) Z as h H' ∧ SimE (gx X) Z as H' e s' ∧ PostS (gx X) W Z as H' (wGo t f n e h) D, fun s' H' z => ⟨n, Nat.lt_succ_self _, z⟩, Z, as1, e, h1, S1, E.mono S x1, ?_⟩
        simp only [if_true] at P1
        cases q : f e h1 with
        | fail => rw [q] at P1; exact P1
        | ok fl h' =>
          rw [q] at P1
          cases fl with
          | nx e' => exact fun as' s' H' x S' E' => ⟨as', e', h', S', E', PostS.ext P1 x⟩
          | ct e' => exact fun as' s' H' x S' E' => ⟨as', e', h', S', E', PostS.ext P1 x⟩
          | bk e' => exact P1
          | rt d => exact P1
          | ex c fs e' => exact P1
end
end Dk
end
section
set_option Elab.async false
set_option linter.all false
set_option maxRecDepth 100000
set_option maxHeartbeats 4000000
/-! DkJ: targets, assignments. -/
namespace Dk
open PySem PySem.Spec PyProof.Rows L2
abbrev TgF := D → Env → Hd → Option (Env × Hd)
/-- a tuple of which nothing but its items is known will do -/
def RepW (G : Gx) (Z : Addr → Prop) (as : List Addr) (H : Hp) (d : D) (v : V) : Prop := Rep G Z as H d v ∨ ∃ (ds : List D) (a : Addr) (vs : List V), d = .tup ds ∧ v = .ref a ∧ SqT G.K H a vs ∧ Reps G Z as H ds vs
def RepB (G : Gx) (Z : Addr → Prop) (wk : Bool) (as : List Addr) (H : Hp) (d : D) (v : V) : Prop := match wk with
  | true => RepW G Z as H d v
  | false => Rep G Z as H d v
/-- what a target leaves as it was -/
def Sb (ws : List Nat) (s s' : L2.St) : Prop := s'.length = s.length ∧ ∀ j, j ∉ ws → s'[j]? = s[j]?
theorem Sb.refl {ws : List Nat} {s : L2.St} : Sb ws s s := ⟨rfl, fun _ _ => rfl⟩
theorem Sb.trans {ws : List Nat} {s s' s'' : L2.St} (a : Sb ws s s') (b : Sb ws s' s'') : Sb ws s s'' := ⟨b.1.trans a.1, fun j n => (b.2 j n).trans (a.2 j n)⟩
theorem Sb.sub {ws ws' : List Nat} {s s' : L2.St} (a : Sb ws s s') (k : ∀ j ∈ ws, j ∈ ws') : Sb ws' s s' := ⟨a.1, fun j n => a.2 j fun m => n (k j m)⟩
def rdG (G : Gx) (ws : List Nat) (wk : Bool) (g : TgF) : TG := fun v s H Q => ∃ (Z : Addr → Prop) (as : List Addr) (e : Env) (h : Hd) (d : D) (e' : Env) (h' : Hd), Sim G Z as h H ∧ SimE G Z as H e s ∧ RepB G Z wk as H d v ∧ g d e h = some (e', h') ∧
  ∀ (as' : List Addr) (s' : L2.St) (H' : Hp), Ext as H as' H' → Sim G Z as' h' H' → SimE G Z as' H' e' s' → Sb ws s s' → Q s' H'
def rdGs (G : Gx) (ws : List Nat) (g : List D → Env → Hd → Option (Env × Hd)) : TGs := fun vs s H Q => ∃ (Z : Addr → Prop) (as : List Addr) (e : Env) (h : Hd) (ds : List D) (e' : Env) (h' : Hd), Sim G Z as h H ∧ SimE G Z as H e s ∧ Reps G Z as H ds vs ∧ g ds e h = some (e', h') ∧
  ∀ (as' : List Addr) (s' : L2.St) (H' : Hp), Ext as H as' H' → Sim G Z as' h' H' → SimE G Z as' H' e' s' → Sb ws s s' → Q s' H'
theorem _root_.L2.PG.imp {X : Cx} {e : Expr} {t t' : TG} (p : PG X e t) (q : ∀ v s H Q, t' v s H Q → t v s H Q) : PG X e t' :=
  ⟨fun pins s st H v u Q I r w => p.run pins s st H v u Q I r (q _ _ _ _ w)⟩
theorem _root_.L2.PGs.imp {X : Cx} {e : List Expr} {t t' : TGs} (p : PGs X e t) (q : ∀ v s H Q, t' v s H Q → t v s H Q) : PGs X e t' :=
  ⟨fun pins s st H v u Q I r w => p.run pins s st H v u Q I r (q _ _ _ _ w)⟩
theorem _root_.L2.PG.or {X : Cx} {e : Expr} {t t' : TG} (p : PG X e t) (p' : PG X e t') : PG X e (fun v s H Q => t v s H Q ∨ t' v s H Q) :=
  ⟨fun pins s st H v u Q I r w => w.elim (p.run pins s st H v u Q I r) (p'.run pins s st H v u Q I r)⟩
def gN (i : Nat) : TgF := fun d e h => some (e.set i (some d), h)
def gAll : List TgF → List D → Env → Hd → Option (Env × Hd)
  | [], [], e, h => some (e, h)
  | g :: gs, d :: ds, e, h => match g d e h with
    | some (e1, h1) => gAll gs ds e1 h1
    | none => none
  | _, _, _, _ => none
def gT (gs : List TgF) : TgF := fun d e h => match d with
  | .tup ds => gAll gs ds e h
  | d => match asL h d with
    | some ds => gAll gs ds e h
    | none => none
theorem assignEach_of {e : Expr} {es : List Expr} {env : PySem.Env} (n : notStar e = true) : assignEach (e :: es) env = (false, assign e env) :: assignEach es env := by
  cases e <;> first | rfl | cases n
theorem assignEach_all : ∀ {es : List Expr} {env : PySem.Env}, es.all notStar = true → (assignEach es env).length = es.length ∧ (assignEach es env).findIdx? (·.1) = none
  | [], _, _ => ⟨rfl, rfl⟩
  | e :: es, env, n => by
    have n1 : notStar e = true ∧ es.all notStar = true := by simpa using n
    obtain ⟨h1, h2⟩ := assignEach_all (env := env) n1.2
    rw [assignEach_of n1.1]
    refine ⟨by rw [List.length_cons, List.length_cons, h1], ?_⟩
    rw [List.findIdx?_cons, h2]
    rfl
section
variable {X : Cx}
theorem dg_name {i : Nat} {x : Str} {pos : Pos} (hN : X.N.Nodup) (hi : X.N[i]? = some x) (hx : Loc X.env.scope x) (hf : X.fn x = true ∨ X.env.scope.names.lookup x = some .local) : PG X (.Name x pos) (rdG (gx X) [i] false (gN i)) :=
  (pg_name hN hi hx hf).imp fun v s H Q z => by
    obtain ⟨Z, as, e, h, d, e', h', S, E, r, q, k⟩ := z
    cases q
    exact k as _ H .refl S (E.set r i) ⟨List.length_set, fun j n => List.getElem?_set_ne fun z => n (by rw [z]; simp)⟩
theorem dgs_nil : PGs X [] (rdGs (gx X) [] (gAll [])) := pgs_nil.imp fun v s H Q z => by
  obtain ⟨Z, as, e, h, ds, e', h', S, E, r, q, k⟩ := z
  cases r with
  | nil =>
    cases q
    exact ⟨rfl, k as s H .refl S E .refl⟩
  | cons _ _ => cases q
theorem dgs_cons {t : Expr} {ts : List Expr} {g : TgF} {gs : List TgF} {w1 w2 : List Nat} (n : notStar t = true) (h1 : PG X t (rdG (gx X) w1 false g)) (h2 : PGs X ts (rdGs (gx X) w2 (gAll gs))) : PGs X (t :: ts) (rdGs (gx X) (w1 ++ w2) (gAll (g :: gs))) :=
  (pgs_cons h1 h2 (by rw [assignEach_of n]; rfl)).imp fun v s H Q z => by
    obtain ⟨Z, as, e, h, ds, e', h', S, E, r, q, k⟩ := z
    cases r with
    | nil => cases q
    | @cons d ds v vs r1 r2 =>
      unfold gAll at q
      cases q1 : g d e h with
      | none => rw [q1] at q; cases q
      | some p =>
        obtain ⟨e1, h1⟩ := p
        rw [q1] at q
        refine ⟨v, vs, rfl, Z, as, e, h, d, e1, h1, S, E, r1, q1, fun as1 s1 H1 x1 S1 E1 b1 => ?_⟩
        exact ⟨Z, as1, e1, h1, ds, e', h', S1, E1, r2.mono S x1, q, fun as2 s2 H2 x2 S2 E2 b2 => k as2 s2 H2 (x1.trans x2) S2 E2 ((b1.sub fun j m => by simp [m]).trans (b2.sub fun j m => by simp [m]))⟩
theorem gAll_len {gs : List TgF} : ∀ {ds : List D} {e e' : Env} {h h' : Hd}, gAll gs ds e h = some (e', h') → ds.length = gs.length := by
  induction gs with
  | nil =>
    intro ds e e' h h' q
    cases ds with
    | nil => rfl
    | cons _ _ => cases q
  | cons g gs ih =>
    intro ds e e' h h' q
    cases ds with
    | nil => cases q
    | cons d ds =>
      unfold gAll at q
      cases q1 : g d e h with
      | none => rw [q1] at q; cases q
      | some p => rw [q1] at q; rw [List.length_cons, List.length_cons, ih q]
theorem dg_tup {ts : List Expr} {gs : List TgF} {ws : List Nat} {wk : Bool} {k : Nat} {pos : Pos} (hc : X.calm = true) (n : ts.all notStar = true) (hl : gs.length = ts.length) (h : PGs X ts (rdGs (gx X) ws (gAll gs))) : PG X (.Tuple ts k pos) (rdG (gx X) ws wk (gT gs)) :=
  ((pg_tup hc h (assignEach_all n).1 (assignEach_all n).2).or (pg_unl hc h (assignEach_all n).1 (assignEach_all n).2)).imp fun v s H Q z => by
    obtain ⟨Z, as, e, h, d, e', h', S, E, r, q, k⟩ := z
    have r' : RepW (gx X) Z as H d v := by
      cases wk with
      | true => exact r
      | false => exact .inl r
    have fin : ∀ (ds : List D) (vs : List V), gAll gs ds e h = some (e', h') → Reps (gx X) Z as H ds vs → vs.length = ts.length ∧ rdGs (gx X) ws (gAll gs) vs s H Q := fun ds vs q rs =>
      ⟨by rw [← rs.length, gAll_len q, hl], Z, as, e, h, ds, e', h', S, E, rs, q, k⟩
    have onL : ∀ ds, asL h d = some ds → Rep (gx X) Z as H d v → gAll gs ds e h = some (e', h') → ∃ a xs, v = .ref a ∧ SqL X.K H a xs ∧ xs.length = ts.length ∧ rdGs (gx X) ws (gAll gs) xs s H Q := fun ds e1 r1 q => by
      obtain ⟨a, vs, rfl, h1, h2⟩ := asL_rep S r1 e1
      obtain ⟨f1, f2⟩ := fin ds vs q h2
      exact ⟨a, vs, rfl, SqL.of h1, f1, f2⟩
    unfold gT at q
    by_cases t : ∃ ds, d = .tup ds
    · obtain ⟨ds, rfl⟩ := t
      dsimp only at q
      refine .inl ?_
      rcases r' with r' | ⟨ds', a, vs, ed, ev, h1, h2⟩
      · cases r' with
        | tup e1 q1 =>
          obtain ⟨f1, f2⟩ := fin ds _ q q1
          exact ⟨_, _, rfl, e1.sq, f1, f2⟩
      · cases ed
        subst ev
        obtain ⟨f1, f2⟩ := fin ds vs q h2
        exact ⟨a, vs, rfl, h1, f1, f2⟩
    · have q' : (match asL h d with | some ds => gAll gs ds e h | none => none) = some (e', h') := by
        cases d <;> first | exact q | exact absurd ⟨_, rfl⟩ t
      cases e1 : asL h d with
      | none => rw [e1] at q'; cases q'
      | some ds =>
        rw [e1] at q'
        rcases r' with r' | ⟨ds', _, _, ed, _⟩
        · exact .inr (onL ds e1 r' q')
        · exact absurd ⟨_, ed⟩ t
end
/-! ### stores into own objects -/
section
variable {G : Gx} {Z : Addr → Prop} {as : List Addr} {h : Hd} {H : Hp}
theorem Ext.put {a : Addr} {u : HO} (m : a ∈ as) (n : H a ≠ none) : Ext as H as (upd H a u) :=
  ⟨⟨[], by simp⟩, fun b o e nb => by
    rw [upd_ne fun z => nb (by rw [z]; exact m)]
    exact e, fun _ m => .inl m, fun b e => by
    by_cases q : b = a
    · subst q
      rw [upd_same]
      simp
    · rw [upd_ne q]
      exact e⟩
theorem Sim.some_at (S : Sim G Z as h H) {a : Addr} (m : a ∈ as) : H a ≠ none := by
  obtain ⟨u, e, _⟩ := S.kind m
  rw [e]
  simp
theorem Sim.put (S : Sim G Z as h H) {n : Nat} {a : Addr} {u : HO} {o : Ob} (e : as[n]? = some a) (r : RepO G Z as (upd H a u) o a) : Sim G Z as (h.set n o) (upd H a u) := by
  have m := List.mem_of_getElem? e
  have x : Ext as H as (upd H a u) := .put m (S.some_at m)
  refine ⟨by rw [List.length_set]; exact S.len, S.nd, fun k o' b e1 e2 => ?_, fun b z => x.keep b (S.zs b z)⟩
  by_cases hk : k = n
  · subst hk
    have hb : b = a := by
      rw [e] at e2
      exact (Option.some.inj e2).symm
    subst hb
    have hl : k < h.length := by
      rw [← S.len]
      exact (List.getElem?_eq_some_iff.mp e).1
    rw [List.getElem?_set_self hl] at e1
    cases e1
    exact r
  · rw [List.getElem?_set_ne (Ne.symm hk)] at e1
    have hb : b ≠ a := fun z => by
      subst z
      obtain ⟨l1, g1⟩ := List.getElem?_eq_some_iff.mp e
      obtain ⟨l2, g2⟩ := List.getElem?_eq_some_iff.mp e2
      exact hk ((List.getElem_inj S.nd).mp (g2.trans g1.symm))
    have ek : ∀ w, H b = some w → upd H a u b = some w := fun w q => by rw [upd_ne hb]; exact q
    cases S.ob k o' b e1 e2 with
    | lst e q => exact .lst (ek _ e) (q.mono S x)
    | dct e q => exact .dct (ek _ e) (q.mono S x)
    | ins e q => exact .ins (ek _ e) (q.mono S x)
theorem Sim.putL (S : Sim G Z as h H) {n : Nat} {a : Addr} {ds : List D} {vs : List V} (e : as[n]? = some a) (r : Reps G Z as H ds vs) : Ext as H as (upd H a (.lst vs)) ∧ Sim G Z as (h.set n (.lst ds)) (upd H a (.lst vs)) := by
  have m := List.mem_of_getElem? e
  have x : Ext as H as (upd H a (.lst vs)) := .put m (S.some_at m)
  exact ⟨x, S.put e (.lst upd_same (r.mono S x))⟩
theorem Sim.putD (S : Sim G Z as h H) {n : Nat} {a : Addr} {ds : List (Key × D)} {vs : List (Key × V)} (e : as[n]? = some a) (r : RepK G Z as H ds vs) : Ext as H as (upd H a (.dK vs)) ∧ Sim G Z as (h.set n (.dct ds)) (upd H a (.dK vs)) := by
  have m := List.mem_of_getElem? e
  have x : Ext as H as (upd H a (.dK vs)) := .put m (S.some_at m)
  exact ⟨x, S.put e (.dct upd_same (r.mono S x))⟩
theorem Sim.putI (S : Sim G Z as h H) {n : Nat} {a dx : Addr} {c : String} {ds : Fs} {vs : List (Str × V)} (e : as[n]? = some a) (r : RepF G Z as H ds vs) : Ext as H as (upd H a (.ins (adr G.K c) dx vs)) ∧ Sim G Z as (h.set n (.ins c ds)) (upd H a (.ins (adr G.K c) dx vs)) := by
  have m := List.mem_of_getElem? e
  have x : Ext as H as (upd H a (.ins (adr G.K c) dx vs)) := .put m (S.some_at m)
  exact ⟨x, S.put e (.ins upd_same (r.mono S x))⟩
end
def putD (kvs : List (Key × D)) (k : Key) (d : D) : List (Key × D) :=
  if (kvs.any fun kv => decide (kv.1 = k)) = true then kvs.map (fun kv => if kv.1 = k then (kv.1, d) else kv) else kvs ++ [(k, d)]
theorem RepK.any {G : Gx} {Z : Addr → Prop} {as : List Addr} {H : Hp} {k : Key} : ∀ {ds : List (Key × D)} {vs : List (Key × V)}, RepK G Z as H ds vs → (ds.any fun kv => decide (kv.1 = k)) = (vs.any fun kv => decide (kv.1 = k))
  | _, _, .nil => rfl
  | _, _, .cons r q => by rw [List.any_cons, List.any_cons, q.any]
theorem RepK.append {G : Gx} {Z : Addr → Prop} {as : List Addr} {H : Hp} : ∀ {d d' : List (Key × D)} {v v' : List (Key × V)}, RepK G Z as H d v → RepK G Z as H d' v' → RepK G Z as H (d ++ d') (v ++ v')
  | _, _, _, _, .nil, q => q
  | _, _, _, _, .cons r p, q => .cons r (p.append q)
theorem RepK.mapP {G : Gx} {Z : Addr → Prop} {as : List Addr} {H : Hp} {k : Key} {d : D} {v : V} (r : Rep G Z as H d v) : ∀ {ds : List (Key × D)} {vs : List (Key × V)}, RepK G Z as H ds vs →
    RepK G Z as H (ds.map fun kv => if kv.1 = k then (kv.1, d) else kv) (vs.map fun kv => if kv.1 = k then (kv.1, v) else kv)
  | _, _, .nil => .nil
  | _, _, @RepK.cons _ _ _ _ j x ds y vs r1 q => by
    rw [List.map_cons, List.map_cons]
    by_cases e : j = k
    · simp only [e, if_true]
      exact .cons r (q.mapP r)
    · simp only [e, if_false]
      exact .cons r1 (q.mapP r)
theorem RepK.put {G : Gx} {Z : Addr → Prop} {as : List Addr} {H : Hp} {k : Key} {d : D} {v : V} {ds : List (Key × D)} {vs : List (Key × V)} (r : Rep G Z as H d v) (q : RepK G Z as H ds vs) : RepK G Z as H (putD ds k d) (putK vs k v) := by
  unfold putD putK
  rw [q.any]
  by_cases c : (vs.any fun kv => decide (kv.1 = k)) = true
  · rw [if_pos c, if_pos c]
    exact q.mapP r
  · rw [if_neg c, if_neg c]
    exact q.append (.cons r .nil)
theorem RepK.length {G : Gx} {Z : Addr → Prop} {as : List Addr} {H : Hp} : ∀ {ds : List (Key × D)} {vs : List (Key × V)}, RepK G Z as H ds vs → ds.length = vs.length
  | _, _, .nil => rfl
  | _, _, .cons _ q => by rw [List.length_cons, List.length_cons, q.length]
/-- o[i] = d -/
def stoD (o i d : D) (h : Hd) : Option Hd := match o with
  | .ref n => (match h[n]? with
    | some (.lst xs) => (match i with
      | .int k => (ixN xs.length k).map fun j => h.set n (.lst (xs.set j d))
      | _ => none)
    | some (.dct kvs) => (match keyOf i with
      | some k => if kvs.length < sizeLine then some (h.set n (.dct (putD kvs k d))) else none
      | none => none)
    | _ => none)
  | _ => none
def rSto (G : Gx) : TSet := fun o i v H Q => ∃ (Z : Addr → Prop) (as : List Addr) (h h' : Hd) (od idd d : D), Sim G Z as h H ∧ Rep G Z as H od o ∧ Rep G Z as H idd i ∧ Rep G Z as H d v ∧ stoD od idd d h = some h' ∧
  ∀ (H' : Hp), Ext as H as H' → Sim G Z as h' H' → Q H'
section
variable {X : Cx} {W : WX}
theorem sto_ok (hu : X.A.units + 64 < cLine) : PSet X (rSto (gx X)) := by
  intro pins s st H o i v ov iv u Q I ro ri rv z
  obtain ⟨Z, as, h, h', od, idd, d, S, r1, r2, r3, e, k⟩ := z
  unfold stoD at e
  cases r1 with
  | @ref a n ea =>
    dsimp only at e
    cases q : h[n]? with
    | none => rw [q] at e; cases e
    | some ob =>
      rw [q] at e
      cases ob with
      | ins _ _ => cases e
      | lst xs =>
        dsimp only at e
        cases S.ob n _ a q ea with
        | @lst _ vs _ e1 q1 =>
          cases r2 with
          | int kk =>
            dsimp only at e
            cases q2 : ixN xs.length kk with
            | none => rw [q2] at e; cases e
            | some j =>
              rw [q2] at e
              cases e
              obtain ⟨x, S'⟩ := S.putL ea (q1.set r3 j)
              exact set_list pins s st H _ _ v ov iv u Q I ro ri rv ⟨a, vs, kk, j, rfl, rfl, e1, by rw [← q1.length]; exact q2, k _ x S'⟩
          | _ => cases e
      | dct kvs =>
        dsimp only at e
        cases S.ob n _ a q ea with
        | @dct _ vs _ e1 q1 =>
          cases q2 : keyOf idd with
          | none => rw [q2] at e; cases e
          | some kk =>
            rw [q2] at e
            dsimp only at e
            by_cases hl : kvs.length < sizeLine
            · rw [if_pos hl] at e
              cases e
              have ei := keyOf_rep r2 q2
              subst ei
              obtain ⟨x, S'⟩ := S.putD ea (q1.put (k := kk) r3)
              exact set_dict (by omega) pins s st H _ _ v ov iv u Q I ro ri rv ⟨a, _, rfl, DPut.k e1 (by rw [← q1.length]; exact hl), k _ x S'⟩
            · rw [if_neg hl] at e
              cases e
  | _ => cases e
def gI (fo fi : SE) : TgF := fun d e h => match fo e h with
  | .ok o h1 => (match fi e h1 with
    | .ok i h2 => (stoD o i d h2).map fun h3 => (e, h3)
    | _ => none)
  | _ => none
def noSlc : Expr → Bool
  | .Slice _ _ none _ => false
  | _ => true
theorem dg_sub {o i : Expr} {fo fi : SE} {pos : Pos} (hu : X.A.units + 64 < cLine) (n : noSlc i = true) (ho : PE X o (rd (gx X) W fo)) (hi : PE X i (rd (gx X) W fi)) : PG X (.Subscript o i pos) (rdG (gx X) [] false (gI fo fi)) :=
  (pg_sub ho hi (sto_ok hu) (by intro v; cases i <;> first | rfl | (rename_i s _; cases s <;> first | rfl | cases n))).imp fun v s H Q z => by
    obtain ⟨Z, as, e, h, d, e', h', S, E, r, q, k⟩ := z
    unfold gI at q
    refine ⟨Z, as, e, h, S, E, ?_⟩
    cases q1 : fo e h with
    | fail => rw [q1] at q; cases q
    | ex _ _ _ => rw [q1] at q; cases q
    | ok od h1 =>
      rw [q1] at q
      dsimp only at q
      intro as1 ov H1 x1 S1 r1
      refine ⟨Z, as1, e, h1, S1, E.mono S x1, ?_⟩
      cases q2 : fi e h1 with
      | fail => rw [q2] at q; cases q
      | ex _ _ _ => rw [q2] at q; cases q
      | ok idd h2 =>
        rw [q2] at q
        dsimp only at q
        intro as2 iv H2 x2 S2 r2
        cases q3 : stoD od idd d h2 with
        | none => rw [q3] at q; cases q
        | some h3 =>
          rw [q3] at q
          cases q
          exact ⟨Z, as2, h2, _, od, idd, d, S2, r1.mono S1 x2, r2, (r.mono S x1).mono S1 x2, q3, fun H3 x3 S3 => k as2 s H3 ((x1.trans x2).trans x3) S3 (((E.mono S x1).mono S1 x2).mono S2 x3) .refl⟩
/-! ### assignments -/
def sAsg (g : TgF) (f : SE) : SS := fun e => sE (f e) e fun d h => match g d e h with
  | some (e', h') => .ok (.nx e') h'
  | none => .fail
theorem ds_asg {tg a : Expr} {g : TgF} {f : SE} {ws : List Nat} {pos : Pos} (hs : swapsWithSole [tg] a pos.line X.env = pure false) (hw : swappedStores [tg] a X.env = pure none) (h1 : notStar tg = true)
    (ha : PE X a (rd (gx X) W f)) (hg : PG X tg (rdG (gx X) ws false g)) : PS X (.Assign [tg] a pos) (rdS (gx X) W (sAsg g f)) :=
  (ps_asg ha hg hs hw (by rw [assignEach_of h1]; rfl)).imp fun D s H z => by
    obtain ⟨Z, as, e, h, S, E, P⟩ := z
    refine ⟨Z, as, e, h, S, E, ?_⟩
    rw [post_px]
    refine (PostS.bind (R := Rep (gx X) Z) P S E).imp fun v H1 z => ?_
    obtain ⟨as1, d, h1, _, x1, S1, r1, P1⟩ := z
    cases q : g d e h1 with
    | none => simp only [q] at P1; exact P1.elim
    | some p =>
      obtain ⟨e', h'⟩ := p
      simp only [q] at P1
      exact ⟨Z, as1, e, h1, d, e', h', S1, E.mono S x1, r1, q, fun as2 s2 H2 x2 S2 E2 _ => P1 as2 s2 H2 x2 S2 E2⟩
def sPar (i j : Nat) (f : SA) : SS := fun e => sE (f e) e fun ds h => match ds with
  | [a, b] => .ok (.nx ((e.set i (some a)).set j (some b))) h
  | _ => .fail
theorem ds_par {i j : Nat} {x y : Str} {a b : Expr} {f : SA} {px py pt : Pos} {kt k2 : Nat} {pt2 pos : Pos} (hc : X.calm = true) (hN : X.N.Nodup) (hi : X.N[i]? = some x) (hj : X.N[j]? = some y) (hij : i ≠ j)
    (hx : X.env.scope.names.lookup x = some .local) (hy : X.env.scope.names.lookup y = some .local) (hw : swappedStores [.Tuple [.Name x px, .Name y py] kt pt] (.Tuple [a, b] k2 pt2) X.env = pure (some [x, y]))
    (ha : PA X [a, b] (rdA (gx X) W f)) : PS X (.Assign [.Tuple [.Name x px, .Name y py] kt pt] (.Tuple [a, b] k2 pt2) pos) (rdS (gx X) W (sPar i j f)) :=
  (ps_par hc hN hi hj hij hx hy ha hw rfl).imp fun D s H z => by
    obtain ⟨Z, as, e, h, S, E, P⟩ := z
    refine ⟨Z, as, e, h, S, E, (PostS.bind (R := Reps (gx X) Z) P S E).imp fun v H1 z => ?_⟩
    obtain ⟨as1, d, h1, _, x1, S1, r1, P1⟩ := z
    cases r1 with
    | nil => exact P1.elim
    | cons r1 q1 =>
      cases q1 with
      | nil => exact P1.elim
      | cons r2 q2 =>
        cases q2 with
        | nil => exact ⟨_, _, rfl, P1 as1 _ H1 .refl S1 (((E.mono S x1).set r1 i).set r2 j)⟩
        | cons _ _ => exact P1.elim
def sPar3 (i j l : Nat) (f : SA) : SS := fun e => sE (f e) e fun ds h => match ds with
  | [a, b, c] => .ok (.nx (((e.set i (some a)).set j (some b)).set l (some c))) h
  | _ => .fail
theorem ds_par3 {i j l : Nat} {x y z : Str} {a b c : Expr} {f : SA} {px py pz pt : Pos} {kt k2 : Nat} {pt2 pos : Pos} (hc : X.calm = true) (hN : X.N.Nodup) (hi : X.N[i]? = some x) (hj : X.N[j]? = some y) (hl : X.N[l]? = some z) (hij : i ≠ j) (hil : i ≠ l) (hjl : j ≠ l)
    (hx : X.env.scope.names.lookup x = some .local) (hy : X.env.scope.names.lookup y = some .local) (hz : X.env.scope.names.lookup z = some .local)
    (hw : swappedStores [.Tuple [.Name x px, .Name y py, .Name z pz] kt pt] (.Tuple [a, b, c] k2 pt2) X.env = pure (some [x, y, z]))
    (ha : PA X [a, b, c] (rdA (gx X) W f)) : PS X (.Assign [.Tuple [.Name x px, .Name y py, .Name z pz] kt pt] (.Tuple [a, b, c] k2 pt2) pos) (rdS (gx X) W (sPar3 i j l f)) :=
  (ps_par3 hc hN hi hj hl hij hil hjl hx hy hz ha hw rfl).imp fun D s H z => by
    obtain ⟨Z, as, e, h, S, E, P⟩ := z
    refine ⟨Z, as, e, h, S, E, (PostS.bind (R := Reps (gx X) Z) P S E).imp fun v H1 z => ?_⟩
    obtain ⟨as1, d, h1, _, x1, S1, r1, P1⟩ := z
    cases r1 with
    | nil => exact P1.elim
    | cons r1 q1 =>
      cases q1 with
      | nil => exact P1.elim
      | cons r2 q2 =>
        cases q2 with
        | nil => exact P1.elim
        | cons r3 q3 =>
          cases q3 with
          | nil => exact ⟨_, _, _, rfl, P1 as1 _ H1 .refl S1 ((((E.mono S x1).set r1 i).set r2 j).set r3 l)⟩
          | cons _ _ => exact P1.elim
end
end Dk
end
section
set_option Elab.async false
set_option linter.all false
set_option maxRecDepth 100000
set_option maxHeartbeats 4000000
/-! DkK: what loops walk; for. -/
noncomputable section S_DkK
namespace Dk
open PySem PySem.Spec PyProof.Rows L2
open Classical
/-- the items; the own objects that have to stand as they are; whether pairs come that nobody may keep -/
structure ItV where
  items : List D
  src : List (Nat × Ob)
  wk : Bool
def srcOk (src : List (Nat × Ob)) (h : Hd) : Prop := ∀ p ∈ src, h[p.1]? = some p.2
theorem srcOk_nil (h : Hd) : srcOk [] h := fun _ m => nomatch m
theorem srcOk_one {n : Nat} {o : Ob} {h : Hd} : srcOk [(n, o)] h ↔ h[n]? = some o := by simp [srcOk]
def ItRel (G : Gx) (Z : Addr → Prop) (as : List Addr) (H : Hp) (iv : ItV) (J : It) : Prop :=
  ∀ (Z' : Addr → Prop) (as' : List Addr) (h' : Hd) (H' : Hp), (∀ a, Z' a → Z a ∨ H a = none) → Ext as H as' H' → Sim G Z' as' h' H' → srcOk iv.src h' → ∀ i,
    (∀ d, iv.items[i]? = some d → J.go i H' ∧ ∀ x H'', J.yld i H' x H'' → Ext as' H' as' H'' ∧ Sim G Z' as' h' H'' ∧ RepB G Z' iv.wk as' H'' d x) ∧ (iv.items.length = i → J.stop i H')
abbrev SI := Env → M ItV
def rdI (G : Gx) (W : WX) (f : SI) : TI := fun s H R => ∃ (Z : Addr → Prop) (as : List Addr) (e : Env) (h : Hd), Sim G Z as h H ∧ SimE G Z as H e s ∧ PX (ItRel G Z) G W Z s as H (f e h) R
theorem _root_.L2.PI.imp {X : Cx} {tg e : Expr} {t t' : TI} (p : PI X tg e t) (q : ∀ s H R, t' s H R → t s H R) : PI X tg e t' :=
  ⟨fun pins s st H R I w => p.run pins s st H R I (q _ _ _ w)⟩
theorem _root_.L2.PI.or {X : Cx} {tg e : Expr} {t t' : TI} (p : PI X tg e t) (p' : PI X tg e t') : PI X tg e (fun s H R => t s H R ∨ t' s H R) :=
  ⟨fun pins s st H R I w => w.elim (p.run pins s st H R I) (p'.run pins s st H R I)⟩
theorem PX.ext {α β : Type} {R : List Addr → Hp → α → β → Prop} {G : Gx} {W : WX} {Z : Addr → Prop} {s : L2.St} {as as1 : List Addr} {H H1 : Hp} {o : Out α} {Q : β → Hp → Prop} (p : PX R G W Z s as H o Q) (x : Ext as H as1 H1) : PX R G W Z s as1 H1 o Q := by
  cases o with
  | fail => exact p
  | ok d h => exact fun as2 v H2 y => p as2 v H2 (x.trans y)
  | ex c fs h => exact fun as2 cv dx H2 y => p as2 cv dx H2 (x.trans y)
/-! ### sources -/
def srcD (h : Hd) : D → List (Nat × Ob)
  | .ref n => match h[n]? with
    | some o => [(n, o)]
    | none => []
  | _ => []
def chars (x : Str) : List D := x.cps.toList.map fun c => .str ⟨#[c]⟩
/-- what iter(d) walks -/
def itD (h : Hd) (d : D) : Option ItV := match asS h d with
  | some xs => some ⟨xs, srcD h d, false⟩
  | none => match d with
    | .str x => some ⟨chars x, [], false⟩
    | .scr ns => some ⟨ns.map D.int, [], false⟩
    | _ => none
def itX (f : SE) : SI := fun e => bd (f e) fun d h => match itD h d with
  | some iv => .ok iv h
  | none => .fail
section
variable {G : Gx} {Z Z' : Addr → Prop} {as as' : List Addr} {h h' : Hd} {H H' : Hp}
/-- a list walked stands on -/
theorem list_at (S : Sim G Z as h H) (kz : ∀ a, Z' a → Z a ∨ H a = none) (x : Ext as H as' H') (S' : Sim G Z' as' h' H') {d : D} {a : Addr} {xs : List D} (r : Rep G Z as H d (.ref a)) (e : asL h d = some xs) (ok : srcOk (srcD h d) h') : ∃ vs, H' a = some (.lst vs) ∧ Reps G Z' as' H' xs vs := by
  cases r with
  | lst e1 n z q =>
    simp [asL] at e
    subst e
    exact ⟨_, x.frame _ _ e1 n, (q.zup kz).mono S x⟩
  | @ref _ n e1 =>
    unfold asL at e
    cases e2 : h[n]? with
    | none => simp [e2] at e
    | some o =>
      simp only [e2] at e
      cases o with
      | lst ys =>
        simp at e
        subst e
        have ok' : h'[n]? = some (.lst ys) := ok (n, .lst ys) (by simp [srcD, e2])
        obtain ⟨t, et⟩ := x.pre
        have ea : as'[n]? = some a := by rw [et, List.getElem?_append_left (List.getElem?_eq_some_iff.mp e1).1]; exact e1
        cases S'.ob n _ a ok' ea with
        | lst e3 q => exact ⟨_, e3, q⟩
      | dct _ => simp at e
      | ins _ _ => simp at e
  | _ => simp [asL] at e
theorem ItRel.list (S : Sim G Z as h H) {d : D} {a : Addr} {xs : List D} (r : Rep G Z as H d (.ref a)) (e : asL h d = some xs) : ItRel G Z as H ⟨xs, srcD h d, false⟩ (Itl G.K a) := by
  intro Z' as' h' H' kz x S' ok i
  obtain ⟨vs, e1, e2⟩ := list_at S kz x S' r e ok
  have q : SqL G.K H' a vs := SqL.of e1
  refine ⟨fun dd hd => ?_, fun hl => ⟨vs, q, by rw [← e2.length]; exact Nat.le_of_eq hl⟩⟩
  obtain ⟨y, hy, ry⟩ := e2.get hd
  refine ⟨⟨vs, y, q, hy⟩, fun v H'' z => ?_⟩
  obtain ⟨rfl, z⟩ := z
  have hv := z vs q
  rw [hy] at hv
  cases hv
  exact ⟨.refl, S', ry⟩
theorem ItRel.tup (S : Sim G Z as h H) {a : Addr} {xs : List D} {vs : List V} (e : TupA G.K H a vs) (r : Reps G Z as H xs vs) : ItRel G Z as H ⟨xs, [], false⟩ (Itt G.K a) := by
  intro Z' as' h' H' kz x S' ok i
  have q : SqT G.K H' a vs := (x.tupA S e).sq
  have e2 := (r.zup kz).mono S x
  refine ⟨fun dd hd => ?_, fun hl => ⟨vs, q, by rw [← e2.length]; exact Nat.le_of_eq hl⟩⟩
  obtain ⟨y, hy, ry⟩ := e2.get hd
  refine ⟨⟨vs, y, q, hy⟩, fun v H'' z => ?_⟩
  obtain ⟨rfl, z⟩ := z
  have hv := z vs q
  rw [hy] at hv
  cases hv
  exact ⟨.refl, S', ry⟩
theorem ItRel.scr (S : Sim G Z as h H) {a : Addr} {ns : List Int} (e : ScrA G.K H a ns) : ItRel G Z as H ⟨ns.map D.int, [], false⟩ (Itl G.K a) := by
  intro Z' as' h' H' kz x S' ok i
  have q : SqL G.K H' a (ns.map V.int) := (x.scrA S e).sq
  have e2 : Reps G Z' as' H' (ns.map D.int) (ns.map V.int) := reps_ints ns
  refine ⟨fun dd hd => ?_, fun hl => ⟨_, q, by rw [← e2.length]; exact Nat.le_of_eq hl⟩⟩
  obtain ⟨y, hy, ry⟩ := e2.get hd
  refine ⟨⟨_, y, q, hy⟩, fun v H'' z => ?_⟩
  obtain ⟨rfl, z⟩ := z
  have hv := z _ q
  rw [hy] at hv
  cases hv
  exact ⟨.refl, S', ry⟩
theorem ItRel.str {x : Str} : ItRel G Z as H ⟨chars x, [], false⟩ (Its x) := by
  intro Z' as' h' H' kz _ S' _ i
  refine ⟨fun dd hd => ?_, fun hl => show x.cps.size ≤ i from Nat.le_of_eq (by simpa [chars] using hl)⟩
  unfold chars at hd
  rw [List.getElem?_map, Option.map_eq_some_iff] at hd
  obtain ⟨c, hc, rfl⟩ := hd
  have hc' : x.cps[i]? = some c := by simpa using hc
  refine ⟨(Array.getElem?_eq_some_iff.mp hc').1, fun v H'' z => ?_⟩
  obtain ⟨rfl, c', h1, rfl⟩ := z
  rw [hc'] at h1
  cases h1
  exact ⟨.refl, S', .str _⟩
/-- lo, lo + 1, .. -/
def rngL (lo : Int) (n : Nat) : List D := (List.range n).map fun (i : Nat) => .int (lo + i)
def rngC (lo c : Int) (n : Nat) : List D := (List.range n).map fun (i : Nat) => .int (lo + (i : Nat) * c)
theorem ItRel.rng {lo : Int} {n : Nat} : ItRel G Z as H ⟨rngL lo n, [], false⟩ (Itr lo n) := by
  intro Z' as' h' H' kz _ S' _ i
  refine ⟨fun dd hd => ?_, fun hl => show n ≤ i from Nat.le_of_eq (by simpa [rngL] using hl)⟩
  unfold rngL at hd
  rw [List.getElem?_map, Option.map_eq_some_iff] at hd
  obtain ⟨c, hc, rfl⟩ := hd
  obtain ⟨hl, rfl⟩ := List.getElem?_eq_some_iff.mp hc
  rw [List.length_range] at hl
  refine ⟨hl, fun v H'' z => ?_⟩
  obtain ⟨rfl, rfl⟩ := z
  refine ⟨.refl, S', ?_⟩
  rw [List.getElem_range]
  exact .int _
theorem ItRel.rngC {lo c : Int} {n : Nat} : ItRel G Z as H ⟨rngC lo c n, [], false⟩ (Itc lo c n) := by
  intro Z' as' h' H' kz _ S' _ i
  refine ⟨fun dd hd => ?_, fun hl => show n ≤ i from Nat.le_of_eq (by simpa [Dk.rngC] using hl)⟩
  unfold Dk.rngC at hd
  rw [List.getElem?_map, Option.map_eq_some_iff] at hd
  obtain ⟨k, hc, rfl⟩ := hd
  obtain ⟨hl, rfl⟩ := List.getElem?_eq_some_iff.mp hc
  rw [List.length_range] at hl
  refine ⟨hl, fun v H'' z => ?_⟩
  obtain ⟨rfl, rfl⟩ := z
  refine ⟨.refl, S', ?_⟩
  rw [List.getElem_range]
  exact .int _
/-- pairs -/
def prs (f : Nat → D → D) : Nat → List D → List D
  | _, [] => []
  | i, x :: xs => f i x :: prs f (i + 1) xs
def enumL (k : Int) (xs : List D) : List D := xs.mapIdx fun i x => .tup [.int (k + i), x]
theorem ItRel.enum (S : Sim G Z as h H) {d : D} {a : Addr} {xs : List D} (r : Rep G Z as H d (.ref a)) (e : asL h d = some xs) : ItRel G Z as H ⟨enumL 0 xs, srcD h d, true⟩ (Ite G.K a) := by
  intro Z' as' h' H' kz x S' ok i
  obtain ⟨vs, e1, e2⟩ := list_at S kz x S' r e ok
  have q : SqL G.K H' a vs := SqL.of e1
  refine ⟨fun dd hd => ?_, fun hl => ⟨vs, q, by rw [← e2.length]; exact Nat.le_of_eq (by simpa [enumL] using hl)⟩⟩
  unfold enumL at hd
  rw [List.getElem?_mapIdx, Option.map_eq_some_iff] at hd
  obtain ⟨d0, hd0, rfl⟩ := hd
  obtain ⟨y, hy, ry⟩ := e2.get hd0
  refine ⟨⟨vs, y, q, hy⟩, fun v H'' z => ?_⟩
  obtain ⟨T, w, rfl, hn, rfl, z⟩ := z
  have hv := z vs q
  rw [hy] at hv
  cases hv
  refine ⟨.new hn, S'.new hn, .inr ⟨_, T, _, rfl, rfl, .inl (.inl upd_same), .cons ?_ (.cons (ry.mono S' (.new hn)) .nil)⟩⟩
  rw [Int.zero_add]
  exact .int _
def zipL (xs ys : List D) : List D := xs.zipWith (fun x y => .tup [x, y]) ys
theorem zipL_get {xs ys : List D} {i : Nat} {d : D} (e : (zipL xs ys)[i]? = some d) : ∃ x y, xs[i]? = some x ∧ ys[i]? = some y ∧ d = .tup [x, y] := by
  unfold zipL at e
  rw [List.getElem?_zipWith] at e
  cases e1 : xs[i]? with
  | none => rw [e1] at e; cases e
  | some x =>
    cases e2 : ys[i]? with
    | none => rw [e1, e2] at e; cases e
    | some y => rw [e1, e2] at e; cases e; exact ⟨x, y, rfl, rfl, rfl⟩
theorem ItRel.zip (S : Sim G Z as h H) {d1 d2 : D} {a b : Addr} {xs ys : List D} (r1 : Rep G Z as H d1 (.ref a)) (r2 : Rep G Z as H d2 (.ref b)) (e1 : asL h d1 = some xs) (e2 : asL h d2 = some ys) : ItRel G Z as H ⟨zipL xs ys, srcD h d1 ++ srcD h d2, true⟩ (Itz G.K a b) := by
  intro Z' as' h' H' kz x S' ok i
  obtain ⟨vs, p1, p2⟩ := list_at S kz x S' r1 e1 fun p m => ok p (List.mem_append_left _ m)
  obtain ⟨ws, q1, q2⟩ := list_at S kz x S' r2 e2 fun p m => ok p (List.mem_append_right _ m)
  have q : SqL G.K H' a vs := SqL.of p1
  have q' : SqL G.K H' b ws := SqL.of q1
  refine ⟨fun dd hd => ?_, fun hl => ⟨vs, ws, q, q', ?_⟩⟩
  · obtain ⟨x0, y0, g1, g2, rfl⟩ := zipL_get hd
    obtain ⟨x1, hx, rx⟩ := p2.get g1
    obtain ⟨y1, hy, ry⟩ := q2.get g2
    refine ⟨⟨vs, ws, x1, y1, q, q', hx, hy⟩, fun v H'' z => ?_⟩
    obtain ⟨T, x2, y2, rfl, hn, rfl, z1, z2⟩ := z
    have hv := z1 vs q
    rw [hx] at hv
    cases hv
    have hv := z2 ws q'
    rw [hy] at hv
    cases hv
    exact ⟨.new hn, S'.new hn, .inr ⟨_, T, _, rfl, rfl, .inl (.inl upd_same), .cons (rx.mono S' (.new hn)) (.cons (ry.mono S' (.new hn)) .nil)⟩⟩
  · rw [← p2.length, ← q2.length]
    have : min xs.length ys.length = i := by simpa [zipL] using hl
    omega
theorem ItRel.zipT (S : Sim G Z as h H) {a b : Addr} {xs ys : List D} {vs ws : List V} (r1 : TupA G.K H a vs) (r2 : TupA G.K H b ws) (e1 : Reps G Z as H xs vs) (e2 : Reps G Z as H ys ws) : ItRel G Z as H ⟨zipL xs ys, [], true⟩ (RZ.ItzT G.K a b) := by
  intro Z' as' h' H' kz x S' ok i
  have q : SqT G.K H' a vs := (x.tupA S r1).sq
  have q' : SqT G.K H' b ws := (x.tupA S r2).sq
  have p2 := (e1.zup kz).mono S x
  have q2 := (e2.zup kz).mono S x
  refine ⟨fun dd hd => ?_, fun hl => ⟨vs, ws, q, q', ?_⟩⟩
  · obtain ⟨x0, y0, g1, g2, rfl⟩ := zipL_get hd
    obtain ⟨x1, hx, rx⟩ := p2.get g1
    obtain ⟨y1, hy, ry⟩ := q2.get g2
    refine ⟨⟨vs, ws, x1, y1, q, q', hx, hy⟩, fun v H'' z => ?_⟩
    obtain ⟨T, x2, y2, rfl, hn, rfl, z1, z2⟩ := z
    have hv := z1 vs q
    rw [hx] at hv
    cases hv
    have hv := z2 ws q'
    rw [hy] at hv
    cases hv
    exact ⟨.new hn, S'.new hn, .inr ⟨_, T, _, rfl, rfl, .inl (.inl upd_same), .cons (rx.mono S' (.new hn)) (.cons (ry.mono S' (.new hn)) .nil)⟩⟩
  · rw [← p2.length, ← q2.length]
    have : min xs.length ys.length = i := by simpa [zipL] using hl
    omega
end
section
variable {X : Cx} {W : WX} {tg : Expr}
theorem di_val {l : Expr} {f : SE} (hl : PE X l (rd (gx X) W f)) : PI X tg l (rdI (gx X) W (itX f)) :=
  ((pi_list hl).or ((pi_tup hl).or (pi_str hl))).imp fun s H R z => by
    obtain ⟨Z, as, e, h, S, E, P⟩ := z
    have P' := PX.bind (R1 := Rep (gx X) Z) P
    cases q : f e h with
    | fail => rw [q] at P'; exact P'.elim
    | ex c fs h1 =>
      rw [q] at P'
      refine .inl ⟨Z, as, e, h, S, E, ?_⟩
      rw [q]
      exact P'
    | ok d h1 =>
      rw [q] at P'
      have key : ∀ as1 v H1, Ext as H as1 H1 → Sim (gx X) Z as1 h1 H1 → Rep (gx X) Z as1 H1 d v → PX (ItRel (gx X) Z) (gx X) W Z s as1 H1 (match itD h1 d with | some iv => .ok iv h1 | none => .fail) R := fun as1 v H1 x1 S1 r1 => by
        have P0 := P
        unfold itX at P0
        rw [bd_eq, q] at P0
        exact PX.ext P0 x1
      by_cases t : ∃ ds, d = .tup ds
      · obtain ⟨ds, rfl⟩ := t
        refine .inr (.inl ⟨Z, as, e, h, S, E, ?_⟩)
        rw [q]
        intro as1 v H1 x1 S1 r1
        have P2 := key as1 v H1 x1 S1 r1
        cases r1 with
        | tup e1 q1 => exact ⟨_, rfl, ⟨_, e1.sq⟩, P2 as1 _ H1 .refl S1 (ItRel.tup S1 e1 q1)⟩
      · by_cases t2 : ∃ ds, d = .str ds
        · obtain ⟨x, rfl⟩ := t2
          refine .inr (.inr ⟨Z, as, e, h, S, E, ?_⟩)
          rw [q]
          intro as1 v H1 x1 S1 r1
          have P2 := key as1 v H1 x1 S1 r1
          cases r1
          exact ⟨x, rfl, P2 as1 _ H1 .refl S1 ItRel.str⟩
        · refine .inl ⟨Z, as, e, h, S, E, ?_⟩
          rw [q]
          intro as1 v H1 x1 S1 r1
          have P2 := key as1 v H1 x1 S1 r1
          have ea : asS h1 d = asL h1 d := by cases d <;> first | rfl | exact absurd ⟨_, rfl⟩ t
          cases q3 : asL h1 d with
          | some xs =>
            obtain ⟨a, vs, rfl, h2, h3⟩ := asL_rep S1 r1 q3
            have e2 : itD h1 d = some ⟨xs, srcD h1 d, false⟩ := by unfold itD; rw [ea, q3]
            rw [e2] at P2
            exact ⟨a, rfl, ⟨vs, SqL.of h2⟩, P2 as1 _ H1 .refl S1 (ItRel.list S1 r1 q3)⟩
          | none =>
            unfold itD at P2
            rw [ea, q3] at P2
            cases r1 with
            | scr e1 => exact ⟨_, rfl, ⟨_, e1.sq⟩, P2 as1 _ H1 .refl S1 (ItRel.scr S1 e1)⟩
            | str x => exact absurd ⟨_, rfl⟩ t2
            | _ => exact P2.elim
end
end Dk
end S_DkK
end
section
set_option Elab.async false
set_option linter.all false
set_option maxRecDepth 100000
set_option maxHeartbeats 4000000
/-! DkL: range, for. -/
noncomputable section S_DkL
namespace Dk
open PySem PySem.Spec PyProof.Rows L2
open Classical
def okW (j : Int) : Prop := -(2 ^ 62) ≤ j ∧ j < 2 ^ 62
def asI : D → Option Int
  | .int i => some i
  | _ => none
theorem asI_some {d : D} {i : Int} (e : asI d = some i) : d = .int i := by
  cases d <;> first | (cases e; rfl) | cases e
def rngD : List D → Option ItV
  | [a] => (match asI a with
    | some j => if okW j then some ⟨rngL 0 j.toNat, [], false⟩ else none
    | none => none)
  | [a, b] => (match asI a, asI b with
    | some i, some j => if okW i ∧ okW j then some ⟨rngL i (j - i).toNat, [], false⟩ else none
    | _, _ => none)
  | [a, b, c] => (match asI a, asI b, asI c with
    | some i, some j, some c => if c = -1 ∧ okW i ∧ okW j then some ⟨rngC i (-1) (i - j).toNat, [], false⟩ else none
    | _, _, _ => none)
  | _ => none
def iA (f : SA) (g : Hd → List D → Option ItV) : SI := fun e => bd (f e) fun ds h => match g h ds with
  | some iv => .ok iv h
  | none => .fail
def rngX (n : Nat) (f : SA) : SI := iA f fun _ ds => if ds.length = n then rngD ds else none
section
variable {X : Cx} {W : WX} {tg : Expr}
theorem iA_post {f : SA} {g : Hd → List D → Option ItV} {Z : Addr → Prop} {s : L2.St} {as : List Addr} {H : Hp} {e : Env} {h : Hd} {R : It → Hp → Prop} (P : PX (ItRel (gx X) Z) (gx X) W Z s as H (iA f g e h) R) :
    PX (Reps (gx X) Z) (gx X) W Z s as H (f e h) fun vs H1 => ∃ as1 ds h1 iv, f e h = .ok ds h1 ∧ Ext as H as1 H1 ∧ Sim (gx X) Z as1 h1 H1 ∧ Reps (gx X) Z as1 H1 ds vs ∧ g h1 ds = some iv ∧ ∀ J, ItRel (gx X) Z as1 H1 iv J → R J H1 := by
  refine (PX.bind (R1 := Reps (gx X) Z) P).imp fun vs H1 z => ?_
  obtain ⟨as1, ds, h1, e1, x1, S1, r1, P1⟩ := z
  cases q : g h1 ds with
  | none => simp only [q] at P1; exact P1.elim
  | some iv =>
    simp only [q] at P1
    exact ⟨as1, ds, h1, iv, e1, x1, S1, r1, q, fun J j => P1 as1 J H1 .refl S1 j⟩
theorem one_of {G : Gx} {Z : Addr → Prop} {as : List Addr} {H : Hp} {ds : List D} {vs : List V} (r : Reps G Z as H ds vs) {d : D} (e : ds = [d]) : ∃ v, vs = [v] ∧ Rep G Z as H d v := by
  subst e
  cases r with
  | cons r1 r2 => cases r2; exact ⟨_, rfl, r1⟩
theorem two_of {G : Gx} {Z : Addr → Prop} {as : List Addr} {H : Hp} {ds : List D} {vs : List V} (r : Reps G Z as H ds vs) {d d' : D} (e : ds = [d, d']) : ∃ v v', vs = [v, v'] ∧ Rep G Z as H d v ∧ Rep G Z as H d' v' := by
  subst e
  cases r with
  | cons r1 r2 =>
    cases r2 with
    | cons r2 r3 => cases r3; exact ⟨_, _, rfl, r1, r2⟩
theorem three_of {G : Gx} {Z : Addr → Prop} {as : List Addr} {H : Hp} {ds : List D} {vs : List V} (r : Reps G Z as H ds vs) {d d' d'' : D} (e : ds = [d, d', d'']) : ∃ v v' v'', vs = [v, v', v''] ∧ Rep G Z as H d v ∧ Rep G Z as H d' v' ∧ Rep G Z as H d'' v'' := by
  subst e
  cases r with
  | cons r1 r2 =>
    cases r2 with
    | cons r2 r3 =>
      cases r3 with
      | cons r3 r4 => cases r4; exact ⟨_, _, _, rfl, r1, r2, r3⟩
theorem starEach_all : ∀ {es : List Expr} {env : PySem.Env}, es.all notStar = true → starEach es env = es.map fun e => (false, eval e env)
  | [], _, _ => rfl
  | e :: es, env, n => by
    have n1 : notStar e = true ∧ es.all notStar = true := by simpa using n
    rw [starEach_of n1.1, starEach_all n1.2]
    rfl
theorem back_all {es : List Expr} {env : PySem.Env} {pos : Pos} (n : es.all notStar = true) : (backTo pos (starEach es env)).any (·.1) = false := by
  rw [starEach_all n]
  cases es with
  | nil => rfl
  | cons e es =>
    simp [backTo, List.any_eq_false]
theorem rng_cases {ds : List D} {n : Nat} {iv : ItV} (e : (if ds.length = n then rngD ds else none) = some iv) : ds.length = n ∧ rngD ds = some iv := by
  by_cases c : ds.length = n
  · rw [if_pos c] at e; exact ⟨c, e⟩
  · rw [if_neg c] at e; cases e
theorem some_ite {α : Type} {c : Prop} [Decidable c] {a b : α} (e : (if c then some a else none) = some b) : c ∧ a = b := by
  by_cases h : c
  · rw [if_pos h] at e; exact ⟨h, Option.some.inj e⟩
  · rw [if_neg h] at e; cases e
theorem rngD1 {d : D} {iv : ItV} (e : rngD [d] = some iv) : ∃ j, d = .int j ∧ okW j ∧ iv = ⟨rngL 0 j.toNat, [], false⟩ := by
  unfold rngD at e
  cases q : asI d with
  | none => simp only [q] at e; cases e
  | some i =>
    simp only [q] at e
    obtain ⟨h1, h2⟩ := some_ite e
    exact ⟨i, asI_some q, h1, h2.symm⟩
theorem rngD2 {d d' : D} {iv : ItV} (e : rngD [d, d'] = some iv) : ∃ i j, d = .int i ∧ d' = .int j ∧ okW i ∧ okW j ∧ iv = ⟨rngL i (j - i).toNat, [], false⟩ := by
  unfold rngD at e
  cases q : asI d with
  | none => simp only [q] at e; cases e
  | some i =>
    cases q2 : asI d' with
    | none => simp only [q, q2] at e; cases e
    | some j =>
      simp only [q, q2] at e
      obtain ⟨h1, h2⟩ := some_ite e
      exact ⟨i, j, asI_some q, asI_some q2, h1.1, h1.2, h2.symm⟩
theorem rngD3 {d d' d'' : D} {iv : ItV} (e : rngD [d, d', d''] = some iv) : ∃ i j, d = .int i ∧ d' = .int j ∧ d'' = .int (-1) ∧ okW i ∧ okW j ∧ iv = ⟨rngC i (-1) (i - j).toNat, [], false⟩ := by
  unfold rngD at e
  cases q : asI d with
  | none => simp only [q] at e; cases e
  | some i =>
    cases q2 : asI d' with
    | none => simp only [q, q2] at e; cases e
    | some j =>
      cases q3 : asI d'' with
      | none => simp only [q, q2, q3] at e; cases e
      | some c =>
        simp only [q, q2, q3] at e
        obtain ⟨h1, h2⟩ := some_ite e
        exact ⟨i, j, asI_some q, asI_some q2, by rw [asI_some q3, h1.1], h1.2.1, h1.2.2, h2.symm⟩
theorem di_rng1 {a : Expr} {f : SA} {p pos : Pos} (n : notStar a = true) (hg : Gl X "range") (hm : X.mg "range" = none) (ha : PA X [a] (rdA (gx X) W f)) : PI X tg (.Call (.Name "range" p) [a] [] pos) (rdI (gx X) W (rngX 1 f)) :=
  (pi_range1 hg hm ha (starEach_of n)).imp fun s H R z => by
    obtain ⟨Z, as, e, h, S, E, P⟩ := z
    refine ⟨Z, as, e, h, S, E, (iA_post P).imp fun vs H1 z => ?_⟩
    obtain ⟨as1, ds, h1, iv, e1, x1, S1, r1, q, k⟩ := z
    obtain ⟨hl, q⟩ := rng_cases q
    match ds, hl with
    | [d], _ =>
      obtain ⟨j, rfl, hj, rfl⟩ := rngD1 q
      obtain ⟨v, rfl, rv⟩ := one_of r1 rfl
      cases rv
      exact ⟨j, rfl, hj.1, hj.2, k _ ItRel.rng⟩
theorem di_rng2 {a b : Expr} {f : SA} {p pos : Pos} (n : notStar a = true) (n' : notStar b = true) (hg : Gl X "range") (hm : X.mg "range" = none) (ha : PA X [a, b] (rdA (gx X) W f)) : PI X tg (.Call (.Name "range" p) [a, b] [] pos) (rdI (gx X) W (rngX 2 f)) :=
  (pi_range2 hg hm ha (by rw [starEach_of n, starEach_of n']; rfl) (starEach_of n')).imp fun s H R z => by
    obtain ⟨Z, as, e, h, S, E, P⟩ := z
    refine ⟨Z, as, e, h, S, E, (iA_post P).imp fun vs H1 z => ?_⟩
    obtain ⟨as1, ds, h1, iv, e1, x1, S1, r1, q, k⟩ := z
    obtain ⟨hl, q⟩ := rng_cases q
    match ds, hl with
    | [d, d'], _ =>
      obtain ⟨i, j, rfl, rfl, hi, hj, rfl⟩ := rngD2 q
      obtain ⟨v, v', rfl, rv, rv'⟩ := two_of r1 rfl
      cases rv
      cases rv'
      exact ⟨i, j, rfl, ⟨hi.1, hi.2, hj.1, hj.2⟩, k _ ItRel.rng⟩
theorem di_rng3 {a b c : Expr} {f : SA} {p pos : Pos} (n : notStar a = true) (n' : [b, c].all notStar = true) (hg : Gl X "range") (hm : X.mg "range" = none) (ha : PA X [a, b, c] (rdA (gx X) W f)) : PI X tg (.Call (.Name "range" p) [a, b, c] [] pos) (rdI (gx X) W (rngX 3 f)) :=
  (pi_range3 hg hm ha (starEach_of n) (back_all n')).imp fun s H R z => by
    obtain ⟨Z, as, e, h, S, E, P⟩ := z
    refine ⟨Z, as, e, h, S, E, (iA_post P).imp fun vs H1 z => ?_⟩
    obtain ⟨as1, ds, h1, iv, e1, x1, S1, r1, q, k⟩ := z
    obtain ⟨hl, q⟩ := rng_cases q
    match ds, hl with
    | [d, d', d''], _ =>
      obtain ⟨i, j, rfl, rfl, rfl, hi, hj, rfl⟩ := rngD3 q
      obtain ⟨v, v', v'', rfl, rv, rv', rv''⟩ := three_of r1 rfl
      cases rv
      cases rv'
      cases rv''
      exact ⟨i, j, -1, _, rfl, RgC.neg hi.1 hi.2 hj.1 hj.2, k _ ItRel.rngC⟩
/-! zip of two lists, of two tuples -/
def zipD (h : Hd) : List D → Option ItV
  | [.tup xs, .tup ys] => some ⟨zipL xs ys, [], true⟩
  | [a, b] => match asL h a, asL h b with
    | some xs, some ys => some ⟨zipL xs ys, srcD h a ++ srcD h b, true⟩
    | _, _ => none
  | _ => none
def zipX (f : SA) : SI := iA f zipD
theorem zipD_len {h : Hd} {ds : List D} {iv : ItV} (e : zipD h ds = some iv) : ∃ a b, ds = [a, b] := by
  match ds with
  | [] => simp [zipD] at e
  | [_] => simp [zipD] at e
  | [a, b] => exact ⟨a, b, rfl⟩
  | _ :: _ :: _ :: _ => simp [zipD] at e
theorem di_zip {a b : Expr} {f : SA} {p pos tpos : Pos} {elts : List Expr} {kk : Nat} (n : notStar a = true) (n' : [b].all notStar = true) (hg : Gl X "zip") (hm : X.mg "zip" = none) (ha : PA X [a, b] (rdA (gx X) W f)) :
    PI X (.Tuple elts kk tpos) (.Call (.Name "zip" p) [a, b] [] pos) (rdI (gx X) W (zipX f)) :=
  (RZ.pi_zipA hg hm ha (starEach_of n) (back_all n')).imp fun s H R z => by
    obtain ⟨Z, as, e, h, S, E, P⟩ := z
    refine ⟨Z, as, e, h, S, E, (iA_post P).imp fun vs H1 z => ?_⟩
    obtain ⟨as1, ds, h1, iv, e1, x1, S1, r1, q, k⟩ := z
    obtain ⟨d, d', rfl⟩ := zipD_len q
    obtain ⟨v, v', rfl, rv, rv'⟩ := two_of r1 rfl
    by_cases t : ∃ xs ys, d = .tup xs ∧ d' = .tup ys
    · obtain ⟨xs, ys, rfl, rfl⟩ := t
      cases q
      cases rv with
      | tup t1 q1 =>
        cases rv' with
        | tup t2 q2 => exact ⟨_, _, _, _, rfl, .inr ⟨t1.sq, t2.sq, k _ (ItRel.zipT S1 t1 t2 q1 q2)⟩⟩
    · have q' : (match asL h1 d, asL h1 d' with | some xs, some ys => some (⟨zipL xs ys, srcD h1 d ++ srcD h1 d', true⟩ : ItV) | _, _ => none) = some iv := by
        unfold zipD at q
        split at q
        · next xs ys eq => cases eq; exact absurd ⟨_, _, rfl, rfl⟩ t
        · next eq => cases eq; exact q
        · cases q
      cases e2 : asL h1 d with
      | none => rw [e2] at q'; cases q'
      | some xs =>
        cases e3 : asL h1 d' with
        | none => rw [e2, e3] at q'; cases q'
        | some ys =>
          rw [e2, e3] at q'
          cases q'
          obtain ⟨a1, vs, rfl, f1, f2⟩ := asL_rep S1 rv e2
          obtain ⟨a2, ws, rfl, g1, g2⟩ := asL_rep S1 rv' e3
          exact ⟨a1, a2, vs, ws, rfl, .inl ⟨SqL.of f1, SqL.of g1, k _ (ItRel.zip S1 rv rv' e2 e3)⟩⟩
end
/-! ### for -/
def forL (src : List (Nat × Ob)) (g : TgF) (f : SS) : List D → Env → Hd → OS
  | [], e, h => if srcOk src h then .ok (.nx e) h else .fail
  | d :: ds, e, h => if srcOk src h then (match g d e h with
    | some (e1, h1) => (match f e1 h1 with
      | .ok (.nx e2) h2 => forL src g f ds e2 h2
      | .ok (.ct e2) h2 => forL src g f ds e2 h2
      | .ok (.bk e2) h2 => .ok (.nx e2) h2
      | o => o)
    | none => .fail) else .fail
def sFor (wk : Bool) (i : SI) (g : TgF) (f : SS) : SS := fun e => sE (i e) e fun iv h => if iv.wk = true ∧ wk = false then .fail else forL iv.src g f iv.items e h
section
variable {X : Cx} {W : WX} {tg : Expr}
theorem RepB.weak {G : Gx} {Z : Addr → Prop} {as : List Addr} {H : Hp} {d : D} {v : V} {w w' : Bool} (r : RepB G Z w as H d v) (n : ¬ (w = true ∧ w' = false)) : RepB G Z w' as H d v := by
  cases w with
  | false =>
    cases w' with
    | false => exact r
    | true => exact .inl r
  | true =>
    cases w' with
    | false => exact absurd ⟨rfl, rfl⟩ n
    | true => exact r
theorem ds_for {iter : Expr} {body : List Stmt} {i : SI} {g : TgF} {f : SS} {ws : List Nat} {wk : Bool} {pos : Pos} (hp : PassesOwn (model X.prog X.w) X.A X.env X.xe) (hc : X.calm = true) (hs : ∀ x, foldedSetIterable iter X.env x = pure x)
    (hi : PI X tg iter (rdI (gx X) W i)) (hg : PG X tg (rdG (gx X) ws wk g)) (hb : PSs X body (rdS (gx X) W f)) : PS X (.For tg iter body [] pos) (rdS (gx X) W (sFor wk i g f)) :=
  (ps_for hp hc hi hg hb hs).imp fun D s H z => by
    obtain ⟨Z, as, e, h, S, E, P⟩ := z
    refine ⟨Z, as, e, h, S, E, (PostS.bind (R := ItRel (gx X) Z) P S E).imp fun J H1 z => ?_⟩
    obtain ⟨as1, iv, h1, _, x1, S1, r1, P1⟩ := z
    by_cases hw : iv.wk = true ∧ wk = false
    · rw [if_pos hw] at P1; exact P1.elim
    rw [if_neg hw] at P1
    refine ⟨fun i m s H => m = iv.items.length - i ∧ i ≤ iv.items.length ∧ ∃ as e h, Ext as1 H1 as H ∧ Sim (gx X) Z as h H ∧ SimE (gx X) Z as H e s ∧ PostS (gx X) W Z as H (forL iv.src g f (iv.items.drop i) e h) D,
      ⟨iv.items.length, by simp, Nat.zero_le _, as1, e, h1, .refl, S1, E.mono S x1, P1⟩, ?_⟩
    rintro i m s H ⟨rfl, hle, as, e, h, x, S, E, P⟩
    by_cases hlt : i < iv.items.length
    · rw [List.drop_eq_getElem_cons hlt] at P
      unfold forL at P
      by_cases ok : srcOk iv.src h
      · rw [if_pos ok] at P
        obtain ⟨go, yl⟩ := (r1 Z as h H (fun a z => .inl z) x S ok i).1 iv.items[i] (List.getElem?_eq_getElem hlt)
        refine .inr ⟨go, fun s' H' => ∃ as' e' h', Ext as1 H1 as' H' ∧ Sim (gx X) Z as' h' H' ∧ SimE (gx X) Z as' H' e' s' ∧ PostS (gx X) W Z as' H' (forL iv.src g f (iv.items.drop (i + 1)) e' h') D,
          fun s' H' z => ⟨iv.items.length - (i + 1), by omega, rfl, hlt, z⟩, fun v H' y => ?_⟩
        obtain ⟨x2, S2, r2⟩ := yl v H' y
        cases q : g iv.items[i] e h with
        | none => rw [q] at P; exact P.elim
        | some p =>
          obtain ⟨e1, h1'⟩ := p
          rw [q] at P
          refine ⟨Z, as, e, h, iv.items[i], e1, h1', S2, E.mono S x2, r2.weak hw, q, fun as3 s3 H3 x3 S3 E3 _ => ⟨Z, as3, e1, h1', S3, E3, ?_⟩⟩
          dsimp only at P
          cases q2 : f e1 h1' with
          | fail => rw [q2] at P; exact P
          | ok fl h2 =>
            rw [q2] at P
            have P' := PostS.ext P (x2.trans x3)
            cases fl with
            | nx e2 => exact fun as4 s4 H4 x4 S4 E4 => ⟨as4, e2, h2, ((x.trans x2).trans x3).trans x4, S4, E4, PostS.ext P' x4⟩
            | ct e2 => exact fun as4 s4 H4 x4 S4 E4 => ⟨as4, e2, h2, ((x.trans x2).trans x3).trans x4, S4, E4, PostS.ext P' x4⟩
            | bk e2 => exact P'
            | rt d => exact P'
            | ex c fs e2 => exact P'
      · rw [if_neg ok] at P; exact P.elim
    · have ei : i = iv.items.length := by omega
      subst ei
      rw [List.drop_length] at P
      unfold forL at P
      by_cases ok : srcOk iv.src h
      · rw [if_pos ok] at P
        exact .inl ⟨(r1 Z as h H (fun a z => .inl z) x S ok _).2 rfl, P as s H .refl S E⟩
      · rw [if_neg ok] at P; exact P.elim
end
end Dk
end S_DkL
end
section
set_option Elab.async false
set_option linter.all false
set_option maxRecDepth 100000
set_option maxHeartbeats 4000000
/-! DkM: comprehensions. -/
noncomputable section S_DkM
namespace Dk
open PySem PySem.Spec PyProof.Rows L2
open Classical
def wipeE (e : Env) : List Nat → Env
  | [] => e
  | v :: vs => (wipeE e vs).set v none
theorem wipeE_length (e : Env) : ∀ vs : List Nat, (wipeE e vs).length = e.length
  | [] => rfl
  | v :: vs => by unfold wipeE; rw [List.length_set, wipeE_length e vs]
theorem wipeE_some {e : Env} {i : Nat} {x : D} : ∀ {vs : List Nat}, (wipeE e vs)[i]? = some (some x) → e[i]? = some (some x) ∧ i ∉ vs
  | [], h => ⟨h, by simp⟩
  | v :: vs, h => by
    unfold wipeE at h
    by_cases hi : v = i
    · subst hi
      by_cases hv : v < (wipeE e vs).length
      · rw [List.getElem?_set_self hv] at h; cases h
      · rw [List.getElem?_eq_none (by simpa using hv)] at h; cases h
    · rw [List.getElem?_set_ne hi] at h
      obtain ⟨h1, h2⟩ := wipeE_some h
      exact ⟨h1, by simp only [List.mem_cons, not_or]; exact ⟨fun e => hi e.symm, h2⟩⟩
theorem wipe_not {s : L2.St} {i : Nat} : ∀ {vs : List Nat}, i ∉ vs → (wipe s vs)[i]? = s[i]?
  | [], _ => rfl
  | v :: vs, h => by
    simp only [List.mem_cons, not_or] at h
    unfold wipe
    rw [List.getElem?_set_ne (fun z => h.1 z.symm)]
    exact wipe_not h.2
theorem wipe_in {s : L2.St} {i : Nat} : ∀ {vs : List Nat}, i ∈ vs → (wipe s vs)[i]? = if i < s.length then some none else none
  | v :: vs, h => by
    unfold wipe
    by_cases hi : v = i
    · subst hi
      by_cases hv : v < s.length
      · rw [if_pos hv, List.getElem?_set_self (by rw [wipe_length]; exact hv)]
      · rw [if_neg hv, List.getElem?_eq_none (by rw [List.length_set, wipe_length]; omega)]
    · rw [List.getElem?_set_ne hi]
      exact wipe_in ((List.mem_cons.mp h).resolve_left fun z => hi z.symm)
theorem wipe_sb {ws vs : List Nat} {s s' : L2.St} (b : Sb ws (wipe s vs) s') (k : ∀ j ∈ ws, j ∈ vs) : wipe s' vs = wipe s vs := by
  refine List.ext_getElem? fun i => ?_
  have hl : s'.length = s.length := by rw [b.1, wipe_length]
  by_cases hi : i ∈ vs
  · rw [wipe_in hi, wipe_in hi, hl]
  · rw [wipe_not hi, b.2 i fun m => hi (k i m)]
section
variable {G : Gx} {Z Z' : Addr → Prop} {as as' : List Addr} {h h' : Hd} {H H' : Hp} {e : Env} {s : L2.St}
theorem SimE.wipe (E : SimE G Z as H e s) (vs : List Nat) : SimE G Z as H (wipeE e vs) (L2.wipe s vs) := by
  refine ⟨by rw [wipeE_length, wipe_length]; exact E.len, fun i d q => ?_⟩
  obtain ⟨q1, q2⟩ := wipeE_some q
  obtain ⟨v, h1, h2⟩ := E.at_ i d q1
  exact ⟨v, by rw [wipe_not q2]; exact h1, h2⟩
theorem SimE.zup (E : SimE G Z as H e s) (k : ∀ a, Z' a → Z a ∨ H a = none) : SimE G Z' as H e s :=
  ⟨E.len, fun i d q => by
    obtain ⟨v, h1, h2⟩ := E.at_ i d q
    exact ⟨v, h1, h2.zup k⟩⟩
theorem SimE.poke {D : Addr} {o u : HO} (E : SimE G Z as H e s) (q : H D = some o) (m : mutk o) (hz : Z D) : SimE G Z as (upd H D u) e s :=
  ⟨E.len, fun i d p => by
    obtain ⟨v, h1, h2⟩ := E.at_ i d p
    exact ⟨v, h1, h2.poke q m hz⟩⟩
theorem Sim.zup (S : Sim G Z as h H) (k : ∀ a, Z' a → Z a ∨ H a = none) (kz : ∀ a, Z' a → H a ≠ none) : Sim G Z' as h H :=
  ⟨S.len, S.nd, fun n o a e1 e2 => by
    cases S.ob n o a e1 e2 with
    | lst e r => exact .lst e (r.zup k)
    | dct e r => exact .dct e (r.zup k)
    | ins e r => exact .ins e (r.zup k), kz⟩
theorem Sim.poke {D : Addr} {o u : HO} (S : Sim G Z as h H) (q : H D = some o) (m : mutk o) (hz : Z D) (n : D ∉ as) : Sim G Z as h (upd H D u) := by
  refine ⟨S.len, S.nd, fun i ob a e1 e2 => ?_, fun a z => ?_⟩
  · have ne : a ≠ D := fun w => n (by rw [← w]; exact List.mem_of_getElem? e2)
    cases S.ob i ob a e1 e2 with
    | lst e r => exact .lst (by rw [upd_ne ne]; exact e) (r.poke q m hz)
    | dct e r => exact .dct (by rw [upd_ne ne]; exact e) (r.poke q m hz)
    | ins e r => exact .ins (by rw [upd_ne ne]; exact e) (r.poke q m hz)
  · by_cases w : a = D
    · subst w; rw [upd_same]; simp
    · rw [upd_ne w]; exact S.zs a z
/-- from before the new list was made -/
theorem Ext.poke {D : Addr} {u : HO} {as1 : List Addr} {H1 : Hp} (x : Ext as1 H1 as H) (n : H1 D = none) (hd : H D ≠ none) : Ext as1 H1 as (upd H D u) :=
  ⟨x.pre, fun a o e m => by rw [upd_ne (ne_of_none e n)]; exact x.frame a o e m, x.fresh, fun a e => by
    by_cases w : a = D
    · subst w; rw [upd_same]; simp
    · rw [upd_ne w]; exact x.keep a e⟩
theorem RepB.zup {wk : Bool} {d : D} {v : V} (r : RepB G Z wk as H d v) (k : ∀ a, Z' a → Z a ∨ H a = none) : RepB G Z' wk as H d v := by
  cases wk with
  | false => exact Rep.zup k r
  | true =>
    rcases r with r | ⟨ds, a, vs, h1, h2, h3, h4⟩
    · exact .inl (r.zup k)
    · exact .inr ⟨ds, a, vs, h1, h2, h3, h4.zup k⟩
/-- what was new is no longer under way -/
theorem Sim.done {D : Addr} (S : Sim G (fun a => Z a ∨ a = D) as h H) : Sim G Z as h H := S.zup (fun a z => .inl (.inl z)) fun a z => S.zs a (.inl z)
end
section
variable {G : Gx} {Z : Addr → Prop} {as as1 : List Addr} {h : Hd} {H H1 : Hp}
/-- what was under way becomes the newest own object -/
theorem Ext.joined {D : Addr} {o : Ob} (x : Ext as1 H1 as H) (n : H1 D = none) (nD : D ∉ as) (S : Sim G (fun a => Z a ∨ a = D) as h H) (r : RepO G (fun a => Z a ∨ a = D) as H o D) :
    Ext as1 H1 (as ++ [D]) H ∧ Sim G Z (as ++ [D]) (h ++ [o]) H ∧ Rep G Z (as ++ [D]) H (.ref h.length) (.ref D) := by
  have p : ∃ t, as ++ [D] = as ++ t := ⟨[D], rfl⟩
  have k : ∀ a, a ∉ as → ¬ (Z a ∨ a = D) → a ∉ as ++ [D] := fun a h1 h2 m => by
    rcases List.mem_append.mp m with m | m
    · exact h1 m
    · exact h2 (.inr (List.mem_singleton.mp m))
  have kz : ∀ a, Z a → (Z a ∨ a = D) ∨ H a = none := fun a z => .inl (.inl z)
  have up : ∀ {ob : Ob} {a : Addr}, RepO G (fun a => Z a ∨ a = D) as H ob a → RepO G Z (as ++ [D]) H ob a := fun q => by
    cases q with
    | lst e q => exact .lst e ((q.join p k).zup kz)
    | dct e q => exact .dct e ((q.join p k).zup kz)
    | ins e q => exact .ins e ((q.join p k).zup kz)
  refine ⟨⟨?_, x.frame, fun a m => ?_, x.keep⟩, ⟨by rw [List.length_append, List.length_append, S.len]; rfl, ?_, fun m o' a e1 e2 => ?_, fun a z => S.zs a (.inl z)⟩, .ref ?_⟩
  · obtain ⟨t, e⟩ := x.pre
    exact ⟨t ++ [D], by rw [e, List.append_assoc]⟩
  · rcases List.mem_append.mp m with m | m
    · exact x.fresh a m
    · exact .inr (by rw [List.mem_singleton.mp m]; exact n)
  · refine List.nodup_append.mpr ⟨S.nd, by simp, fun a ha b hb => ?_⟩
    rw [List.mem_singleton.mp hb]
    exact fun z => nD (z ▸ ha)
  · by_cases hm : m < h.length
    · rw [List.getElem?_append_left hm] at e1
      rw [List.getElem?_append_left (by rw [S.len]; exact hm)] at e2
      exact up (S.ob m o' a e1 e2)
    · have hl : m < (h ++ [o]).length := (List.getElem?_eq_some_iff.mp e1).1
      rw [List.length_append] at hl
      have em : m = h.length := by simp at hl; omega
      subst em
      rw [List.getElem?_append_right (Nat.le_refl _), Nat.sub_self] at e1
      rw [← S.len, List.getElem?_append_right (Nat.le_refl _), Nat.sub_self] at e2
      cases e1
      cases e2
      exact up r
  · rw [← S.len, List.getElem?_append_right (Nat.le_refl _), Nat.sub_self]
    rfl
end
/-! ### one generator -/
def lcGo (src : List (Nat × Ob)) (g : TgF) (t : ST) (f : SE) (e : Env) : List D → M (List D)
  | [], h => if srcOk src h then .ok [] h else .fail
  | d :: ds, h => if srcOk src h then (match g d e h with
    | some (e1, h1) => (match t e1 h1 with
      | .ok true h2 => (match f e1 h2 with
        | .ok y h3 => (match lcGo src g t f e ds h3 with
          | .ok ys h4 => .ok (y :: ys) h4
          | _ => .fail)
        | _ => .fail)
      | .ok false h2 => lcGo src g t f e ds h2
      | _ => .fail)
    | none => .fail) else .fail
def lcX (mu wk : Bool) (vs : List Nat) (i : SI) (g : TgF) (t : ST) (f : SE) : SE := fun e => bd (i e) fun iv => if iv.wk = true ∧ wk = false then no else bd (fun h => match lcGo iv.src g t f (wipeE e vs) iv.items h with | .ok ds h' => if ds.length ≤ sizeLine then .ok ds h' else .fail | _ => .fail) fun ds => fin mu (.l ds)
/-- nothing is caught within -/
abbrev WN : WX := fun _ _ _ _ => False
section
variable {X : Cx} {W : WX} {tg : Expr}
theorem lc_rd {i : SI} {g : TgF} {t : ST} {f : SE} {vs ws : List Nat} {mu wk : Bool} {s : L2.St} {H : Hp} {Q : VK} (hw : ∀ j ∈ ws, j ∈ vs) (z : rd (gx X) W (lcX mu wk vs i g t f) s H Q) :
    tLc (rdI (gx X) W i) (rdG (gx X) ws wk g) (rdT (gx X) WN t) (rd (gx X) WN f) vs s H Q := by
  obtain ⟨Z, as, e, h, S, E, P⟩ := z
  rw [post_px] at P
  refine ⟨Z, as, e, h, S, E, (PX.bind (R1 := ItRel (gx X) Z) P).imp fun J H1 z => ?_⟩
  obtain ⟨as1, iv, h1, _, x1, S1, r1, P1⟩ := z
  by_cases hk : iv.wk = true ∧ wk = false
  · rw [if_pos hk] at P1; exact P1.elim
  rw [if_neg hk] at P1
  intro D hD
  have E1 := E.mono S x1
  -- the end, known ahead
  cases q0 : lcGo iv.src g t f (wipeE e vs) iv.items h1 with
  | fail => rw [bd_eq, q0] at P1; exact P1.elim
  | ex _ _ _ => rw [bd_eq, q0] at P1; exact P1.elim
  | ok ds hF =>
    rw [bd_eq, q0] at P1
    dsimp only at P1
    by_cases hsz : ds.length ≤ sizeLine
    case neg => rw [if_neg hsz] at P1; exact P1.elim
    rw [if_pos hsz, ← post_px] at P1
    dsimp only at P1
    let Z' : Addr → Prop := fun a => Z a ∨ a = D
    have kz : ∀ a, Z' a → Z a ∨ H1 a = none := fun a z => z.imp id fun w => by rw [w]; exact hD
    have hZ : Z' D := .inr rfl
    have x0 : Ext as1 H1 as1 (upd H1 D (.lst [])) := .new hD
    have E0 : SimE (gx X) Z' as1 (upd H1 D (.lst [])) (wipeE e vs) (wipe s vs) := ((E1.zup kz).mono S1 x0).wipe vs
    have S0 : Sim (gx X) Z' as1 h1 (upd H1 D (.lst [])) := by
      refine ⟨S1.len, S1.nd, fun n o a e1 e2 => ?_, fun a z => ?_⟩
      · have ek : upd H1 D (.lst []) a = H1 a := upd_ne fun w => S1.nin hD (w ▸ List.mem_of_getElem? e2)
        cases S1.ob n o a e1 e2 with
        | lst e r => exact .lst (ek.trans e) ((r.zup kz).mono S1 x0)
        | dct e r => exact .dct (ek.trans e) ((r.zup kz).mono S1 x0)
        | ins e r => exact .ins (ek.trans e) ((r.zup kz).mono S1 x0)
      · rcases z with z | z
        · exact x0.keep a (S1.zs a z)
        · rw [z, upd_same]; simp
    refine ⟨fun i m H => m = iv.items.length - i ∧ i ≤ iv.items.length ∧ ∃ (as : List Addr) (h : Hd) (acc rest : List Dk.D) (vacc : List V), Ext as1 H1 as H ∧ Sim (gx X) Z' as h H ∧ SimE (gx X) Z' as H (wipeE e vs) (wipe s vs) ∧ D ∉ as ∧ H D = some (.lst vacc) ∧ Reps (gx X) Z' as H acc vacc ∧
      lcGo iv.src g t f (wipeE e vs) (iv.items.drop i) h = .ok rest hF ∧ acc ++ rest = ds, ⟨iv.items.length, by simp, Nat.zero_le _, as1, h1, [], ds, [], x0, S0, E0, S1.nin hD, upd_same, .nil, q0, rfl⟩, ?_⟩
    rintro i m H ⟨rfl, hle, as, h, acc, rest, vacc, x, S, E, nD, hA, rA, q, ed⟩
    by_cases hlt : i < iv.items.length
    · rw [List.drop_eq_getElem_cons hlt] at q
      unfold lcGo at q
      by_cases ok : srcOk iv.src h
      case neg => rw [if_neg ok] at q; cases q
      rw [if_pos ok] at q
      obtain ⟨go, yl⟩ := (r1 Z' as h H kz x S ok i).1 iv.items[i] (List.getElem?_eq_getElem hlt)
      refine .inr ⟨go, fun H' => i + 1 ≤ iv.items.length ∧ ∃ (as : List Addr) (h : Hd) (acc rest : List Dk.D) (vacc : List V), Ext as1 H1 as H' ∧ Sim (gx X) Z' as h H' ∧ SimE (gx X) Z' as H' (wipeE e vs) (wipe s vs) ∧ D ∉ as ∧ H' D = some (.lst vacc) ∧ Reps (gx X) Z' as H' acc vacc ∧
        lcGo iv.src g t f (wipeE e vs) (iv.items.drop (i + 1)) h = .ok rest hF ∧ acc ++ rest = ds, fun H' z => ⟨iv.items.length - (i + 1), by omega, rfl, z⟩, fun v H' y => ?_⟩
      obtain ⟨x2, S2, r2⟩ := yl v H' y
      have keepD : ∀ {as2 : List Addr} {H2 : Hp}, Ext as H as2 H2 → D ∉ as2 ∧ H2 D = some (.lst vacc) := fun y => ⟨fun m => (y.fresh D m).elim nD (by rw [hA]; simp), y.frame _ _ hA nD⟩
      cases q1 : g iv.items[i] (wipeE e vs) h with
      | none => rw [q1] at q; cases q
      | some p =>
        obtain ⟨e1, h1'⟩ := p
        rw [q1] at q
        dsimp only at q
        refine ⟨Z', as, wipeE e vs, h, iv.items[i], e1, h1', S2, E.mono S x2, r2.weak hk, q1, fun as3 s3 H3 x3 S3 E3 b3 => ⟨wipe_sb b3 hw, Z', as3, e1, h1', S3, E3, ?_⟩⟩
        have y3 := x2.trans x3
        cases q2 : t e1 h1' with
        | fail => rw [q2] at q; cases q
        | ex _ _ _ => rw [q2] at q; cases q
        | ok c h2 =>
          rw [q2] at q
          intro as4 H4 x4 S4
          have y4 := y3.trans x4
          cases c with
          | false =>
            rw [if_neg (by simp)]
            obtain ⟨nD4, hA4⟩ := keepD y4
            exact ⟨hlt, as4, h2, acc, rest, vacc, x.trans y4, S4, E.mono S y4, nD4, hA4, rA.mono S y4, q, ed⟩
          | true =>
            rw [if_pos rfl]
            dsimp only at q
            refine ⟨Z', as4, e1, h2, S4, E3.mono S3 x4, ?_⟩
            cases q3 : f e1 h2 with
            | fail => rw [q3] at q; cases q
            | ex _ _ _ => rw [q3] at q; cases q
            | ok yv h3 =>
              rw [q3] at q
              dsimp only at q
              intro as5 v5 H5 x5 S5 r5
              have y5 := y4.trans x5
              obtain ⟨nD5, hA5⟩ := keepD y5
              cases q4 : lcGo iv.src g t f (wipeE e vs) (iv.items.drop (i + 1)) h3 with
              | fail => rw [q4] at q; cases q
              | ex _ _ _ => rw [q4] at q; cases q
              | ok ys h4 =>
                rw [q4] at q
                cases q
                have rA5 := rA.mono S y5
                refine ⟨vacc, hA5, ?_, hlt, as5, h3, acc ++ [yv], ys, vacc ++ [v5], (x.trans y5).poke hD (by rw [hA5]; simp), S5.poke hA5 trivial hZ nD5, (E.mono S y5).poke hA5 trivial hZ, nD5, upd_same, (rA5.append (.cons r5 .nil)).poke hA5 trivial hZ, q4, by rw [List.append_assoc]; exact ed⟩
                have l1 := rA5.length
                have l2 : ds.length = acc.length + (ys.length + 1) := by rw [← ed]; simp
                omega
    · have ei : i = iv.items.length := by omega
      subst ei
      rw [List.drop_length] at q
      unfold lcGo at q
      by_cases ok : srcOk iv.src h
      case neg => rw [if_neg ok] at q; cases q
      rw [if_pos ok] at q
      cases q
      rw [List.append_nil] at ed
      subst ed
      refine .inl ⟨(r1 Z' as hF H kz x S ok _).2 rfl, ?_⟩
      have SF : Sim (gx X) Z as hF H := S.done
      have rF : Reps (gx X) Z as H acc vacc := rA.zup fun a z => .inl (.inl z)
      cases mu with
      | false => exact P1 as _ H x SF (.lst hA nD (fun z => S1.zs D z hD) rF)
      | true =>
        obtain ⟨x3, S3, r3⟩ := x.joined hD nD S (.lst hA rA)
        exact P1 _ _ H x3 S3 r3
theorem dts_nil : PTs X [] (rdT (gx X) W (fun _ => pu true)) :=
  ⟨fun pins s st H Q I z => by
    obtain ⟨Z, as, e, h, S, E, P⟩ := z
    exact pts_nil.run pins s st H Q I (P as H .refl S)⟩
theorem dts_one {c : Expr} {t : ST} (h : PT X c (rdT (gx X) W t)) : PTs X [c] (rdT (gx X) W t) := pts_one h
theorem de_lc {elt iter : Expr} {ifs : List Expr} {scope : Scope} {own : List (Str × Nat)} {pos : Pos} {i : SI} {g : TgF} {t : ST} {f : SE} {ws : List Nat} {mu wk : Bool} (hw : ∀ j ∈ ws, j ∈ own.map (·.2)) (hc : X.calm = true) (hN : X.N.Nodup) (hi : PI X tg iter (rdI (gx X) W i)) (ok : BlkOk X.N X.env.scope scope own)
    (hg : ∀ (s : Shared) (H : Hp) (C : Addr) (cl : List (Str × Addr)) (fp : List Addr), PG (X.blk s H scope (compEnvC scope cl C X.env) fp) tg (rdG (gx X) ws wk g)) (ht : ∀ (s : Shared) (H : Hp) (C : Addr) (cl : List (Str × Addr)) (fp : List Addr), PTs (X.blk s H scope (compEnvC scope cl C X.env) fp) ifs (rdT (gx X) WN t))
    (he : ∀ (s : Shared) (H : Hp) (C : Addr) (cl : List (Str × Addr)) (fp : List Addr), PE (X.blk s H scope (compEnvC scope cl C X.env) fp) elt (rd (gx X) WN f)) (hs : ∀ x, foldedSetIterable iter X.env x = pure x) :
    PE X (.ListComp elt [⟨tg, iter, ifs, 0⟩] scope pos) (rd (gx X) W (lcX mu wk (own.map (·.2)) i g t f)) :=
  (pe_lc hc hN hi ok hg ht he hs).imp fun s H Q z => lc_rd hw z
theorem ds_setLc {j : Nat} {y : Str} {py : Pos} {elt iter : Expr} {ifs : List Expr} {scope : Scope} {own : List (Str × Nat)} {pos spos : Pos} {i : SI} {g : TgF} {t : ST} {f : SE} {ws : List Nat} {mu wk : Bool} (hw : ∀ j ∈ ws, j ∈ own.map (·.2)) (hc : X.calm = true) (hN : X.N.Nodup)
    (hy : X.N[j]? = some y) (hyl : X.env.scope.names.lookup y = some .local) (hsw : swapsWith (.ListComp elt [⟨tg, iter, ifs, 0⟩] scope pos) (some (.Name y py)) spos.line X.env = pure true)
    (hi : PI X tg iter (rdI (gx X) W i)) (ok : BlkOk X.N X.env.scope scope own)
    (hg : ∀ (s : Shared) (H : Hp) (C : Addr) (cl : List (Str × Addr)) (fp : List Addr), PG (X.blk s H scope (compEnvC scope cl C X.env) fp) tg (rdG (gx X) ws wk g)) (ht : ∀ (s : Shared) (H : Hp) (C : Addr) (cl : List (Str × Addr)) (fp : List Addr), PTs (X.blk s H scope (compEnvC scope cl C X.env) fp) ifs (rdT (gx X) WN t))
    (he : ∀ (s : Shared) (H : Hp) (C : Addr) (cl : List (Str × Addr)) (fp : List Addr), PE (X.blk s H scope (compEnvC scope cl C X.env) fp) elt (rd (gx X) WN f)) (hs : ∀ x, foldedSetIterable iter X.env x = pure x) :
    PS X (.Assign [.Name y py] (.ListComp elt [⟨tg, iter, ifs, 0⟩] scope pos) spos) (rdS (gx X) W (sAsg (gN j) (lcX mu wk (own.map (·.2)) i g t f))) :=
  (ps_setLc hc hN hy hyl hsw hi ok hg ht he hs).imp fun D s H z => by
    obtain ⟨Z, as, e, h, S, E, P⟩ := z
    refine lc_rd (mu := mu) hw ⟨Z, as, e, h, S, E, ?_⟩
    rw [post_px]
    refine (PostS.bind (R := Rep (gx X) Z) P S E).imp fun v H1 z => ?_
    obtain ⟨as1, d, h1, _, x1, S1, r1, P1⟩ := z
    exact P1 as1 _ H1 .refl S1 ((E.mono S x1).set r1 j)
end
/-! ### dict displays of one generator -/
def dcGo (src : List (Nat × Ob)) (g : TgF) (t : ST) (fk fv : SE) (e : Env) : List D → List (Key × D) → M (List (Key × D))
  | [], acc, h => if srcOk src h then .ok acc h else .fail
  | d :: ds, acc, h => if srcOk src h ∧ acc.length < sizeLine then (match g d e h with
    | some (e1, h1) => (match t e1 h1 with
      | .ok true h2 => (match fk e1 h2 with
        | .ok y h3 => (match fv e1 h3 with
          | .ok z h4 => (match keyOf y with
            | some k => dcGo src g t fk fv e ds (putD acc k z) h4
            | none => .fail)
          | _ => .fail)
        | _ => .fail)
      | .ok false h2 => dcGo src g t fk fv e ds acc h2
      | _ => .fail)
    | none => .fail) else .fail
def dcX (mu wk : Bool) (vs : List Nat) (i : SI) (g : TgF) (t : ST) (fk fv : SE) : SE := fun e => bd (i e) fun iv => if iv.wk = true ∧ wk = false then no else bd (fun h => match dcGo iv.src g t fk fv (wipeE e vs) iv.items [] h with | .ok ds h' => .ok ds h' | _ => .fail) fun ds => fin mu (.d ds)
section
variable {X : Cx} {W : WX} {tg : Expr}
theorem dc_rd {i : SI} {g : TgF} {t : ST} {fk fv : SE} {vs ws : List Nat} {mu wk : Bool} {s : L2.St} {H : Hp} {Q : VK} (hw : ∀ j ∈ ws, j ∈ vs) (z : rd (gx X) W (dcX mu wk vs i g t fk fv) s H Q) :
    tDc (rdI (gx X) W i) (rdG (gx X) ws wk g) (rdT (gx X) WN t) (rd (gx X) WN fk) (rd (gx X) WN fv) vs s H Q := by
  obtain ⟨Z, as, e, h, S, E, P⟩ := z
  rw [post_px] at P
  refine ⟨Z, as, e, h, S, E, (PX.bind (R1 := ItRel (gx X) Z) P).imp fun J H1 z => ?_⟩
  obtain ⟨as1, iv, h1, _, x1, S1, r1, P1⟩ := z
  by_cases hk : iv.wk = true ∧ wk = false
  · rw [if_pos hk] at P1; exact P1.elim
  rw [if_neg hk] at P1
  intro D hD
  have E1 := E.mono S x1
  cases q0 : dcGo iv.src g t fk fv (wipeE e vs) iv.items [] h1 with
  | fail => rw [bd_eq, q0] at P1; exact P1.elim
  | ex _ _ _ => rw [bd_eq, q0] at P1; exact P1.elim
  | ok ds hF =>
    rw [bd_eq, q0] at P1
    dsimp only at P1
    rw [← post_px] at P1
    let Z' : Addr → Prop := fun a => Z a ∨ a = D
    have kz : ∀ a, Z' a → Z a ∨ H1 a = none := fun a z => z.imp id fun w => by rw [w]; exact hD
    have hZ : Z' D := .inr rfl
    have x0 : Ext as1 H1 as1 (upd H1 D (.dK [])) := .new hD
    have E0 : SimE (gx X) Z' as1 (upd H1 D (.dK [])) (wipeE e vs) (wipe s vs) := ((E1.zup kz).mono S1 x0).wipe vs
    have S0 : Sim (gx X) Z' as1 h1 (upd H1 D (.dK [])) := by
      refine ⟨S1.len, S1.nd, fun n o a e1 e2 => ?_, fun a z => ?_⟩
      · have ek : upd H1 D (.dK []) a = H1 a := upd_ne fun w => S1.nin hD (w ▸ List.mem_of_getElem? e2)
        cases S1.ob n o a e1 e2 with
        | lst e r => exact .lst (ek.trans e) ((r.zup kz).mono S1 x0)
        | dct e r => exact .dct (ek.trans e) ((r.zup kz).mono S1 x0)
        | ins e r => exact .ins (ek.trans e) ((r.zup kz).mono S1 x0)
      · rcases z with z | z
        · exact x0.keep a (S1.zs a z)
        · rw [z, upd_same]; simp
    refine ⟨fun i m H => m = iv.items.length - i ∧ i ≤ iv.items.length ∧ ∃ (as : List Addr) (h : Hd) (acc : List (Key × Dk.D)) (vacc : List (Key × V)), Ext as1 H1 as H ∧ Sim (gx X) Z' as h H ∧ SimE (gx X) Z' as H (wipeE e vs) (wipe s vs) ∧ D ∉ as ∧ H D = some (.dK vacc) ∧ RepK (gx X) Z' as H acc vacc ∧
      dcGo iv.src g t fk fv (wipeE e vs) (iv.items.drop i) acc h = .ok ds hF, ⟨iv.items.length, by simp, Nat.zero_le _, as1, h1, [], [], x0, S0, E0, S1.nin hD, upd_same, .nil, q0⟩, ?_⟩
    rintro i m H ⟨rfl, hle, as, h, acc, vacc, x, S, E, nD, hA, rA, q⟩
    by_cases hlt : i < iv.items.length
    · rw [List.drop_eq_getElem_cons hlt] at q
      unfold dcGo at q
      by_cases ok : srcOk iv.src h ∧ acc.length < sizeLine
      case neg => rw [if_neg ok] at q; cases q
      rw [if_pos ok] at q
      obtain ⟨ok, hlen⟩ := ok
      obtain ⟨go, yl⟩ := (r1 Z' as h H kz x S ok i).1 iv.items[i] (List.getElem?_eq_getElem hlt)
      refine .inr ⟨go, fun H' => i + 1 ≤ iv.items.length ∧ ∃ (as : List Addr) (h : Hd) (acc : List (Key × Dk.D)) (vacc : List (Key × V)), Ext as1 H1 as H' ∧ Sim (gx X) Z' as h H' ∧ SimE (gx X) Z' as H' (wipeE e vs) (wipe s vs) ∧ D ∉ as ∧ H' D = some (.dK vacc) ∧ RepK (gx X) Z' as H' acc vacc ∧
        dcGo iv.src g t fk fv (wipeE e vs) (iv.items.drop (i + 1)) acc h = .ok ds hF, fun H' z => ⟨iv.items.length - (i + 1), by omega, rfl, z⟩, fun v H' y => ?_⟩
      obtain ⟨x2, S2, r2⟩ := yl v H' y
      have keepD : ∀ {as2 : List Addr} {H2 : Hp}, Ext as H as2 H2 → D ∉ as2 ∧ H2 D = some (.dK vacc) := fun y => ⟨fun m => (y.fresh D m).elim nD (by rw [hA]; simp), y.frame _ _ hA nD⟩
      cases q1 : g iv.items[i] (wipeE e vs) h with
      | none => rw [q1] at q; cases q
      | some p =>
        obtain ⟨e1, h1'⟩ := p
        rw [q1] at q
        dsimp only at q
        refine ⟨Z', as, wipeE e vs, h, iv.items[i], e1, h1', S2, E.mono S x2, r2.weak hk, q1, fun as3 s3 H3 x3 S3 E3 b3 => ⟨wipe_sb b3 hw, Z', as3, e1, h1', S3, E3, ?_⟩⟩
        have y3 := x2.trans x3
        cases q2 : t e1 h1' with
        | fail => rw [q2] at q; cases q
        | ex _ _ _ => rw [q2] at q; cases q
        | ok c h2 =>
          rw [q2] at q
          intro as4 H4 x4 S4
          have y4 := y3.trans x4
          cases c with
          | false =>
            rw [if_neg (by simp)]
            obtain ⟨nD4, hA4⟩ := keepD y4
            exact ⟨hlt, as4, h2, acc, vacc, x.trans y4, S4, E.mono S y4, nD4, hA4, rA.mono S y4, q⟩
          | true =>
            rw [if_pos rfl]
            dsimp only at q
            refine ⟨Z', as4, e1, h2, S4, E3.mono S3 x4, ?_⟩
            cases q3 : fk e1 h2 with
            | fail => rw [q3] at q; cases q
            | ex _ _ _ => rw [q3] at q; cases q
            | ok yv h3 =>
              rw [q3] at q
              dsimp only at q
              intro as5 v5 H5 x5 S5 r5
              refine ⟨Z', as5, e1, h3, S5, (E3.mono S3 x4).mono S4 x5, ?_⟩
              cases q4 : fv e1 h3 with
              | fail => rw [q4] at q; cases q
              | ex _ _ _ => rw [q4] at q; cases q
              | ok zv h4 =>
                rw [q4] at q
                dsimp only at q
                intro as6 v6 H6 x6 S6 r6
                have y6 := (y4.trans x5).trans x6
                obtain ⟨nD6, hA6⟩ := keepD y6
                cases q5 : keyOf yv with
                | none => rw [q5] at q; cases q
                | some k =>
                  rw [q5] at q
                  dsimp only at q
                  have rA6 := rA.mono S y6
                  refine ⟨vacc, k, keyOf_rep r5 q5, hA6, by rw [← rA6.length]; exact hlen, hlt, as6, h4, putD acc k zv, putK vacc k v6, (x.trans y6).poke hD (by rw [hA6]; simp), S6.poke hA6 trivial hZ nD6, (E.mono S y6).poke hA6 trivial hZ, nD6, upd_same, (rA6.put r6).poke hA6 trivial hZ, q⟩
    · have ei : i = iv.items.length := by omega
      subst ei
      rw [List.drop_length] at q
      unfold dcGo at q
      by_cases ok : srcOk iv.src h
      case neg => rw [if_neg ok] at q; cases q
      rw [if_pos ok] at q
      cases q
      refine .inl ⟨(r1 Z' as hF H kz x S ok _).2 rfl, ?_⟩
      have SF : Sim (gx X) Z as hF H := S.done
      have rF : RepK (gx X) Z as H _ vacc := rA.zup fun a z => .inl (.inl z)
      cases mu with
      | false => exact P1 as _ H x SF (.dct (.inl hA) nD (fun z => S1.zs D z hD) rF)
      | true =>
        obtain ⟨x3, S3, r3⟩ := x.joined hD nD S (.dct hA rA)
        exact P1 _ _ H x3 S3 r3
theorem de_dc {kx vx iter : Expr} {ifs : List Expr} {scope : Scope} {own : List (Str × Nat)} {pos : Pos} {i : SI} {g : TgF} {t : ST} {fk fv : SE} {ws : List Nat} {mu wk : Bool} (hw : ∀ j ∈ ws, j ∈ own.map (·.2)) (hc : X.calm = true) (hN : X.N.Nodup) (hi : PI X tg iter (rdI (gx X) W i)) (ok : BlkOk X.N X.env.scope scope own)
    (hg : ∀ (s : Shared) (H : Hp) (C : Addr) (cl : List (Str × Addr)) (fp : List Addr), PG (X.blk s H scope (compEnvC scope cl C X.env) fp) tg (rdG (gx X) ws wk g)) (ht : ∀ (s : Shared) (H : Hp) (C : Addr) (cl : List (Str × Addr)) (fp : List Addr), PTs (X.blk s H scope (compEnvC scope cl C X.env) fp) ifs (rdT (gx X) WN t))
    (hk : ∀ (s : Shared) (H : Hp) (C : Addr) (cl : List (Str × Addr)) (fp : List Addr), PE (X.blk s H scope (compEnvC scope cl C X.env) fp) kx (rd (gx X) WN fk))
    (he : ∀ (s : Shared) (H : Hp) (C : Addr) (cl : List (Str × Addr)) (fp : List Addr), PE (X.blk s H scope (compEnvC scope cl C X.env) fp) vx (rd (gx X) WN fv)) (hs : ∀ x, foldedSetIterable iter X.env x = pure x) :
    PE X (.DictComp kx vx [⟨tg, iter, ifs, 0⟩] scope pos) (rd (gx X) W (dcX mu wk (own.map (·.2)) i g t fk fv)) :=
  (pe_dc hc hN hi ok hg ht hk he hs).imp fun s H Q z => dc_rd hw z
end
end Dk
end S_DkM
end
section
set_option Elab.async false
set_option linter.all false
set_option maxRecDepth 100000
set_option maxHeartbeats 4000000
/-! DkN: sorted. -/
noncomputable section S_DkN
namespace Dk
open PySem PySem.Spec PyProof.Rows L2
open Classical
mutual
def toP : D → PyData
  | .bl b => .bool b
  | .int i => .int i
  | .str x => .str x
  | .tup xs => .tuple (toPs xs)
  | .lst xs => .list (toPs xs)
  | _ => .none
def toPs : List D → List PyData
  | [] => []
  | x :: xs => toP x :: toPs xs
end
mutual
/-- plain data: no dicts, no objects -/
def plainB : D → Bool
  | .non => true
  | .bl _ => true
  | .int _ => true
  | .str _ => true
  | .tup xs => plainL xs
  | .lst xs => plainL xs
  | _ => false
def plainL : List D → Bool
  | [] => true
  | x :: xs => plainB x && plainL xs
end
theorem toPs_map : ∀ xs : List D, toPs xs = xs.map toP
  | [] => rfl
  | x :: xs => by rw [toPs, toPs_map xs]; rfl
theorem plainL_all : ∀ xs : List D, plainL xs = xs.all plainB
  | [] => rfl
  | x :: xs => by rw [plainL, plainL_all xs]; rfl
mutual
theorem Vw.reads {s : Shared} : ∀ (d : D) (u : Value), plainB d = true → Vw s d u → ∃ as, Reads s.heap u (toP d) as
  | .non, _, _, h => by
    cases h with
    | non => exact ⟨_, .none⟩
    | odd k => cases k
  | .bl b, _, _, h => by
    cases h with
    | bl => exact ⟨_, .bool b⟩
    | odd k => cases k
  | .int i, _, _, h => by
    cases h with
    | int _ t => exact ⟨_, .int i t⟩
    | odd k => cases k
  | .str x, _, _, h => by
    cases h with
    | str _ t => exact ⟨_, .str x t⟩
    | odd k => cases k
  | .lst ds, _, p, h => by
    cases h with
    | lst h q =>
      obtain ⟨o, e, c, n, d⟩ := h
      obtain ⟨as, r⟩ := Vws.reads ds _ (by simpa [plainB] using p) q
      exact ⟨_, .list e c d (by simpa using r)⟩
    | odd k => cases k
  | .tup ds, _, p, h => by
    cases h with
    | tup h q =>
      obtain ⟨o, e, c, n, d⟩ := h
      obtain ⟨as, r⟩ := Vws.reads ds _ (by simpa [plainB] using p) q
      exact ⟨_, .tuple e c d (by simpa using r)⟩
    | odd k => cases k
  | .dct _, _, p, _ => by simp [plainB] at p
  | .set _, _, p, _ => by simp [plainB] at p
  | .scr _, _, p, _ => by simp [plainB] at p
  | .ins _ _, _, p, _ => by simp [plainB] at p
  | .ref _, _, p, _ => by simp [plainB] at p
  | .fn _, _, p, _ => by simp [plainB] at p
  | .ty _, _, p, _ => by simp [plainB] at p
  | .cls _, _, p, _ => by simp [plainB] at p
theorem Vws.reads {s : Shared} : ∀ (d : List D) (u : List Value), plainL d = true → Vws s d u → ∃ as, ReadsAll s.heap u (toPs d) as
  | [], _, _, h => by cases h; exact ⟨_, .nil⟩
  | d :: ds, _, p, h => by
    cases h with
    | cons h q =>
      have p' : plainB d = true ∧ plainL ds = true := by simpa [plainL] using p
      obtain ⟨as, r⟩ := Vw.reads d _ p'.1 h
      obtain ⟨bs, t⟩ := Vws.reads ds _ p'.2 q
      exact ⟨_, .cons r t⟩
end
/-- these can be sorted -/
def sortOk (xs : List D) : Prop := plainL xs = true ∧ PySem.W.AllAlike (xs.map toP) ∧ PySem.W.Sortable (xs.map toP) ∧ ∀ d ∈ xs, (toP d).depth ≤ 30
def leD (a b : D) : Bool := PySem.W.dataLe false toP a b
def sortL (xs : List D) : List D := xs.mergeSort leD
mutual
theorem readsKept {h h' : Heap} (k : ∀ b o, h.get? b = some o → h'.get? b = some o) : ∀ {v : Value} {d : PyData} {as : List Addr}, Reads h v d as → Reads h' v d as
  | _, _, _, .none => .none
  | _, _, _, .bool b => .bool b
  | _, _, _, .int i t => .int i t
  | _, _, _, .str x t => .str x t
  | _, _, _, .list e c d r => .list (k _ _ e) c d (readsKeptL k r)
  | _, _, _, .tuple e c d r => .tuple (k _ _ e) c d (readsKeptL k r)
  | _, _, _, .dict e c d r q => .dict (k _ _ e) c d (readsKeptL k r) (readsKeptL k q)
theorem readsKeptL {h h' : Heap} (k : ∀ b o, h.get? b = some o → h'.get? b = some o) : ∀ {v : List Value} {d : List PyData} {as : List Addr}, ReadsAll h v d as → ReadsAll h' v d as
  | _, _, _, .nil => .nil
  | _, _, _, .cons r q => .cons (readsKept k r) (readsKeptL k q)
end
section
variable {prog : Program} {w : World} {A : Around} {E : Value → Shared → Prop} {s : Shared}
/-- sorted(v): what is collected of v, sorted -/
theorem sorted_gen {v : Value} {Q : Value → Shared → Prop} {bs : List (D × V)} (hlb : bs.length ≤ sizeLine)
    (hcol : ∀ (E' : Value → Shared → Prop) (R : List Value → Shared → Prop), (∀ us h' tk, (∀ b o, s.heap.get? b = some o → h'.get? b = some o) → PySem.W.EachIs (fun u (b : D × V) => RelV b.2 u) us bs → PySem.W.EachIs (fun u (b : D × V) => ∃ as, Reads s.heap u (toP b.1) as) us bs → R us { s with heap := h', toks := tk }) → wpAny (model prog w) A.in1 (collect v) R E' s)
    (ok : sortOk (bs.map (·.1))) (hu : A.units + 40 < cLine)
    (h : ∀ (h1 h' : Heap) (tk : Nat) (p : Addr) (out : List Value) (n : Nat), (∀ b o, s.heap.get? b = some o → h1.get? b = some o) → (∀ b o, h1.get? b = some o → h'.get? b = some o) → h1.objs.size ≤ p → h'.get? p = some (seqObj "list" out.toArray n) →
      PySem.W.EachIs (fun u b => RelV b.2 u) out (bs.mergeSort fun x y => leD x.1 y.1) → Q (.ref p) { s with heap := h', toks := tk }) :
    wpAny (model prog w) A (call (.builtin "sorted") [v]) Q E s := by
  refine Calls.call_function_entry kind_sorted plain_sorted entry_sorted (args_sorted1 _) ?_
  unfold Builtin.«sorted»
  refine wpAny_bind (m := checkCount "sorted" 1 1 _) (wpAny_pure ?_)
  refine wpAny_bind (hcol _ _ fun us h1 tk k1 e1 e2 => ?_)
  have hl : us.length ≤ sizeLine := by rw [e1.length]; exact hlb
  refine wpAny_bind (wpAny_newList ?_ hl)
  have ho : (h1.push (seqObj "list" us.toArray 0)).get? h1.objs.size = some (seqObj "list" us.toArray 0) := Heap.get?_push_size _ rfl
  have kk : ∀ b o, s.heap.get? b = some o → (PySem.W.sortingHeap (h1.push (seqObj "list" us.toArray 0)) h1.objs.size us).get? b = some o := fun b o e => by
    have e1 := k1 b o e
    exact PySem.W.sortingHeap_old (Nat.ne_of_lt (Heap.lt_size e1)) (Heap.get?_push_of_some _ e1)
  have er : PySem.W.EachIs (fun u b => ∃ as, Reads (PySem.W.sortingHeap (h1.push (seqObj "list" us.toArray 0)) h1.objs.size us) u (toP b.1) as) us bs := e2.mono fun u b ⟨as, r⟩ => ⟨as, readsKept kk r⟩
  have hmap : bs.map (fun b : D × V => toP b.1) = (bs.map (·.1)).map toP := by rw [List.map_map]; rfl
  have hal : PySem.W.AllAlike (bs.map fun b : D × V => toP b.1) := by rw [hmap]; exact ok.2.1
  have hs : PySem.W.Sortable (bs.map fun b : D × V => toP b.1) := by rw [hmap]; exact ok.2.2.1
  have S : PySem.W.SortsAt prog w A.in1.in1 { s with heap := PySem.W.sortingHeap (h1.push (seqObj "list" us.toArray 0)) h1.objs.size us, toks := tk } (PySem.W.dataKind (PySem.W.sortingHeap (h1.push (seqObj "list" us.toArray 0)) h1.objs.size us) (bs.map fun b : D × V => toP b.1)) us :=
    PySem.W.SortsAt.data (PySem.W.each_map (R := fun u d => ∃ as, Reads (PySem.W.sortingHeap (h1.push (seqObj "list" us.toArray 0)) h1.objs.size us) u d as) (fun b : D × V => toP b.1) er) hal hs fun d hd => by
      obtain ⟨b, hb, rfl⟩ := List.mem_map.mp hd
      have h30 := ok.2.2.2 b.1 (List.mem_map.mpr ⟨b, hb, rfl⟩)
      show A.units + 1 + 1 + _ < cLine
      omega
  refine wpAny_bind (wpAny_holding (wpAny_call_entry slot_list_sort ⟨_, ho, rfl⟩ entry_list_sort ?body (args_list_sort _)))
  case body =>
    refine PySem.W.list_sort_vals (s := { s with heap := h1.push (seqObj "list" us.toArray 0), toks := tk }) ho S hl ⟨_, rfl, wpAny_pure ⟨_, rfl, ?_⟩⟩
    have eo := PySem.W.sortVals_data false e1 er hal
    obtain ⟨n, hn⟩ := PyProof.Rows.sortedHeap_at (h := h1.push (seqObj "list" us.toArray 0)) (a := h1.objs.size) (vs := us) (n := 0) (out := (PySem.W.sortVals (PySem.W.dataKind (PySem.W.sortingHeap (h1.push (seqObj "list" us.toArray 0)) h1.objs.size us) (bs.map fun b : D × V => toP b.1)) false us us).toArray) ho
    exact h h1 _ tk h1.objs.size _ n k1 (fun b o e => by
      rw [PyProof.Rows.sortedHeap_old (Nat.ne_of_lt (Heap.lt_size e)) (by rw [Heap.size_push]; exact Nat.lt_succ_of_lt (Heap.lt_size e))]
      exact Heap.get?_push_of_some _ e) (Nat.le_refl _) hn eo
/-- sorted(v), where what is collected comes in an order that nobody knows -/
theorem sorted_genS {v : Value} {Q : Value → Shared → Prop} (Ok : List (D × V) → Prop)
    (hcol : ∀ (E' : Value → Shared → Prop) (R : List Value → Shared → Prop), (∀ us bs s1, Ok bs → (∀ b o, s.heap.get? b = some o → s1.heap.get? b = some o) → s.heap.objs.size ≤ s1.heap.objs.size → s1.gens = s.gens → s1.os = s.os → PySem.W.EachIs (fun u (b : D × V) => RelV b.2 u) us bs → PySem.W.EachIs (fun u (b : D × V) => ∃ as, Reads s1.heap u (toP b.1) as) us bs → R us s1) → wpAny (model prog w) A.in1 (collect v) R E' s)
    (ok : ∀ bs, Ok bs → bs.length ≤ sizeLine ∧ sortOk (bs.map (·.1))) (hu : A.units + 40 < cLine)
    (h : ∀ (bs : List (D × V)) (s1 : Shared) (h' : Heap) (p : Addr) (out : List Value) (n : Nat), Ok bs → (∀ b o, s.heap.get? b = some o → s1.heap.get? b = some o) → s.heap.objs.size ≤ s1.heap.objs.size → s1.gens = s.gens → s1.os = s.os → (∀ b o, s1.heap.get? b = some o → h'.get? b = some o) → s1.heap.objs.size ≤ p → h'.get? p = some (seqObj "list" out.toArray n) →
      PySem.W.EachIs (fun u b => RelV b.2 u) out (bs.mergeSort fun x y => leD x.1 y.1) → Q (.ref p) { s1 with heap := h' }) :
    wpAny (model prog w) A (call (.builtin "sorted") [v]) Q E s := by
  refine Calls.call_function_entry kind_sorted plain_sorted entry_sorted (args_sorted1 _) ?_
  unfold Builtin.«sorted»
  refine wpAny_bind (m := checkCount "sorted" 1 1 _) (wpAny_pure ?_)
  refine wpAny_bind (hcol _ _ fun us bs s1 okb k1 hz1 eg eo0 e1 e2 => ?_)
  obtain ⟨hlb, ok⟩ := ok bs okb
  have hl : us.length ≤ sizeLine := by rw [e1.length]; exact hlb
  refine wpAny_bind (wpAny_newList ?_ hl)
  have ho : (s1.heap.push (seqObj "list" us.toArray 0)).get? s1.heap.objs.size = some (seqObj "list" us.toArray 0) := Heap.get?_push_size _ rfl
  have kk : ∀ b o, s1.heap.get? b = some o → (PySem.W.sortingHeap (s1.heap.push (seqObj "list" us.toArray 0)) s1.heap.objs.size us).get? b = some o := fun b o e1 =>
    PySem.W.sortingHeap_old (Nat.ne_of_lt (Heap.lt_size e1)) (Heap.get?_push_of_some _ e1)
  have er : PySem.W.EachIs (fun u b => ∃ as, Reads (PySem.W.sortingHeap (s1.heap.push (seqObj "list" us.toArray 0)) s1.heap.objs.size us) u (toP b.1) as) us bs := e2.mono fun u b ⟨as, r⟩ => ⟨as, readsKept kk r⟩
  have hmap : bs.map (fun b : D × V => toP b.1) = (bs.map (·.1)).map toP := by rw [List.map_map]; rfl
  have hal : PySem.W.AllAlike (bs.map fun b : D × V => toP b.1) := by rw [hmap]; exact ok.2.1
  have hs : PySem.W.Sortable (bs.map fun b : D × V => toP b.1) := by rw [hmap]; exact ok.2.2.1
  have S : PySem.W.SortsAt prog w A.in1.in1 { s1 with heap := PySem.W.sortingHeap (s1.heap.push (seqObj "list" us.toArray 0)) s1.heap.objs.size us } (PySem.W.dataKind (PySem.W.sortingHeap (s1.heap.push (seqObj "list" us.toArray 0)) s1.heap.objs.size us) (bs.map fun b : D × V => toP b.1)) us :=
    PySem.W.SortsAt.data (PySem.W.each_map (R := fun u d => ∃ as, Reads (PySem.W.sortingHeap (s1.heap.push (seqObj "list" us.toArray 0)) s1.heap.objs.size us) u d as) (fun b : D × V => toP b.1) er) hal hs fun d hd => by
      obtain ⟨b, hb, rfl⟩ := List.mem_map.mp hd
      have h30 := ok.2.2.2 b.1 (List.mem_map.mpr ⟨b, hb, rfl⟩)
      show A.units + 1 + 1 + _ < cLine
      omega
  refine wpAny_bind (wpAny_holding (wpAny_call_entry slot_list_sort ⟨_, ho, rfl⟩ entry_list_sort ?body (args_list_sort _)))
  case body =>
    refine PySem.W.list_sort_vals (s := { s1 with heap := s1.heap.push (seqObj "list" us.toArray 0) }) ho S hl ⟨_, rfl, wpAny_pure ⟨_, rfl, ?_⟩⟩
    have eo := PySem.W.sortVals_data false e1 er hal
    obtain ⟨n, hn⟩ := PyProof.Rows.sortedHeap_at (h := s1.heap.push (seqObj "list" us.toArray 0)) (a := s1.heap.objs.size) (vs := us) (n := 0) (out := (PySem.W.sortVals (PySem.W.dataKind (PySem.W.sortingHeap (s1.heap.push (seqObj "list" us.toArray 0)) s1.heap.objs.size us) (bs.map fun b : D × V => toP b.1)) false us us).toArray) ho
    exact h bs s1 _ s1.heap.objs.size _ n okb k1 hz1 eg eo0 (fun b o e => by
      rw [PyProof.Rows.sortedHeap_old (Nat.ne_of_lt (Heap.lt_size e)) (by rw [Heap.size_push]; exact Nat.lt_succ_of_lt (Heap.lt_size e))]
      exact Heap.get?_push_of_some _ e) (Nat.le_refl _) hn eo
end
section
variable {G : Gx} {Z : Addr → Prop} {as : List Addr} {H : Hp}
theorem Reps.zip_rep : ∀ {ds : List D} {vs : List V}, Reps G Z as H ds vs → ∀ b ∈ ds.zip vs, Rep G Z as H b.1 b.2
  | _, _, .nil, b, m => by cases m
  | _, _, .cons r q, b, m => by
    rcases List.mem_cons.mp m with e | m
    · subst e; exact r
    · exact q.zip_rep b m
theorem reps_of : ∀ {bs : List (D × V)}, (∀ b ∈ bs, Rep G Z as H b.1 b.2) → Reps G Z as H (bs.map (·.1)) (bs.map (·.2))
  | [], _ => .nil
  | b :: bs, h => .cons (h b (List.mem_cons_self ..)) (reps_of fun c m => h c (List.mem_cons_of_mem _ m))
theorem zip_fst : ∀ {ds : List D} {vs : List V}, Reps G Z as H ds vs → (ds.zip vs).map (·.1) = ds
  | _, _, .nil => rfl
  | _, _, .cons _ q => by rw [List.zip_cons_cons, List.map_cons, zip_fst q]
theorem each_zip : ∀ {ds : List D} {vs : List V} {us : List Value}, Reps G Z as H ds vs → Vals vs us → PySem.W.EachIs (fun u (b : D × V) => RelV b.2 u) us (ds.zip vs)
  | _, _, _, .nil, r => by cases r; exact .nil
  | _, _, _, .cons _ q, r => by
    cases r with
    | cons r1 r2 => exact .cons r1 (each_zip q r2)
theorem each_vw {s : Shared} : ∀ {ds : List D} {vs : List V} {us : List Value}, Reps G Z as H ds vs → plainL ds = true → Vws s ds us → PySem.W.EachIs (fun u (b : D × V) => ∃ as, Reads s.heap u (toP b.1) as) us (ds.zip vs)
  | _, _, _, .nil, _, r => by cases r; exact .nil
  | _, _, _, @Reps.cons _ _ _ _ d ds _ _ _ q, p, r => by
    have p' : plainB d = true ∧ plainL ds = true := by simpa only [plainL, Bool.and_eq_true] using p
    cases r with
    | cons r1 r2 => exact .cons (Vw.reads _ _ p'.1 r1) (each_vw q p'.2 r2)
theorem each_vals : ∀ {us : List Value} {bs : List (D × V)}, PySem.W.EachIs (fun u (b : D × V) => RelV b.2 u) us bs → Vals (bs.map (·.2)) us
  | _, _, .nil => .nil
  | _, _, .cons r q => .cons r (each_vals q)
theorem sort_zip {ds : List D} {vs : List V} (r : Reps G Z as H ds vs) : Reps G Z as H (sortL ds) (((ds.zip vs).mergeSort fun x y => leD x.1 y.1).map (·.2)) := by
  have h := reps_of (G := G) (Z := Z) (as := as) (H := H) (bs := (ds.zip vs).mergeSort fun x y => leD x.1 y.1) fun b m => r.zip_rep b ((List.mergeSort_perm _ _).mem_iff.mp m)
  have e : ((ds.zip vs).mergeSort fun x y => leD x.1 y.1).map (·.1) = sortL ds := by
    unfold sortL
    rw [List.map_mergeSort (s := leD) fun a _ b _ => rfl, zip_fst r]
  rw [e] at h
  exact h
end
/-- a call of a built-in by what it does on data -/
def rBs (G : Gx) (mu : Bool) (g : Hd → List D → Option Res) : List V → Hp → VK → Prop := fun vs H Q => ∃ (Z : Addr → Prop) (as : List Addr) (h : Hd) (ds : List D), Sim G Z as h H ∧ Reps G Z as H ds vs ∧ PR G Z as h H mu (g h ds) Q
def sortR (xs : List D) : Option Res := if sortOk xs ∧ xs.length ≤ sizeLine then some (.l (sortL xs)) else none
/-- the keys of a dict as data -/
def keysD (kvs : List (Key × D)) : List D := kvs.map fun kv => ofKey kv.1
def sortedD (h : Hd) : List D → Option Res
  | [d] => (match asS h d with
    | some xs => sortR xs
    | none => match asK h d with
      | some kvs => sortR (keysD kvs)
      | none => match d with
        | .set ks => sortR (ks.map ofKey)
        | _ => none)
  | _ => none
theorem key_toks {a b : Key} (e : PySem.W.keyToks (toP (ofKey a)) = PySem.W.keyToks (toP (ofKey b))) : a = b := by
  cases a <;> cases b <;> simp only [ofKey, toP, PySem.W.keyToks, List.cons.injEq, Sum.inr.injEq, Sum.inl.injEq, and_true, reduceCtorEq] at e
  · rw [e]
  · next x y =>
    cases x
    cases y
    congr
    exact Array.toList_inj.mp e
theorem sort_keys {l ks : List Key} (p : l.Perm ks) : sortL (l.map ofKey) = sortL (ks.map ofKey) := by
  have tot : PySem.W.TotalLe leD := PySem.W.sortLe_total (listOrd itemOrd) false (fun b => PySem.W.keyToks (toP b))
  have pw : ∀ xs : List D, (sortL xs).Pairwise fun a b => leD a b = true := fun xs => List.pairwise_mergeSort tot.trans (fun a b => by
    rcases tot.total a b with h | h <;> simp [h]) xs
  have pm : ∀ xs : List D, (sortL xs).Perm xs := fun xs => List.mergeSort_perm _ _
  refine List.Perm.eq_of_pairwise (fun a b ha hb h1 h2 => ?_) (pw _) (pw _) ((pm _).trans ((p.map _).trans (pm _).symm))
  obtain ⟨x, _, rfl⟩ := List.mem_map.mp ((pm _).mem_iff.mp ha)
  obtain ⟨y, _, rfl⟩ := List.mem_map.mp ((pm _).mem_iff.mp hb)
  have e1 : leD (ofKey x) (ofKey y) = !lexLt itemOrd (PySem.W.keyToks (toP (ofKey y))) (PySem.W.keyToks (toP (ofKey x))) := rfl
  have e2 : leD (ofKey y) (ofKey x) = !lexLt itemOrd (PySem.W.keyToks (toP (ofKey x))) (PySem.W.keyToks (toP (ofKey y))) := rfl
  rw [e1, Bool.not_eq_true'] at h1
  rw [e2, Bool.not_eq_true'] at h2
  exact congrArg ofKey (key_toks ((listOrd itemOrd).total _ _ h2 h1))
section
variable {X : Cx}
theorem sorted_end {mu : Bool} {Z : Addr → Prop} {as : List Addr} {h : Hd} {pins : List (Addr × Obj)} {st : L2.St} {H : Hp} {s : Shared} {xs : List D} {vs : List V} {v : Value} {Q : VK} (hu : X.A.units + 64 < cLine) (I : Inv X pins st H s) (S : Sim (gx X) Z as h H) (r : Reps (gx X) Z as H xs vs)
    (hcol : ∀ (E' : Value → Shared → Prop) (R : List Value → Shared → Prop), (∀ us h' tk, (∀ b o, s.heap.get? b = some o → h'.get? b = some o) → Vals vs us → R us { s with heap := h', toks := tk }) → wpAny (model X.prog X.w) X.A.in1 (collect v) R E' s)
    (p : PR (gx X) Z as h H mu (sortR xs) Q) : wpAny (model X.prog X.w) X.A (call (.builtin "sorted") [v]) (EP X pins st Q) X.xe s := by
  unfold sortR at p
  obtain ⟨⟨ok, hsz⟩, p⟩ := p.ite
  have hz : (xs.zip vs).length ≤ sizeLine := by rw [List.length_zip, ← r.length, Nat.min_self]; exact hsz
  refine sorted_gen (bs := xs.zip vs) hz (fun E' R k => hcol E' R fun us h' tk kk rv => k us h' tk kk (each_zip r rv) (each_vw r ok.1 (r.vw I rv))) (by rw [zip_fst r]; exact ok) (by omega) fun h1 h' tk q out n k1 k2 hq hn eo => ?_
  have I1 : Inv X pins st H { s with heap := h1, toks := tk } := I.kept k1
  have rs := sort_zip r
  have hlen : (((xs.zip vs).mergeSort fun x y => leD x.1 y.1).map (·.2)).length ≤ sizeLine := by
    rw [List.length_map, (List.mergeSort_perm _ _).length_eq]
    exact hz
  exact ⟨.ref q, upd H q (.lst (((xs.zip vs).mergeSort fun x y => leD x.1 y.1).map (·.2))), I1.laid (t' := tk) k2 hq ⟨hlen, out, n, each_vals eo, hn⟩, rfl, p.newL S rs (I1.hok.fresh hq)⟩
theorem keysD_reps {G : Gx} {Z : Addr → Prop} {as : List Addr} {H : Hp} : ∀ {ds : List (Key × D)} {vs : List (Key × V)}, RepK G Z as H ds vs → Reps G Z as H (keysD ds) (vs.map fun kv => kV kv.1)
  | _, _, .nil => .nil
  | _, _, @RepK.cons _ _ _ _ k _ _ _ _ r q => by
    refine .cons ?_ (keysD_reps q)
    cases k with
    | inl i => exact .int i
    | inr x => exact .str x
theorem reps_keyV (G : Gx) (Z : Addr → Prop) (as : List Addr) (H : Hp) : ∀ l : List Key, Reps G Z as H (l.map ofKey) (l.map kV)
  | [] => .nil
  | .inl i :: l => .cons (.int i) (reps_keyV G Z as H l)
  | .inr x :: l => .cons (.str x) (reps_keyV G Z as H l)
theorem zip_keys : ∀ {l : List Key}, (l.map ofKey).zip (l.map kV) = l.map fun k => (ofKey k, kV k)
  | [] => rfl
  | k :: l => by simp only [List.map_cons, List.zip_cons_cons, zip_keys]
theorem plainL_mem : ∀ {xs : List D}, plainL xs = true ↔ ∀ d ∈ xs, plainB d = true
  | [] => by simp [plainL]
  | x :: xs => by simp [plainL, plainL_mem (xs := xs)]
theorem sortOk_perm {xs ys : List D} (p : xs.Perm ys) (ok : sortOk ys) : sortOk xs := by
  obtain ⟨h1, h2, h3, h4⟩ := ok
  have m : ∀ d ∈ xs.map toP, d ∈ ys.map toP := fun d q => (p.map toP).mem_iff.mp q
  refine ⟨plainL_mem.mpr fun d q => plainL_mem.mp h1 d (p.mem_iff.mp q), fun d q d' q' => h2 d (m d q) d' (m d' q'), ?_, fun d q => h4 d (p.mem_iff.mp q)⟩
  rcases h3 with h3 | h3
  · exact .inl fun d q => h3 d (m d q)
  · exact .inr fun d q => h3 d (m d q)
theorem each_keys {R : Value → D × V → Prop} : ∀ {vs : List Value}, (∀ v ∈ vs, ∃ k, RelV (kV k) v) → (∀ k v, RelV (kV k) v → R v (ofKey k, kV k)) → PySem.W.EachIs R vs ((vs.map kyV).map fun k => (ofKey k, kV k))
  | [], _, _ => .nil
  | v :: vs, h, f => by
    obtain ⟨k, r⟩ := h v (List.mem_cons_self ..)
    refine .cons ?_ (each_keys (fun u m => h u (List.mem_cons_of_mem _ m)) f)
    rw [kyV_of r]
    exact f k v r
theorem call_sortedN {mu : Bool} (hc : X.calm = true) (hu : X.A.units + 64 < cLine) : CallR X (.builtin "sorted") (rBs (gx X) mu sortedD) := by
  intro pins s st H vs us Q I r z
  obtain ⟨Z, as, h, ds, S, rs, p⟩ := z
  unfold sortedD at p
  split at p
  · next d =>
    obtain ⟨v, rfl, rv⟩ := one_of rs rfl
    obtain ⟨u, rfl, ru⟩ := vals1 r
    split at p
    · next xs e =>
      obtain ⟨a, ws, rfl, h1, h2⟩ := asS_rep S rv e
      cases ru
      have hx : ∃ (T : String) (o : Obj) (its : List Value) (n : Nat), (T = "list" ∨ T = "tuple") ∧ s.heap.get? a = some o ∧ o.cls = .type T ∧ o.data = .seq its.toArray n ∧ Vals ws its ∧ its.length ≤ sizeLine := by
        rcases h1 with h1 | h1
        · obtain ⟨its, q1, q2, q3⟩ := I.list (SqL.of h1)
          obtain ⟨o, g1, g2, n, g3⟩ := q2.isList
          exact ⟨_, o, its, n, .inl rfl, g1, g2, g3, q1, by rw [← q1.length]; exact q3⟩
        · obtain ⟨its, q1, q2, q3⟩ := I.tuple h1.sq
          obtain ⟨o, g1, g2, n, g3⟩ := q2
          exact ⟨_, o, its, n, .inr rfl, g1, g2, g3, q1, by rw [← q1.length]; exact q3⟩
      obtain ⟨T, o, its, n, hT, g1, g2, g3, g4, g5⟩ := hx
      refine sorted_end hu I S h2 (fun E' R k => ?_) p
      exact wpAny_collect_seq a hT g1 g2 g3 (fun h' kk => k its h' s.toks kk g4) (by simpa using g5)
    · split at p
      · next kvs e =>
        obtain ⟨a, ws, rfl, h1, h2⟩ := asK_rep S rv e
        cases ru
        obtain ⟨z, lo, kv, rel, dd⟩ := dk_rd I.hok h1
        obtain ⟨ep, hat⟩ := dd.dictAt
        have p0 := p
        unfold sortR at p0
        obtain ⟨⟨ok, hsz⟩, _⟩ := p0.ite
        have hk : kv.map (·.1) = ws.map (·.1) := rel.keys.symm
        have hl : kv.length = kvs.length := by
          have e1 := congrArg List.length hk
          rw [List.length_map, List.length_map] at e1
          rw [e1, h2.length]
        have hkl : (keysD kvs).length = kvs.length := by unfold keysD; rw [List.length_map]
        have hkv : kv.map (fun p => kV p.1) = ws.map fun p => kV p.1 := by
          have e1 := congrArg (List.map kV) hk
          rwa [List.map_map, List.map_map] at e1
        refine sorted_end hu I S (keysD_reps h2) (fun E' R k => ?_) p
        refine PySem.W.kdu_collect (A := X.A.in1) (PySem.W.kdl_dict (knd := mixKind X.prog X.w) (kvs := kv) (ep := ep) lo) (I.ok.hd hc) hat (by omega) fun h' tk acc hk2 hacc => ?_
        refine k _ h' tk hk2 ?_
        rw [← hkv]
        exact keys_at (by rw [Array.length_toList, hacc.1]) fun j v e => by
          obtain ⟨kk, x, e1, e2⟩ := hacc.2 j v (by rw [← Array.getElem?_toList]; exact e)
          exact ⟨kk, x, e1, e2⟩
      · split at p
        · next ks _ _ =>
          cases rv with
          | @set a _ g1 g2 g3 g4 =>
            cases ru
            unfold sortR at p
            obtain ⟨⟨ok, hsz⟩, p⟩ := p.ite
            rw [List.length_map] at hsz
            obtain ⟨es, ⟨o, ep, t, go, ex, od, W⟩, hs, pm, zs⟩ := setQ_get I g1
            refine sorted_genS (fun bs => ∃ l : List Key, l.Perm ks ∧ bs = l.map fun k => (ofKey k, kV k)) (fun E' R k => ?_) (fun bs hb => ?_) (by omega) fun bs s1 h' q out n hb k1 hz eg eo k2 hq hn e => ?_
            · refine collect_set (A := X.A.in1) (I.ok.hd hc) ⟨o, go, ex.1, od⟩ W.fit zs W.ris W.led fun s1 vs k1 hz eg eo pv => ?_
              have hv : ∀ v ∈ vs, ∃ k, RelV (kV k) v := fun v m => by
                obtain ⟨e, me, rfl⟩ := List.mem_map.mp (pv.mem_iff.mp m)
                obtain ⟨k, r, _⟩ := hs e me
                exact ⟨k, r⟩
              have pl : (vs.map kyV).Perm ks := by
                have := pv.map kyV
                rw [List.map_map] at this
                exact this.trans pm
              refine k vs _ s1 ⟨vs.map kyV, pl, rfl⟩ k1 hz eg eo ?_ ?_
              · exact each_keys hv fun k v r => r
              · refine each_keys hv fun k v r => ?_
                cases k with
                | inl i => obtain ⟨t, rfl⟩ := r; exact ⟨_, .int i t⟩
                | inr x => obtain ⟨t, rfl⟩ := r; exact ⟨_, .str x t⟩
            · obtain ⟨l, pl, rfl⟩ := hb
              refine ⟨by rw [List.length_map, pl.length_eq]; exact hsz, ?_⟩
              rw [List.map_map]
              exact sortOk_perm (pl.map ofKey) ok
            · obtain ⟨l, pl, rfl⟩ := hb
              have hqs : s.heap.objs.size ≤ q := Nat.le_trans hz hq
              have kh : ∀ b o, s.heap.get? b = some o → h'.get? b = some o := fun b o e => k2 b o (k1 b o e)
              have nn : H q = none := I.hok.fresh hqs
              have hlen : (((l.map fun k => (ofKey k, kV k)).mergeSort fun x y => leD x.1 y.1).map (·.2)).length ≤ sizeLine := by
                rw [List.length_map, (List.mergeSort_perm _ _).length_eq, List.length_map, pl.length_eq]
                exact hsz
              have J : Inv X pins st (upd H q (.lst (((l.map fun k => (ofKey k, kV k)).mergeSort fun x y => leD x.1 y.1).map (·.2)))) { s with heap := h', gens := s1.gens, drawn := s1.drawn, toks := s1.toks } :=
                I.call (ch := []) (Un.laid kh hqs nn) (I.hok.laid kh hqs ⟨hlen, out, n, each_vals e, hn⟩) (by rw [eg]; exact I.bare) (fun _ z => nomatch z)
              have es1 : ({ s1 with heap := h' } : Shared) = { s with heap := h', gens := s1.gens, drawn := s1.drawn, toks := s1.toks } := by
                rw [← eo]
              refine ⟨.ref q, _, by rw [es1]; exact J, rfl, ?_⟩
              have rr := sort_zip (reps_keyV (gx X) Z as H l)
              rw [zip_keys, sort_keys pl] at rr
              exact p.newL S rr nn
        · exact PR.none_of p
  · exact PR.none_of p
end
end Dk
end S_DkN
end
section
set_option Elab.async false
set_option linter.all false
set_option maxRecDepth 100000
set_option maxHeartbeats 4000000
/-! DkO: built-in functions. -/
noncomputable section S_DkO
namespace Dk
open PySem PySem.Spec PyProof.Rows L2
open Classical
/-- the built-in class of a value -/
def tyN (h : Hd) : D → Option String
  | .non => some "NoneType"
  | .bl _ => some "bool"
  | .int _ => some "int"
  | .str _ => some "str"
  | .tup _ => some "tuple"
  | .lst _ => some "list"
  | .dct _ => some "dict"
  | .scr _ => some "list"
  | .ref n => match h[n]? with
    | some (.lst _) => some "list"
    | some (.dct _) => some "dict"
    | _ => none
  | _ => none
def tyAll : List String := ["int", "str", "bool", "tuple", "list", "dict"]
def isB (t n : String) : Bool := t == n || (t == "bool" && n == "int")
def isOne (h : Hd) (x c : D) : Option Bool := match tyN h x, c with
  | some t, .ty n => if n ∈ tyAll then some (isB t n) else none
  | _, _ => none
def isAny (h : Hd) (x : D) : List D → Option Bool
  | [] => some false
  | c :: cs => match isOne h x c with
    | some true => some true
    | some false => isAny h x cs
    | none => none
def blR (b : Option Bool) : Option Res := b.map fun c => .v (.bl c)
def isiD (h : Hd) : List D → Option Res
  | [x, .ty n] => blR (isOne h x (.ty n))
  | [x, .tup cs] => (match tyN h x with
    | some _ => blR (isAny h x cs)
    | none => none)
  | _ => none
theorem kitB_all {t n : String} (ht : t ∈ ["NoneType", "bool", "int", "str", "tuple", "list", "dict"]) (hn : n ∈ tyAll) : kitB t n = some (isB t n) := by
  have k : ∀ t ∈ ["NoneType", "bool", "int", "str", "tuple", "list", "dict"], ∀ n ∈ tyAll, kitB t n = some (isB t n) := by
    unfold tyAll
    intro t ht n hn
    simp only [List.mem_cons, List.not_mem_nil, or_false] at ht hn
    rcases ht with rfl | rfl | rfl | rfl | rfl | rfl | rfl <;> rcases hn with rfl | rfl | rfl | rfl | rfl | rfl <;> decide +kernel
  exact k t ht n hn
section
variable {X : Cx} {Z : Addr → Prop} {as : List Addr} {h : Hd} {H : Hp}
theorem ty_of (S : Sim (gx X) Z as h H) {x : D} {v : V} {t : String} (r : Rep (gx X) Z as H x v) (e : tyN h x = some t) : TyX X.K H v (.type t) ∧ t ∈ ["NoneType", "bool", "int", "str", "tuple", "list", "dict"] := by
  cases r with
  | non => cases e; exact ⟨.base .non, by simp⟩
  | bl b => cases e; exact ⟨.base (.bl b), by simp⟩
  | int i => cases e; exact ⟨.base (.int i), by simp⟩
  | str z => cases e; exact ⟨.base (.str z), by simp⟩
  | tup e1 q =>
    cases e
    refine ⟨?_, by simp⟩
    rcases e1 with ⟨o, e1, _⟩ | ⟨o, its, n, e1, e2, _⟩
    · exact .fTuple e1
    · exact .kTuple e1 e2
  | lst e1 _ _ _ => cases e; exact ⟨.base (.lst e1), by simp⟩
  | dct e1 _ _ _ =>
    cases e
    refine ⟨?_, by simp⟩
    rcases e1 with e1 | ⟨b, e1⟩
    · exact .base (.dK e1)
    · exact .fDict e1
  | scr e1 =>
    cases e
    refine ⟨?_, by simp⟩
    rcases e1 with ⟨o, e1⟩ | ⟨o, its, n, e1, e2, _⟩
    · exact .base (.frz e1)
    · exact .kList e1 e2
  | @ref a n e1 =>
    unfold tyN at e
    dsimp only at e
    cases q : h[n]? with
    | none => rw [q] at e; cases e
    | some o =>
      rw [q] at e
      cases o with
      | lst xs =>
        cases e
        cases S.ob n _ a q e1 with
        | lst e2 _ => exact ⟨.base (.lst e2), by simp⟩
      | dct xs =>
        cases e
        cases S.ob n _ a q e1 with
        | dct e2 _ => exact ⟨.base (.dK e2), by simp⟩
      | ins _ _ => cases e
  | _ => cases e
theorem one_ty {x c : D} {b : Bool} (e : isOne h x c = some b) : ∃ t n, tyN h x = some t ∧ c = .ty n ∧ n ∈ tyAll ∧ b = isB t n := by
  unfold isOne at e
  cases q : tyN h x with
  | none => rw [q] at e; cases e
  | some t =>
    cases c with
    | ty n =>
      rw [q] at e
      dsimp only at e
      obtain ⟨h1, h2⟩ := some_ite e
      exact ⟨t, n, rfl, rfl, h1, h2.symm⟩
    | _ => rw [q] at e; cases e
theorem any_ty {G : Gx} {x : D} {t : String} (et : tyN h x = some t) (ht : t ∈ ["NoneType", "bool", "int", "str", "tuple", "list", "dict"]) : ∀ {cs : List D} {vs : List V} {us : List Value} {b : Bool}, Reps G Z as H cs vs → Vals vs us → isAny h x cs = some b → PySem.W.kitAny X.K (.type t) us = some b
  | _, _, _, _, .nil, r, e => by cases r; exact e
  | _, _, _, b, @Reps.cons _ _ _ _ c cs v vs q1 q2, r, e => by
    cases r with
    | cons r1 r2 =>
      unfold isAny at e
      cases e1 : isOne h x c with
      | none => rw [e1] at e; cases e
      | some k =>
        rw [e1] at e
        obtain ⟨t', n, e2, rfl, hn, rfl⟩ := one_ty e1
        rw [et] at e2
        cases e2
        cases q1
        cases r1
        refine kitAny_cons (kit_ty (kitB_all ht hn)) (fun hb => ?_) fun hb => ?_
        · rw [hb] at e
          exact any_ty et ht q2 r2 e
        · rw [hb] at e
          cases e
          rfl
theorem call_isiN {mu : Bool} : CallR X (.builtin "isinstance") (rBs (gx X) mu isiD) := by
  intro pins s st H vs us Q I r z
  obtain ⟨Z, as, h, ds, S, rs, p⟩ := z
  unfold isiD at p
  split at p
  · next x n =>
    obtain ⟨v, v', rfl, r1, r2⟩ := two_of rs rfl
    cases e : isOne h x (.ty n) with
    | none => rw [e] at p; exact PR.none_of p
    | some b =>
      rw [e] at p
      obtain ⟨t, n', et, ec, hn, rfl⟩ := one_ty e
      cases ec
      obtain ⟨h1, h2⟩ := ty_of S r1 et
      cases r2
      exact call_isi pins s st H _ us Q I r ⟨v, _, _, _, _, rfl, .ty n, h1, kit_ty (kitB_all h2 hn), PR.here p S (.bl _)⟩
  · next x cs =>
    obtain ⟨v, v', rfl, r1, r2⟩ := two_of rs rfl
    obtain ⟨u1, u2, rfl, ru1, ru2⟩ := vals2 r
    cases et : tyN h x with
    | none => simp only [et] at p; exact PR.none_of p
    | some t =>
      simp only [et] at p
      cases e : isAny h x cs with
      | none => rw [e] at p; exact PR.none_of p
      | some b =>
        rw [e] at p
        cases r2 with
        | @tup a ws _ ta q =>
          cases ru2
          obtain ⟨its, q1, ⟨⟨oc, od, dt, sl⟩, g1, g2, n, g3⟩, q3⟩ := I.tuple ta.sq
          simp only at g2 g3
          subst g2 g3
          obtain ⟨h1, h2⟩ := ty_of S r1 et
          obtain ⟨P, K, p1, hx⟩ := kit_of I ru1 h1
          exact PySem.W.kia_tup K I.kIn p1 g1 (any_ty et h2 q q1 e) hx fun tk => ⟨.bl b, H, I.tok tk, rfl, PR.here p S (.bl _)⟩
  · exact PR.none_of p
end
end Dk
end S_DkO
end
section
set_option Elab.async false
set_option linter.all false
set_option maxRecDepth 100000
set_option maxHeartbeats 4000000
/-! DkP: more built-in functions. -/
noncomputable section S_DkP
namespace Dk
open PySem PySem.Spec PyProof.Rows L2
open Classical
def intsD : List D → Option (List Int)
  | [] => some []
  | d :: ds => match asI d, intsD ds with
    | some i, some is => some (i :: is)
    | _, _ => none
def asB : D → Option Bool
  | .bl b => some b
  | _ => none
def blsD : List D → Option (List Bool)
  | [] => some []
  | d :: ds => match asB d, blsD ds with
    | some i, some is => some (i :: is)
    | _, _ => none
theorem asB_some {d : D} {i : Bool} (e : asB d = some i) : d = .bl i := by
  cases d <;> first | (cases e; rfl) | cases e
theorem intsD_eq : ∀ {ds : List D} {is : List Int}, intsD ds = some is → ds = is.map D.int
  | [], _, e => by cases e; rfl
  | d :: ds, _, e => by
    unfold intsD at e
    cases q : asI d with
    | none => simp only [q] at e; cases e
    | some i =>
      cases q2 : intsD ds with
      | none => simp only [q, q2] at e; cases e
      | some is => simp only [q, q2] at e; cases e; rw [asI_some q, intsD_eq q2]; rfl
theorem blsD_eq : ∀ {ds : List D} {is : List Bool}, blsD ds = some is → ds = is.map D.bl
  | [], _, e => by cases e; rfl
  | d :: ds, _, e => by
    unfold blsD at e
    cases q : asB d with
    | none => simp only [q] at e; cases e
    | some i =>
      cases q2 : blsD ds with
      | none => simp only [q, q2] at e; cases e
      | some is => simp only [q, q2] at e; cases e; rw [asB_some q, blsD_eq q2]; rfl
@[simp] theorem intsD_map : ∀ is : List Int, intsD (is.map D.int) = some is
  | [] => rfl
  | i :: is => by rw [List.map_cons, intsD, intsD_map is]; rfl
@[simp] theorem blsD_map : ∀ is : List Bool, blsD (is.map D.bl) = some is
  | [] => rfl
  | i :: is => by rw [List.map_cons, blsD, blsD_map is]; rfl
def maxI : List Int → Int
  | [] => 0
  | i :: is => is.foldl max i
def minI : List Int → Int
  | [] => 0
  | i :: is => is.foldl min i
theorem foldl_max : ∀ (is : List Int) (i : Int), i ≤ is.foldl max i ∧ (∀ j ∈ is, j ≤ is.foldl max i) ∧ (is.foldl max i = i ∨ is.foldl max i ∈ is)
  | [], i => ⟨Int.le_refl _, (fun _ m => by cases m), .inl rfl⟩
  | j :: is, i => by
    obtain ⟨h1, h2, h3⟩ := foldl_max is (max i j)
    rw [List.foldl_cons]
    refine ⟨by omega, fun k m => ?_, ?_⟩
    · rcases List.mem_cons.mp m with e | m
      · omega
      · exact h2 k m
    · rcases h3 with e | e
      · by_cases c : i ≤ j
        · exact .inr (by rw [e]; simp; left; omega)
        · exact .inl (by omega)
      · exact .inr (List.mem_cons_of_mem _ e)
theorem foldl_min : ∀ (is : List Int) (i : Int), is.foldl min i ≤ i ∧ (∀ j ∈ is, is.foldl min i ≤ j) ∧ (is.foldl min i = i ∨ is.foldl min i ∈ is)
  | [], i => ⟨Int.le_refl _, (fun _ m => by cases m), .inl rfl⟩
  | j :: is, i => by
    obtain ⟨h1, h2, h3⟩ := foldl_min is (min i j)
    rw [List.foldl_cons]
    refine ⟨by omega, fun k m => ?_, ?_⟩
    · rcases List.mem_cons.mp m with e | m
      · omega
      · exact h2 k m
    · rcases h3 with e | e
      · by_cases c : j ≤ i
        · exact .inr (by rw [e]; simp; left; omega)
        · exact .inl (by omega)
      · exact .inr (List.mem_cons_of_mem _ e)
theorem maxI_mem {is : List Int} (h : 0 < is.length) : maxI is ∈ is ∧ ∀ j ∈ is, j ≤ maxI is := by
  cases is with
  | nil => simp at h
  | cons i is =>
    obtain ⟨h1, h2, h3⟩ := foldl_max is i
    show is.foldl max i ∈ _ ∧ ∀ j ∈ i :: is, j ≤ is.foldl max i
    refine ⟨?_, fun j m => ?_⟩
    · rcases h3 with e | e
      · rw [e]; exact List.mem_cons_self ..
      · exact List.mem_cons_of_mem _ e
    · rcases List.mem_cons.mp m with e | m
      · rw [e]; exact h1
      · exact h2 j m
theorem minI_mem {is : List Int} (h : 0 < is.length) : minI is ∈ is ∧ ∀ j ∈ is, minI is ≤ j := by
  cases is with
  | nil => simp at h
  | cons i is =>
    obtain ⟨h1, h2, h3⟩ := foldl_min is i
    show is.foldl min i ∈ _ ∧ ∀ j ∈ i :: is, is.foldl min i ≤ j
    refine ⟨?_, fun j m => ?_⟩
    · rcases h3 with e | e
      · rw [e]; exact List.mem_cons_self ..
      · exact List.mem_cons_of_mem _ e
    · rcases List.mem_cons.mp m with e | m
      · rw [e]; exact h1
      · exact h2 j m
/-! ### what they give -/
def absD (_ : Hd) : List D → Option Res
  | [.int i] => some (.v (.int i.natAbs))
  | _ => none
def lenD (h : Hd) : List D → Option Res
  | [d] => (match asS h d with
    | some xs => some (.v (.int xs.length))
    | none => match d with
      | .str x => if x.length ≤ sizeLine then some (.v (.int x.length)) else none
      | .scr ns => some (.v (.int ns.length))
      | _ => none)
  | _ => none
def intD (_ : Hd) : List D → Option Res
  | [.int i] => some (.v (.int i))
  | [.bl b] => some (.v (.int (if b then 1 else 0)))
  | _ => none
def strD (_ : Hd) : List D → Option Res
  | [.int i] => if i.natAbs.log2 < 1920 then some (.v (.str (Str.ofString (toString i)))) else none
  | [.str x] => some (.v (.str x))
  | _ => none
def tupD (h : Hd) : List D → Option Res
  | [d] => (match asS h d with
    | some xs => some (.v (.tup xs))
    | none => none)
  | _ => none
def lstD (h : Hd) : List D → Option Res
  | [d] => (match asS h d with
    | some xs => some (.l xs)
    | none => match asK h d with
      | some kvs => some (.l (keysD kvs))
      | none => none)
  | _ => none
def dctC (h : Hd) : List D → Option Res
  | [d] => (match asK h d with
    | some kvs => some (.d kvs)
    | none => none)
  | _ => none
def maxD (h : Hd) : List D → Option Res
  | [.int i, .int j] => some (.v (.int (max i j)))
  | [d] => (match asL h d with
    | some xs => (match intsD xs with
      | some is => if 0 < is.length then some (.v (.int (maxI is))) else none
      | none => none)
    | none => none)
  | _ => none
def asT : D → Option Str
  | .str x => some x
  | _ => none
theorem asT_some {d : D} {i : Str} (e : asT d = some i) : d = .str i := by
  cases d <;> first | (cases e; rfl) | cases e
def strsD : List D → Option (List Str)
  | [] => some []
  | d :: ds => match asT d, strsD ds with
    | some i, some is => some (i :: is)
    | _, _ => none
theorem strsD_eq : ∀ {ds : List D} {is : List Str}, strsD ds = some is → ds = is.map D.str
  | [], _, e => by cases e; rfl
  | d :: ds, _, e => by
    unfold strsD at e
    cases q : asT d with
    | none => simp only [q] at e; cases e
    | some i =>
      cases q2 : strsD ds with
      | none => simp only [q, q2] at e; cases e
      | some is => simp only [q, q2] at e; cases e; rw [asT_some q, strsD_eq q2]; rfl
@[simp] theorem strsD_map : ∀ is : List Str, strsD (is.map D.str) = some is
  | [] => rfl
  | i :: is => by rw [List.map_cons, strsD, strsD_map is]; rfl
theorem reps_str {G : Gx} {Z : Addr → Prop} {as : List Addr} {H : Hp} : ∀ {is : List Str} {vs : List V}, Reps G Z as H (is.map D.str) vs → vs = is.map V.str
  | [], _, .nil => rfl
  | _ :: _, _, .cons r q => by cases r; rw [reps_str q]; rfl
/-- the least of the first ones -/
def minTo (val : Nat → Str) : Nat → Str
  | 0 => val 0
  | k + 1 => if strLt (val (k + 1)) (minTo val k) then val (k + 1) else minTo val k
def atS (ys : List Str) (i : Nat) : Str := (ys[i]?).getD ⟨#[]⟩
theorem argBest_min (val : Nat → Str) : ∀ k, val (PySem.argBest (fun i j => strLt (val i) (val j)) k) = minTo val k
  | 0 => rfl
  | k + 1 => by
    have ih := argBest_min val k
    unfold PySem.argBest minTo
    rw [← ih]
    split <;> rfl
theorem cmp_strs {prog : Program} {w : World} {A : Around} {P : Nat → Value → Prop} (val : Nat → Str) (hval : ∀ i v, P i v → ∃ t, v = .str (val i) t) :
    PySem.CmpOf prog w A .Lt P (fun i j => strLt (val i) (val j)) := fun i j vi vj s Q E hi hj h => by
  obtain ⟨t, rfl⟩ := hval i vi hi
  obtain ⟨u, rfl⟩ := hval j vj hj
  exact PySem.richCompare_gives (op := .Lt) (typeIs_str s _ t) (typeIs_str s _ u) F.slot_str_lt F.entry_str_lt (F.args_str_lt_2 _ _) (gives_str_lt _ _ t u) (fun x => nomatch x) h
theorem min_strs {prog : Program} {w : World} {A : Around} {E : Value → Shared → Prop} {s : Shared} {l : Addr} {its : Array Value} {Q : Value → Shared → Prop} (val : Nat → Str) (hh : A.handled = none) (hl : s.heap.IsList l its) (hne : 0 < its.size) (hval : ∀ (i : Nat) (v : Value), its[i]? = some v → ∃ t, v = Value.str (val i) t)
    (h : ∀ t h' tk, (∀ b o, s.heap.get? b = some o → h'.get? b = some o) → Q (.str (minTo val (its.size - 1)) t) { s with heap := h', toks := tk }) :
    wpAny (model prog w) A (call (.builtin "min") [.ref l]) Q E s := by
  have hlt : l < s.heap.objs.size := by obtain ⟨_, e, _⟩ := hl; exact Heap.lt_size e
  refine PySem.call_min_walk (wpAny_pyIter_list hl ?_)
  refine ⟨_, [_, l], [_], _, _, _, _, rfl, Walks.list (A := A.in1) hh _ l (Nat.ne_of_lt hlt) its, ⟨⟨_, Heap.get?_push_size _ rfl, rfl, rfl⟩, hl.push _⟩, fun b hb => ?_, hne, cmp_strs val hval, fun v h' tk hP hk => ?_⟩
  · show b < (s.heap.push _).objs.size
    rw [Heap.size_push]
    rcases List.mem_cons.mp hb with rfl | hb
    · exact Nat.lt_succ_self _
    · rcases List.mem_cons.mp hb with rfl | hb
      · exact Nat.lt_succ_of_lt hlt
      · cases hb
  · obtain ⟨t, rfl⟩ := hval _ v hP
    rw [argBest_min val]
    exact h t h' tk (old_kept hk)
def minD (h : Hd) : List D → Option Res
  | [.int i, .int j] => some (.v (.int (min i j)))
  | [d] => (match asL h d with
    | some xs => (match intsD xs with
      | some is => if 0 < is.length then some (.v (.int (minI is))) else none
      | none => (match strsD xs with
        | some ys => if 0 < ys.length then some (.v (.str (minTo (atS ys) (ys.length - 1)))) else none
        | none => none))
    | none => none)
  | _ => none
def sumD (h : Hd) : List D → Option Res
  | [d] => (match asL h d with
    | some xs => (match intsD xs with
      | some is => some (.v (.int is.sum))
      | none => none)
    | none => none)
  | _ => none
def anyD (h : Hd) : List D → Option Res
  | [d] => (match asL h d with
    | some xs => (match blsD xs with
      | some is => some (.v (.bl (is.any id)))
      | none => none)
    | none => none)
  | _ => none
def allD (h : Hd) : List D → Option Res
  | [d] => (match asL h d with
    | some xs => (match blsD xs with
      | some is => some (.v (.bl (is.all id)))
      | none => none)
    | none => none)
  | _ => none
section
variable {X : Cx}
theorem reps_int {G : Gx} {Z : Addr → Prop} {as : List Addr} {H : Hp} : ∀ {is : List Int} {vs : List V}, Reps G Z as H (is.map D.int) vs → vs = is.map V.int
  | [], _, .nil => rfl
  | _ :: _, _, .cons r q => by cases r; rw [reps_int q]; rfl
theorem reps_bl {G : Gx} {Z : Addr → Prop} {as : List Addr} {H : Hp} : ∀ {is : List Bool} {vs : List V}, Reps G Z as H (is.map D.bl) vs → vs = is.map V.bl
  | [], _, .nil => rfl
  | _ :: _, _, .cons r q => by cases r; rw [reps_bl q]; rfl
theorem call_absN {mu : Bool} : CallR X (.builtin "abs") (rBs (gx X) mu absD) := by
  intro pins s st H vs us Q I r z
  obtain ⟨Z, as, h, ds, S, rs, p⟩ := z
  unfold absD at p
  split at p
  · next i =>
    obtain ⟨v, rfl, rv⟩ := one_of rs rfl
    cases rv
    refine call_abs pins s st H _ us Q I r ⟨i, rfl, ?_⟩
    have e : (if i < 0 then -i else i) = (i.natAbs : Int) := by split <;> omega
    rw [e]
    exact PR.here p S (.int _)
  · exact PR.none_of p
theorem call_lenN {mu : Bool} : CallR X (.builtin "len") (rBs (gx X) mu lenD) := by
  intro pins s st H vs us Q I r z
  obtain ⟨Z, as, h, ds, S, rs, p⟩ := z
  unfold lenD at p
  split at p
  · next d =>
    obtain ⟨v, rfl, rv⟩ := one_of rs rfl
    split at p
    · next xs e =>
      obtain ⟨a, ws, rfl, h1, h2⟩ := asS_rep S rv e
      refine call_len pins s st H _ us Q I r ⟨_, xs.length, rfl, ?_, PR.here p S (.int _)⟩
      rcases h1 with h1 | h1
      · exact .inl ⟨ws, SqL.of h1, h2.length⟩
      · exact .inr ⟨ws, h1.sq, h2.length⟩
    · split at p
      · next x _ =>
        obtain ⟨hz, p⟩ := p.ite
        cases rv
        exact call_len pins s st H _ us Q I r ⟨_, x.length, rfl, ⟨hz, rfl⟩, PR.here p S (.int _)⟩
      · next ns _ =>
        cases rv with
        | scr e1 => exact call_len pins s st H _ us Q I r ⟨_, ns.length, rfl, .inl ⟨_, e1.sq, by rw [List.length_map]⟩, PR.here p S (.int _)⟩
      · exact PR.none_of p
  · exact PR.none_of p
theorem call_intN {mu : Bool} : CallR X (.type "int") (rBs (gx X) mu intD) := by
  intro pins s st H vs us Q I r z
  obtain ⟨Z, as, h, ds, S, rs, p⟩ := z
  unfold intD at p
  split at p
  · next i =>
    obtain ⟨v, rfl, rv⟩ := one_of rs rfl
    cases rv
    exact call_int1 pins s st H _ us Q I r (.inl ⟨i, rfl, PR.here p S (.int _)⟩)
  · next b =>
    obtain ⟨v, rfl, rv⟩ := one_of rs rfl
    cases rv
    exact call_int1 pins s st H _ us Q I r (.inr ⟨b, rfl, PR.here p S (.int _)⟩)
  · exact PR.none_of p
theorem call_strN {mu : Bool} : CallR X (.type "str") (rBs (gx X) mu strD) := by
  intro pins s st H vs us Q I r z
  obtain ⟨Z, as, h, ds, S, rs, p⟩ := z
  unfold strD at p
  split at p
  · next i =>
    obtain ⟨v, rfl, rv⟩ := one_of rs rfl
    cases rv
    obtain ⟨hz, p⟩ := p.ite
    exact call_str_int pins s st H _ us Q I r ⟨i, rfl, hz, PR.here p S (.str _)⟩
  · next x =>
    obtain ⟨v, rfl, rv⟩ := one_of rs rfl
    cases rv
    exact SkE.call_str_str pins s st H _ us Q I r ⟨x, rfl, PR.here p S (.str _)⟩
  · exact PR.none_of p
theorem call_tupN {mu : Bool} : CallR X (.type "tuple") (rBs (gx X) mu tupD) := by
  intro pins s st H vs us Q I r z
  obtain ⟨Z, as, h, ds, S, rs, p⟩ := z
  unfold tupD at p
  split at p
  · next d =>
    obtain ⟨v, rfl, rv⟩ := one_of rs rfl
    split at p
    · next xs e =>
      obtain ⟨a, ws, rfl, h1, h2⟩ := asS_rep S rv e
      refine call_tupleN pins s st H _ us Q I r ⟨a, ws, rfl, ?_⟩
      rcases h1 with h1 | h1
      · exact .inl ⟨SqL.of h1, p.newT S h2⟩
      · exact .inr ⟨h1.sq, PR.here p S (.tup h1 h2)⟩
    · exact PR.none_of p
  · exact PR.none_of p
theorem call_lstN {mu : Bool} (hc : X.calm = true) : CallR X (.type "list") (rBs (gx X) mu lstD) := by
  intro pins s st H vs us Q I r z
  obtain ⟨Z, as, h, ds, S, rs, p⟩ := z
  unfold lstD at p
  split at p
  · next d =>
    obtain ⟨v, rfl, rv⟩ := one_of rs rfl
    split at p
    · next xs e =>
      obtain ⟨a, ws, rfl, h1, h2⟩ := asS_rep S rv e
      refine call_list_of pins s st H _ us Q I r ⟨a, ws, rfl, ?_, fun l hl => p.newL S h2 hl⟩
      rcases h1 with h1 | h1
      · exact .inl (SqL.of h1)
      · exact .inr h1.sq
    · split at p
      · next kvs e =>
        obtain ⟨a, ws, rfl, h1, h2⟩ := asK_rep S rv e
        exact call_listD hc pins s st H _ us Q I r ⟨a, ws, rfl, h1, fun l hl => p.newL S (keysD_reps h2) hl⟩
      · exact PR.none_of p
  · exact PR.none_of p
theorem call_dctCN {mu : Bool} : CallR X (.type "dict") (rBs (gx X) mu dctC) := by
  intro pins s st H vs us Q I r z
  obtain ⟨Z, as, h, ds, S, rs, p⟩ := z
  unfold dctC at p
  split at p
  · next d =>
    obtain ⟨v, rfl, rv⟩ := one_of rs rfl
    split at p
    · next kvs e =>
      obtain ⟨a, ws, rfl, h1, h2⟩ := asK_rep S rv e
      exact call_dictD pins s st H _ us Q I r ⟨a, ws, rfl, h1, fun l hl => p.newD S h2 hl⟩
    · exact PR.none_of p
  · exact PR.none_of p
theorem ints_at {Z : Addr → Prop} {as : List Addr} {h : Hd} {H : Hp} {d : D} {v : V} {xs : List D} {is : List Int} (S : Sim (gx X) Z as h H) (rv : Rep (gx X) Z as H d v) (e : asL h d = some xs) (e2 : intsD xs = some is) : ∃ a, v = .ref a ∧ SqL X.K H a (is.map V.int) := by
  obtain ⟨a, ws, rfl, h1, h2⟩ := asL_rep S rv e
  rw [intsD_eq e2] at h2
  rw [reps_int h2] at h1
  exact ⟨a, rfl, SqL.of h1⟩
theorem bls_at {Z : Addr → Prop} {as : List Addr} {h : Hd} {H : Hp} {d : D} {v : V} {xs : List D} {is : List Bool} (S : Sim (gx X) Z as h H) (rv : Rep (gx X) Z as H d v) (e : asL h d = some xs) (e2 : blsD xs = some is) : ∃ a, v = .ref a ∧ SqL X.K H a (is.map V.bl) := by
  obtain ⟨a, ws, rfl, h1, h2⟩ := asL_rep S rv e
  rw [blsD_eq e2] at h2
  rw [reps_bl h2] at h1
  exact ⟨a, rfl, SqL.of h1⟩
theorem call_maxN {mu : Bool} (hc : X.calm = true) : CallR X (.builtin "max") (rBs (gx X) mu maxD) := by
  intro pins s st H vs us Q I r z
  obtain ⟨Z, as, h, ds, S, rs, p⟩ := z
  unfold maxD at p
  split at p
  · next i j =>
    obtain ⟨v, v', rfl, r1, r2⟩ := two_of rs rfl
    cases r1
    cases r2
    refine call_max2 hc pins s st H _ us Q I r ⟨i, j, rfl, ?_⟩
    have e : (if j > i then j else i) = max i j := by split <;> omega
    rw [e]
    exact PR.here p S (.int _)
  · next d =>
    obtain ⟨v, rfl, rv⟩ := one_of rs rfl
    split at p
    · next xs e =>
      split at p
      · next is e2 =>
        obtain ⟨hl, p⟩ := p.ite
        obtain ⟨a, rfl, h1⟩ := ints_at S rv e e2
        refine cr_max hc pins s st H _ us Q I r ⟨a, is, rfl, h1, hl, fun m h2 h3 => ?_⟩
        obtain ⟨g1, g2⟩ := maxI_mem hl
        have em : m = maxI is := Int.le_antisymm (g2 m h2) (h3 _ g1)
        rw [em]
        exact PR.here p S (.int _)
      · exact PR.none_of p
    · exact PR.none_of p
  · exact PR.none_of p
theorem call_minN {mu : Bool} (hc : X.calm = true) : CallR X (.builtin "min") (rBs (gx X) mu minD) := by
  intro pins s st H vs us Q I r z
  obtain ⟨Z, as, h, ds, S, rs, p⟩ := z
  unfold minD at p
  split at p
  · next i j =>
    obtain ⟨v, v', rfl, r1, r2⟩ := two_of rs rfl
    cases r1
    cases r2
    refine call_min2 hc pins s st H _ us Q I r ⟨i, j, rfl, ?_⟩
    have e : (if j < i then j else i) = min i j := by split <;> omega
    rw [e]
    exact PR.here p S (.int _)
  · next d =>
    obtain ⟨v, rfl, rv⟩ := one_of rs rfl
    split at p
    · next xs e =>
      split at p
      · next is e2 =>
        obtain ⟨hl, p⟩ := p.ite
        obtain ⟨a, rfl, h1⟩ := ints_at S rv e e2
        refine cr_min hc pins s st H _ us Q I r ⟨a, is, rfl, h1, hl, fun m h2 h3 => ?_⟩
        obtain ⟨g1, g2⟩ := minI_mem hl
        have em : m = minI is := Int.le_antisymm (h3 _ g1) (g2 m h2)
        rw [em]
        exact PR.here p S (.int _)
      · split at p
        · next ys e3 =>
          obtain ⟨hl, p⟩ := p.ite
          obtain ⟨a, ws, rfl, h1, h2⟩ := asL_rep S rv e
          rw [strsD_eq e3] at h2
          have e4 := reps_str h2
          subst e4
          obtain ⟨its, rv', hi, _⟩ := I.list (SqL.of h1)
          rw [Vals.ref1 r]
          have hlen := rv'.length
          rw [List.length_map] at hlen
          have hsz : its.toArray.size - 1 = ys.length - 1 := by rw [List.size_toArray]; omega
          refine min_strs (atS ys) (I.ok.hd hc) hi.isList (by rw [List.size_toArray]; omega) (fun i v q => ?_) fun t h' tk hk => ⟨.str _, H, I.kept hk, ⟨_, rfl⟩, by rw [hsz]; exact PR.here p S (.str _)⟩
          have hil : i < its.length := by
            have := (Array.getElem?_eq_some_iff.mp q).1
            simpa using this
          have q' : its[i]? = some v := by simpa using q
          obtain ⟨u, e5, ru⟩ := rv'.get (i := i) (x := V.str (ys[i]'(by omega))) (by rw [List.getElem?_map, List.getElem?_eq_getElem (by omega)]; rfl)
          rw [q'] at e5
          cases e5
          obtain ⟨t, rfl⟩ := ru
          refine ⟨t, ?_⟩
          unfold atS
          rw [List.getElem?_eq_getElem (by omega)]
          rfl
        · exact PR.none_of p
    · exact PR.none_of p
  · exact PR.none_of p
theorem call_sumN {mu : Bool} (hc : X.calm = true) : CallR X (.builtin "sum") (rBs (gx X) mu sumD) := by
  intro pins s st H vs us Q I r z
  obtain ⟨Z, as, h, ds, S, rs, p⟩ := z
  unfold sumD at p
  split at p
  · next d =>
    obtain ⟨v, rfl, rv⟩ := one_of rs rfl
    split at p
    · next xs e =>
      split at p
      · next is e2 =>
        obtain ⟨a, rfl, h1⟩ := ints_at S rv e e2
        exact cr_sum hc pins s st H _ us Q I r ⟨a, is, rfl, h1, PR.here p S (.int _)⟩
      · exact PR.none_of p
    · exact PR.none_of p
  · exact PR.none_of p
theorem call_anyN {mu : Bool} (hc : X.calm = true) : CallR X (.builtin "any") (rBs (gx X) mu anyD) := by
  intro pins s st H vs us Q I r z
  obtain ⟨Z, as, h, ds, S, rs, p⟩ := z
  unfold anyD at p
  split at p
  · next d =>
    obtain ⟨v, rfl, rv⟩ := one_of rs rfl
    split at p
    · next xs e =>
      split at p
      · next is e2 =>
        obtain ⟨a, rfl, h1⟩ := bls_at S rv e e2
        exact cr_any hc pins s st H _ us Q I r ⟨a, is, rfl, h1, PR.here p S (.bl _)⟩
      · exact PR.none_of p
    · exact PR.none_of p
  · exact PR.none_of p
theorem call_allN {mu : Bool} (hc : X.calm = true) : CallR X (.builtin "all") (rBs (gx X) mu allD) := by
  intro pins s st H vs us Q I r z
  obtain ⟨Z, as, h, ds, S, rs, p⟩ := z
  unfold allD at p
  split at p
  · next d =>
    obtain ⟨v, rfl, rv⟩ := one_of rs rfl
    split at p
    · next xs e =>
      split at p
      · next is e2 =>
        obtain ⟨a, rfl, h1⟩ := bls_at S rv e e2
        exact cr_all hc pins s st H _ us Q I r ⟨a, is, rfl, h1, PR.here p S (.bl _)⟩
      · exact PR.none_of p
    · exact PR.none_of p
  · exact PR.none_of p
end
end Dk
end S_DkP
end
section
set_option Elab.async false
set_option linter.all false
set_option maxRecDepth 100000
set_option maxHeartbeats 4000000
/-! DkQ: methods of lists, tuples, texts. -/
noncomputable section S_DkQ
namespace Dk
open PySem PySem.Spec PyProof.Rows L2
open Classical
/-- the first place of an equal one; all can be compared -/
def findI (x : D) : List D → Option Nat
  | [] => none
  | y :: ys => match eqD dp y x with
    | some true => some 0
    | _ => (findI x ys).map (· + 1)
def idxL (x : D) (ys : List D) : Option Nat := if (inLs x ys).isSome = true then findI x ys else none
theorem findI_some {x : D} : ∀ {ys : List D} {j : Nat}, findI x ys = some j → (∃ y, ys[j]? = some y ∧ eqD dp y x = some true) ∧ ∀ m y, m < j → ys[m]? = some y → eqD dp y x ≠ some true
  | [], j, e => by cases e
  | y :: ys, j, e => by
    unfold findI at e
    by_cases c : eqD dp y x = some true
    · rw [c] at e
      cases e
      exact ⟨⟨y, rfl, c⟩, fun m _ h => by omega⟩
    · have e' : (findI x ys).map (· + 1) = some j := by
        revert e
        split
        · next h => exact absurd h c
        · exact id
      obtain ⟨k, ek, rfl⟩ := Option.map_eq_some_iff.mp e'
      obtain ⟨⟨z, h1, h2⟩, h3⟩ := findI_some ek
      refine ⟨⟨z, by simpa using h1, h2⟩, fun m w hm hw => ?_⟩
      cases m with
      | zero => simp at hw; subst hw; exact c
      | succ m => exact h3 m w (by omega) (by simpa using hw)
/-- methods by what they do -/
def PostB (G : Gx) (Z : Addr → Prop) (as : List Addr) (H : Hp) (o : Out D) (Q : VK) : Prop := match o with
  | .ok d h' => ∀ (as' : List Addr) (v : V) (H' : Hp), Ext as H as' H' → Sim G Z as' h' H' → Rep G Z as' H' d v → Q v H'
  | _ => False
def rM (G : Gx) (g : D → List D → M D) : V → List V → Hp → VK → Prop := fun x xs H Q => ∃ (Z : Addr → Prop) (as : List Addr) (h : Hd) (d : D) (ds : List D), Sim G Z as h H ∧ Rep G Z as H d x ∧ Reps G Z as H ds xs ∧ PostB G Z as H (g d ds h) Q
section
variable {G : Gx} {W : WX} {Z : Addr → Prop} {as : List Addr} {h : Hd} {H : Hp} {s : L2.St} {Q : VK}
theorem PostB.here {d : D} {v : V} (p : PostB G Z as H (.ok d h) Q) (S : Sim G Z as h H) (r : Rep G Z as H d v) : Q v H := p as v H .refl S r
theorem PostB.of_lf {mu : Bool} {o : Option Res} (p : PostB G Z as H (lf mu o h) Q) : PR G Z as h H mu o Q := by
  cases o with
  | none => exact False.elim p
  | some r =>
    refine ⟨r, rfl, fun as' v H' d h' e x S q => ?_⟩
    rw [lf_some, e] at p
    exact p as' v H' x S q
end
/-- own lists -/
def onL (d : D) (h : Hd) (k : Nat → List D → Out D) : Out D := match d with
  | .ref n => match h[n]? with
    | some (.lst xs) => k n xs
    | _ => .fail
  | _ => .fail
def appM (d : D) (ds : List D) : M D := fun h => onL d h fun n xs => match ds with
  | [y] => if xs.length < sizeLine then .ok .non (h.set n (.lst (xs ++ [y]))) else .fail
  | _ => .fail
def insM (d : D) (ds : List D) : M D := fun h => onL d h fun n xs => match ds with
  | [i, y] => (match asI i with
    | some i => if xs.length < sizeLine ∧ 0 ≤ i ∧ i < 2 ^ 63 then .ok .non (h.set n (.lst (xs.take i.toNat ++ [y] ++ xs.drop i.toNat))) else .fail
    | none => .fail)
  | _ => .fail
def popM (d : D) (ds : List D) : M D := fun h => onL d h fun n xs => match ds with
  | [] => (match xs[xs.length - 1]? with
    | some y => .ok y (h.set n (.lst xs.dropLast))
    | none => .fail)
  | [i] => (match asI i with
    | some i => if -(2 ^ 63) ≤ i ∧ i < 2 ^ 63 then (match seqIndex? i xs.length with
      | some k => (match xs[k]? with
        | some y => .ok y (h.set n (.lst (xs.eraseIdx k)))
        | none => .fail)
      | none => .fail) else .fail
    | none => .fail)
  | _ => .fail
def remM (d : D) (ds : List D) : M D := fun h => onL d h fun n xs => match ds with
  | [y] => (match asT y, strsD xs with
    | some y, some ys => if y ∈ ys then .ok .non (h.set n (.lst ((ys.erase y).map D.str))) else .fail
    | _, _ => .fail)
  | _ => .fail
def idxLM (d : D) (ds : List D) : M D := fun h => match asL h d, ds with
  | some xs, [y] => (match idxL y xs with
    | some j => .ok (.int j) h
    | none => .fail)
  | _, _ => .fail
def idxTM (d : D) (ds : List D) : M D := fun h => match d, ds with
  | .tup xs, [y] => (match idxL y xs with
    | some j => .ok (.int j) h
    | none => .fail)
  | _, _ => .fail
def stripM (d : D) (ds : List D) : M D := fun h => match d, ds with
  | .str a, [.str b] => if a.length ≤ sizeLine then .ok (.str (Txt.stripChars a b)) h else .fail
  | _, _ => .fail
def joinM (d : D) (ds : List D) : M D := fun h => match d, ds with
  | .str a, [y] => (match asS h y with
    | some xs => (match strsD xs with
      | some ys => if (ys.map (·.length)).sum + ys.length * a.length ≤ 16777216 then .ok (.str (Txt.join a ys)) h else .fail
      | none => .fail)
    | none => .fail)
  | _, _ => .fail
section
variable {X : Cx} {Z : Addr → Prop} {as : List Addr} {h : Hd} {H : Hp} {Q : VK}
theorem onL_post {d : D} {x : V} {k : Nat → List D → Out D} (S : Sim (gx X) Z as h H) (r : Rep (gx X) Z as H d x) (p : PostB (gx X) Z as H (onL d h k) Q) : ∃ n xs a vs, d = .ref n ∧ h[n]? = some (.lst xs) ∧ as[n]? = some a ∧ x = .ref a ∧ H a = some (.lst vs) ∧ Reps (gx X) Z as H xs vs ∧ PostB (gx X) Z as H (k n xs) Q := by
  cases r with
  | @ref a n e =>
    unfold onL at p
    dsimp only at p
    cases q : h[n]? with
    | none => rw [q] at p; exact p.elim
    | some o =>
      rw [q] at p
      cases o with
      | lst xs =>
        cases S.ob n _ a q e with
        | lst e2 q2 => exact ⟨n, xs, a, _, rfl, q, e, rfl, e2, q2, p⟩
      | dct _ => exact p.elim
      | ins _ _ => exact p.elim
  | _ => exact p.elim
theorem mt_appN : MtR X "list.append" (rM (gx X) appM) := by
  intro pins s st H x xs v us Q I rx rv z
  obtain ⟨Z, as, h, d, ds, S, r, rs, p⟩ := z
  obtain ⟨n, ys, a, vs, rfl, q, ea, rfl, e, q2, p⟩ := onL_post S r p
  match ds, p with
  | [], p => exact p.elim
  | [y], p =>
    dsimp only at p
    obtain ⟨w, rfl, rw'⟩ := one_of rs rfl
    by_cases hz : ys.length < sizeLine
    · rw [if_pos hz] at p
      obtain ⟨x1, S1⟩ := S.putL ea (q2.append (.cons rw' .nil))
      exact mt_append pins s st H _ _ v us Q I rx rv ⟨a, vs, w, rfl, rfl, e, by rw [← q2.length]; exact hz, p as _ _ x1 S1 .non⟩
    · rw [if_neg hz] at p; exact p.elim
  | _ :: _ :: _, p => exact p.elim
theorem mt_insN : MtR X "list.insert" (rM (gx X) insM) := by
  intro pins s st H x xs v us Q I rx rv z
  obtain ⟨Z, as, h, d, ds, S, r, rs, p⟩ := z
  obtain ⟨n, ys, a, vs, rfl, q, ea, rfl, e, q2, p⟩ := onL_post S r p
  match ds, p with
  | [], p => exact p.elim
  | [_], p => exact p.elim
  | [i, y], p =>
    dsimp only at p
    obtain ⟨w1, w, rfl, r1, rw'⟩ := two_of rs rfl
    cases ei : asI i with
    | none => simp only [ei] at p; exact p.elim
    | some i' =>
      have e1 := asI_some ei
      subst e1
      simp only [ei] at p
      cases r1
      by_cases hz : ys.length < sizeLine ∧ 0 ≤ i' ∧ i' < 2 ^ 63
      · rw [if_pos hz] at p
        obtain ⟨x1, S1⟩ := S.putL ea (((q2.take i'.toNat).append (.cons rw' .nil)).append (q2.drop i'.toNat))
        exact mt_insert pins s st H _ _ v us Q I rx rv ⟨a, vs, i', w, rfl, rfl, e, by rw [← q2.length]; exact hz.1, hz.2.1, hz.2.2, p as _ _ x1 S1 .non⟩
      · rw [if_neg hz] at p; exact p.elim
  | _ :: _ :: _ :: _, p => exact p.elim
theorem Reps.erase {G : Gx} : ∀ {d : List D} {v : List V} (n : Nat), Reps G Z as H d v → Reps G Z as H (d.eraseIdx n) (v.eraseIdx n)
  | _, _, _, .nil => .nil
  | _, _, 0, .cons _ q => q
  | _, _, n + 1, .cons r q => .cons r (q.erase n)
theorem Reps.dropL {G : Gx} : ∀ {d : List D} {v : List V}, Reps G Z as H d v → Reps G Z as H d.dropLast v.dropLast
  | _, _, .nil => .nil
  | _, _, .cons _ .nil => .nil
  | _, _, .cons r (.cons r2 q) => .cons r (Reps.dropL (.cons r2 q))
theorem mt_popN : MtR X "list.pop" (rM (gx X) popM) := by
  intro pins s st H x xs v us Q I rx rv z
  obtain ⟨Z, as, h, d, ds, S, r, rs, p⟩ := z
  obtain ⟨n, ys, a, vs, rfl, q, ea, rfl, e, q2, p⟩ := onL_post S r p
  match ds, p with
  | [], p =>
    dsimp only at p
    cases rs
    cases ey : ys[ys.length - 1]? with
    | none => simp only [ey] at p; exact p.elim
    | some y =>
      simp only [ey] at p
      obtain ⟨w, hw, rw'⟩ := q2.get ey
      obtain ⟨x1, S1⟩ := S.putL ea q2.dropL
      exact mt_pop pins s st H _ _ v us Q I rx rv ⟨a, vs, w, rfl, rfl, e, by rw [← q2.length]; exact hw, p as _ _ x1 S1 (rw'.mono S x1)⟩
  | [i], p =>
    dsimp only at p
    obtain ⟨w1, rfl, r1⟩ := one_of rs rfl
    cases ei : asI i with
    | none => simp only [ei] at p; exact p.elim
    | some i' =>
      have e1 := asI_some ei
      subst e1
      simp only [ei] at p
      cases r1
      by_cases hz : -(2 ^ 63) ≤ i' ∧ i' < 2 ^ 63
      · rw [if_pos hz] at p
        cases ek : seqIndex? i' ys.length with
        | none => simp only [ek] at p; exact p.elim
        | some k =>
          simp only [ek] at p
          cases ey : ys[k]? with
          | none => simp only [ey] at p; exact p.elim
          | some y =>
            simp only [ey] at p
            obtain ⟨w, hw, rw'⟩ := q2.get ey
            obtain ⟨x1, S1⟩ := S.putL ea (q2.erase k)
            exact mt_popAt pins s st H _ _ v us Q I rx rv ⟨a, vs, i', k, w, rfl, rfl, e, hz.1, hz.2, by rw [← q2.length]; exact ek, hw, p as _ _ x1 S1 (rw'.mono S x1)⟩
      · rw [if_neg hz] at p; exact p.elim
  | _ :: _ :: _, p => exact p.elim
theorem inLs_at {x : D} {ys : List D} (e : (inLs x ys).isSome = true) {y : D} (m : y ∈ ys) : ∃ b, eqD dp y x = some b := by
  obtain ⟨c, ec⟩ := Option.isSome_iff_exists.mp e
  exact (inLs_def ec).1 y m
theorem idx_eqs {s : Shared} {A : Around} {x : D} {u : Value} {ys : List D} {us : List Value} {j : Nat} (hx : Vw s x u) (hy : Vws s ys us) (e : idxL x ys = some j) (hu : A.units + dp < cLine) :
    ∃ f : Nat → Bool, j < us.length ∧ f j = true ∧ (∀ m, m < us.length → m < j → f m = false) ∧ ∀ m (hm : m < us.length), SeqAt.EqAt A s us[m] u (f m) := by
  unfold idxL at e
  by_cases c : (inLs x ys).isSome = true
  · rw [if_pos c] at e
    obtain ⟨⟨y, h1, h2⟩, h3⟩ := findI_some e
    have hl := hy.length
    have hj : j < us.length := by rw [← hl]; exact (List.getElem?_eq_some_iff.mp h1).1
    refine ⟨fun m => match ys[m]? with | some y => decide (eqD dp y x = some true) | none => false, hj, by simp only [h1, h2]; rfl, fun m hm hmj => ?_, fun m hm => ?_⟩
    · have hm' : m < ys.length := by rw [hl]; exact hm
      simp only [List.getElem?_eq_getElem hm']
      exact decide_eq_false (h3 m _ hmj (List.getElem?_eq_getElem hm'))
    · obtain ⟨y', h4, h5⟩ := hy.get (List.getElem?_eq_getElem hm)
      simp only [h4]
      obtain ⟨b, eb⟩ := inLs_at c (List.mem_of_getElem? h4)
      have q := (eqAt_vw dp A y' x _ u b h5 hx eb hu).1
      have ed : decide (eqD dp y' x = some true) = b := by
        rw [eb]
        cases b <;> simp
      rw [ed]
      exact q
  · rw [if_neg c] at e; cases e
theorem mt_idxLN (hu : X.A.units + 64 < cLine) : MtR X "list.index" (rM (gx X) idxLM) := by
  intro pins s st H x xs v us Q I rx rv z
  obtain ⟨Z, as, h, d, ds, S, r, rs, p⟩ := z
  unfold idxLM at p
  split at p
  · next ys y e =>
    obtain ⟨w, rfl, rw'⟩ := one_of rs rfl
    obtain ⟨u, rfl, ru⟩ := vals1 rv
    cases ej : idxL y ys with
    | none => simp only [ej] at p; exact p.elim
    | some j =>
      simp only [ej] at p
      obtain ⟨a, ws, rfl, h1, h2⟩ := asL_rep S r e
      cases rx
      obtain ⟨its, q1, q2, q3⟩ := I.list (SqL.of h1)
      obtain ⟨⟨oc, od, dt, sl⟩, g1, g2, n, g3⟩ := q2.isList
      simp only at g2 g3
      subst g2 g3
      have hl := q1.length
      have h16 := sizeLine_eq
      obtain ⟨f, f1, f2, f3, f4⟩ := idx_eqs (A := X.A.in1) (rw'.vw I ru) (h2.vw I q1) ej (by show X.A.units + 1 + dp < cLine; have : dp = 40 := rfl; omega)
      refine call_meets PySem.F.slot_list_index ⟨_, g1, rfl⟩ PySem.F.entry_list_index (PySem.F.args_list_index_2 _ _)
        (SeqAt.list_index2_found a its.toArray n od sl u f j (by simpa using f1) (Nat.zero_le _) (by omega) f2 fun m hm _ hmj => f3 m (by simpa using hm) hmj) ⟨g1, fun m hm => by simpa using f4 m (by simpa using hm), ?_⟩
      exact ⟨.int j, H, I.tok _, ⟨_, rfl⟩, PostB.here p S (.int _)⟩
  · exact p.elim
theorem mt_idxTN (hu : X.A.units + 64 < cLine) : MtR X "tuple.index" (rM (gx X) idxTM) := by
  intro pins s st H x xs v us Q I rx rv z
  obtain ⟨Z, as, h, d, ds, S, r, rs, p⟩ := z
  unfold idxTM at p
  split at p
  · next ys y =>
    obtain ⟨w, rfl, rw'⟩ := one_of rs rfl
    obtain ⟨u, rfl, ru⟩ := vals1 rv
    cases ej : idxL y ys with
    | none => simp only [ej] at p; exact p.elim
    | some j =>
      simp only [ej] at p
      cases r with
      | @tup a ws _ h1 h2 =>
        cases rx
        obtain ⟨its, q1, ⟨⟨oc, od, dt, sl⟩, g1, g2, n, g3⟩, q3⟩ := I.tuple h1.sq
        simp only at g2 g3
        subst g2 g3
        have hl := q1.length
        have h16 := sizeLine_eq
        obtain ⟨f, f1, f2, f3, f4⟩ := idx_eqs (A := X.A.in1) (rw'.vw I ru) (h2.vw I q1) ej (by show X.A.units + 1 + dp < cLine; have : dp = 40 := rfl; omega)
        refine call_meets PySem.F.slot_tuple_index ⟨_, g1, rfl⟩ PySem.F.entry_tuple_index (PySem.F.args_tuple_index_2 _ _)
          (SeqAt.tuple_index2_found a its.toArray n od sl u f j (by simpa using f1) (Nat.zero_le _) (by simpa using f1) f2 fun m hm _ hmj => f3 m (by simpa using hm) hmj) ⟨g1, fun m hm => by simpa using f4 m (by simpa using hm), ?_⟩
        exact ⟨.int j, H, I.tok _, ⟨_, rfl⟩, PostB.here p S (.int _)⟩
  · exact p.elim
theorem mt_stripN : MtR X "str.strip" (rM (gx X) stripM) := by
  intro pins s st H x xs v us Q I rx rv z
  obtain ⟨Z, as, h, d, ds, S, r, rs, p⟩ := z
  unfold stripM at p
  split at p
  · next a b =>
    obtain ⟨w, rfl, rw'⟩ := one_of rs rfl
    cases r
    cases rw'
    by_cases hz : a.length ≤ sizeLine
    · rw [if_pos hz] at p
      exact mt_stripChars pins s st H _ _ v us Q I rx rv ⟨a, b, rfl, rfl, hz, PostB.here p S (.str _)⟩
    · rw [if_neg hz] at p; exact p.elim
  · exact p.elim
theorem mt_joinN : MtR X "str.join" (rM (gx X) joinM) := by
  intro pins s st H x xs v us Q I rx rv z
  obtain ⟨Z, as, h, d, ds, S, r, rs, p⟩ := z
  unfold joinM at p
  split at p
  · next a y =>
    obtain ⟨w, rfl, rw'⟩ := one_of rs rfl
    cases r
    split at p
    · next ys e =>
      split at p
      · next zs e2 =>
        by_cases hz : (zs.map (·.length)).sum + zs.length * a.length ≤ 16777216
        · rw [if_pos hz] at p
          obtain ⟨b, ws, rfl, h1, h2⟩ := asS_rep S rw' e
          rw [strsD_eq e2] at h2
          rw [reps_str h2] at h1
          refine mt_join pins s st H _ _ v us Q I rx rv ⟨a, b, zs, rfl, rfl, ?_, hz, PostB.here p S (.str _)⟩
          rcases h1 with h1 | h1
          · exact .inl (SqL.of h1)
          · exact .inr h1.sq
        · rw [if_neg hz] at p; exact p.elim
      · exact p.elim
    · exact p.elim
  · exact p.elim
end
end Dk
end S_DkQ
end
section
set_option Elab.async false
set_option linter.all false
set_option maxRecDepth 100000
set_option maxHeartbeats 4000000
/-! list.extend, list.clear, list.remove (of texts) -/
noncomputable section S_Lm
namespace Dk
open PySem PySem.Spec PyProof.Rows L2
open Classical
def extM (d : D) (ds : List D) : M D := fun h => onL d h fun n xs => match ds with
  | [y] => (match asL h y with
    | some zs => if xs.length + zs.length ≤ sizeLine then .ok .non (h.set n (.lst (xs ++ zs))) else .fail
    | none => .fail)
  | _ => .fail
def clrM (d : D) (ds : List D) : M D := fun h => onL d h fun n _ => match ds with
  | [] => .ok .non (h.set n (.lst []))
  | _ => .fail
def remS (d : D) (ds : List D) : M D := fun h => onL d h fun n xs => match ds with
  | [.str y] => (match strsD xs with
    | some ys => if y ∈ ys then .ok .non (h.set n (.lst ((ys.eraseIdx (ys.idxOf y)).map D.str))) else .fail
    | none => .fail)
  | [.int y] => (match intsD xs with
    | some ys => if y ∈ ys then .ok .non (h.set n (.lst ((ys.eraseIdx (ys.idxOf y)).map D.int))) else .fail
    | none => .fail)
  | _ => .fail
section
variable {X : Cx}
theorem mt_extN : MtR X "list.extend" (rM (gx X) extM) := by
  intro pins s st H x xs v us Q I rx rv z
  obtain ⟨Z, as, h, d, ds, S, r, rs, p⟩ := z
  obtain ⟨n, ys, a, vs, rfl, q, ea, rfl, e, q2, p⟩ := onL_post S r p
  match ds, p with
  | [], p => exact p.elim
  | [y], p =>
    dsimp only at p
    obtain ⟨w, rfl, rw'⟩ := one_of rs rfl
    cases el : asL h y with
    | none => simp only [el] at p; exact p.elim
    | some zs =>
      simp only [el] at p
      obtain ⟨b, ws, rfl, h1, h2⟩ := asL_rep S rw' el
      by_cases hz : ys.length + zs.length ≤ sizeLine
      · rw [if_pos hz] at p
        obtain ⟨x1, S1⟩ := S.putL ea (q2.append h2)
        exact mt_extend pins s st H _ _ v us Q I rx rv ⟨a, b, vs, ws, rfl, rfl, e, h1, by rw [← q2.length, ← h2.length]; exact hz, p as _ _ x1 S1 .non⟩
      · rw [if_neg hz] at p; exact p.elim
  | _ :: _ :: _, p => exact p.elim
theorem mt_clrN : MtR X "list.clear" (rM (gx X) clrM) := by
  intro pins s st H x xs v us Q I rx rv z
  obtain ⟨Z, as, h, d, ds, S, r, rs, p⟩ := z
  obtain ⟨n, ys, a, vs, rfl, q, ea, rfl, e, q2, p⟩ := onL_post S r p
  match ds, p with
  | [], p =>
    cases rs
    obtain ⟨x1, S1⟩ := S.putL ea (ds := []) (vs := []) .nil
    exact mt_clear pins s st H _ _ v us Q I rx rv ⟨a, vs, rfl, rfl, e, p as _ _ x1 S1 .non⟩
  | _ :: _, p => exact p.elim
theorem eraseIdx_mp {α β : Type} (f : α → β) : ∀ (l : List α) (j : Nat), (l.map f).eraseIdx j = (l.eraseIdx j).map f
  | [], _ => rfl
  | _ :: _, 0 => rfl
  | x :: l, j + 1 => by
    rw [List.map_cons, List.eraseIdx_cons_succ, eraseIdx_mp f l j]
    rfl
/-- a text is that one -/
def isT (x : Str) (v : Value) : Bool := match v with
  | .str y _ => y.cps.toList == x.cps.toList
  | _ => false
theorem isT_at {ys : List Str} {its : List Value} (r : Vals (ys.map V.str) its) {i : Nat} (h : i < its.length) : ∃ t, ∃ hy : i < ys.length, its[i] = .str ys[i] t := by
  have hl := r.length
  rw [List.length_map] at hl
  have hi : i < ys.length := by omega
  obtain ⟨u, e, ru⟩ := r.get (i := i) (x := V.str ys[i]) (by rw [List.getElem?_map, List.getElem?_eq_getElem hi]; rfl)
  obtain ⟨t, rfl⟩ := ru
  exact ⟨t, hi, by have := (List.getElem?_eq_some_iff.mp e).2; exact this⟩
theorem mt_remN : MtR X "list.remove" (rM (gx X) remS) := by
  intro pins s st H x xs v us Q I rx rv z
  obtain ⟨Z, as, h, d, ds, S, r, rs, p⟩ := z
  obtain ⟨n, ys, a, vs, rfl, q, ea, rfl, e, q2, p⟩ := onL_post S r p
  split at p
  case h_3 => exact p.elim
  case h_2 =>
    next y _ =>
    obtain ⟨w, rfl, rw'⟩ := one_of rs rfl
    cases rw'
    cases el : intsD ys with
    | none => simp only [el] at p; exact p.elim
    | some zs =>
      simp only [el] at p
      by_cases hm : y ∈ zs
      case neg => rw [if_neg hm] at p; exact p.elim
      rw [if_pos hm] at p
      have e1 := intsD_eq el
      subst e1
      have e2 := reps_int q2
      subst e2
      have hj : zs.idxOf y < zs.length := List.idxOf_lt_length_of_mem hm
      have er := q2.erase (zs.idxOf y)
      rw [eraseIdx_mp, eraseIdx_mp] at er
      obtain ⟨x1, S1⟩ := S.putL ea er
      refine mt_remove pins s st H _ _ v us Q I rx rv ⟨a, zs, y, zs.idxOf y, rfl, rfl, e, ?_, fun m hm2 e3 => ?_, p as _ _ x1 S1 .non⟩
      · rw [List.getElem?_eq_getElem hj, List.getElem_idxOf]
      · have e6 := List.not_of_lt_findIdx (p := (· == y)) (xs := zs) (i := m) hm2
        obtain ⟨_, e7⟩ := List.getElem?_eq_some_iff.mp e3
        rw [e7] at e6
        simp at e6
  next y _ =>
  obtain ⟨w, rfl, rw'⟩ := one_of rs rfl
  cases rw'
  cases el : strsD ys with
  | none => simp only [el] at p; exact p.elim
  | some zs =>
    simp only [el] at p
    by_cases hm : y ∈ zs
    case neg => rw [if_neg hm] at p; exact p.elim
    rw [if_pos hm] at p
    have e1 := strsD_eq el
    subst e1
    have e2 := reps_str q2
    subst e2
    cases rx
    obtain ⟨u, rfl, ru⟩ := vals1 rv
    obtain ⟨t, rfl⟩ := ru
    obtain ⟨hz, its, k, ri, hl, eo⟩ := I.lstM e
    have hlen := ri.length
    rw [List.length_map] at hlen hz
    have hj : zs.idxOf y < zs.length := List.idxOf_lt_length_of_mem hm
    have hjy : zs[zs.idxOf y] = y := List.getElem_idxOf hj
    refine call_meets PySem.F.slot_list_remove ⟨_, eo, rfl⟩ PySem.F.entry_list_remove (PySem.F.args_list_remove_2 _ _)
      (MeetsSeq.list_remove a its.toArray k (.str y t) (isT y) (fun z hz => ?_) (zs.idxOf y) (by rw [List.size_toArray]; omega) ?_ ?_ (by rw [List.size_toArray]; omega)) ⟨eo, ?_⟩
    · obtain ⟨i, hi, ei⟩ := List.getElem_of_mem (show z ∈ its by simpa using hz)
      obtain ⟨t', hi', e3⟩ := isT_at ri hi
      rw [← ei, e3]
      exact SeqRoads2.EqGives.str _ _ _ _
    · obtain ⟨t', hi', e3⟩ := isT_at ri (i := zs.idxOf y) (by omega)
      rw [List.getElem_toArray, e3, hjy]
      show (_ == _) = true
      exact beq_self_eq_true _
    · intro m h1 h2
      rw [List.size_toArray] at h1
      obtain ⟨t', hi', e3⟩ := isT_at ri h1
      rw [List.getElem_toArray, e3]
      show (_ == _) = false
      refine beq_eq_false_iff_ne.mpr fun e4 => ?_
      have e5 : zs[m] = y := by
        show (⟨zs[m].cps⟩ : Str) = ⟨y.cps⟩
        rw [Array.toList_inj.mp e4]
      have e6 := List.not_of_lt_findIdx (p := (· == y)) (xs := zs) (i := m) h2
      rw [e5] at e6
      simp at e6
    · have rr := ri.eraseIdx (zs.idxOf y)
      have er := q2.erase (zs.idxOf y)
      rw [eraseIdx_mp] at rr
      rw [eraseIdx_mp, eraseIdx_mp] at er
      obtain ⟨x1, S1⟩ := S.putL ea er
      refine ⟨.non, _, I.lset (its' := its.eraseIdx (zs.idxOf y)) (t' := s.toks) e eo ?_ rr ?_, rfl, p as _ _ x1 S1 .non⟩
      · show its.toArray.eraseIdxIfInBounds _ = _
        rw [List.eraseIdxIfInBounds_toArray]
      · rw [List.length_map]
        have := List.length_eraseIdx_le (l := zs) (i := zs.idxOf y)
        omega
end
end Dk
end S_Lm
end
section
set_option Elab.async false
set_option linter.all false
set_option maxRecDepth 100000
set_option maxHeartbeats 4000000
/-! dict.pop of a key that is there -/
noncomputable section S_Dm
namespace Dk
open PySem PySem.Spec PyProof.Rows L2
open Classical
def onD (d : D) (h : Hd) (k : Nat → List (Key × D) → Out D) : Out D := match d with
  | .ref n => match h[n]? with
    | some (.dct kvs) => k n kvs
    | _ => .fail
  | _ => .fail
def outK (kvs : List (Key × D)) (k : Key) : List (Key × D) := kvs.filter fun kv => decide (kv.1 ≠ k)
def dpopM (d : D) (ds : List D) : M D := fun h => onD d h fun n kvs => match ds with
  | [y] => (match keyOf y with
    | some k => (match getK kvs k with
      | some v => .ok v (h.set n (.dct (outK kvs k)))
      | none => .fail)
    | none => .fail)
  | _ => .fail
section
variable {X : Cx} {Z : Addr → Prop} {as : List Addr} {h : Hd} {H : Hp} {Q : VK}
theorem onD_post {d : D} {x : V} {k : Nat → List (Key × D) → Out D} (S : Sim (gx X) Z as h H) (r : Rep (gx X) Z as H d x) (p : PostB (gx X) Z as H (onD d h k) Q) : ∃ n xs a vs, d = .ref n ∧ h[n]? = some (.dct xs) ∧ as[n]? = some a ∧ x = .ref a ∧ H a = some (.dK vs) ∧ RepK (gx X) Z as H xs vs ∧ PostB (gx X) Z as H (k n xs) Q := by
  cases r with
  | @ref a n e =>
    unfold onD at p
    dsimp only at p
    cases q : h[n]? with
    | none => rw [q] at p; exact p.elim
    | some o =>
      rw [q] at p
      cases o with
      | dct xs =>
        cases S.ob n _ a q e with
        | dct e2 q2 => exact ⟨n, xs, a, _, rfl, q, e, rfl, e2, q2, p⟩
      | lst _ => exact p.elim
      | ins _ _ => exact p.elim
  | _ => exact p.elim
theorem RepK.out {G : Gx} {k : Key} : ∀ {ds : List (Key × D)} {vs : List (Key × V)}, RepK G Z as H ds vs → RepK G Z as H (outK ds k) (dropK vs k)
  | _, _, .nil => .nil
  | _, _, @RepK.cons _ _ _ _ j d ds v vs r q => by
    unfold outK dropK
    rw [List.filter_cons, List.filter_cons]
    by_cases c : j = k
    · simp only [c, ne_eq, not_true_eq_false, decide_false, Bool.false_eq_true, if_false]
      exact RepK.out q
    · simp only [c, ne_eq, not_false_eq_true, decide_true, if_true]
      exact .cons r (RepK.out q)
end
section
variable {X : Cx}
theorem mt_dpopN : MtR X "dict.pop" (rM (gx X) dpopM) := by
  intro pins s st H x xs v us Q I rx rv z
  obtain ⟨Z, as, h, d, ds, S, r, rs, p⟩ := z
  obtain ⟨n, ys, a, vs, rfl, q, ea, rfl, e, q2, p⟩ := onD_post S r p
  match ds, p with
  | [], p => exact p.elim
  | [y], p =>
    dsimp only at p
    obtain ⟨w, rfl, rw'⟩ := one_of rs rfl
    cases ek : keyOf y with
    | none => simp only [ek] at p; exact p.elim
    | some k =>
      simp only [ek] at p
      cases eg : getK ys k with
      | none => simp only [eg] at p; exact p.elim
      | some d =>
        simp only [eg] at p
        have hw : w = kV k := by
          cases y <;> first | (cases ek; cases rw'; rfl) | (cases ek)
        subst hw
        cases rx
        obtain ⟨u, rfl, ru⟩ := vals1 rv
        obtain ⟨x1, S1⟩ := S.putD ea (RepK.out (k := k) q2)
        rcases getK_rep (k := k) q2 with ⟨g1, _⟩ | ⟨d', v', g1, g2, g3⟩
        · rw [g1] at eg; cases eg
        · rw [g1] at eg
          cases eg
          exact d_pop I e ru g2 (.inl rfl) fun w' s' I' rw2 => ⟨v', _, I', rw2, p as _ _ x1 S1 (g3.mono S x1)⟩
  | _ :: _ :: _, p => exact p.elim
end
end Dk
end S_Dm
end
section
set_option Elab.async false
set_option linter.all false
set_option maxRecDepth 100000
set_option maxHeartbeats 4000000
/-! dict.get -/
noncomputable section S_Dn
namespace Dk
open PySem PySem.Spec PyProof.Rows L2
open Classical
def dgetM (d : D) (ds : List D) : M D := fun h => match asK h d with
  | some kvs => (match ds with
    | [y] => (match keyOf y with
      | some k => .ok ((getK kvs k).getD .non) h
      | none => .fail)
    | [y, z] => (match keyOf y with
      | some k => .ok ((getK kvs k).getD z) h
      | none => .fail)
    | _ => .fail)
  | none => .fail
section
variable {X : Cx}
theorem key_rep {G : Gx} {Z : Addr → Prop} {as : List Addr} {H : Hp} {y : D} {w : V} {k : Key} (ek : keyOf y = some k) (r : Rep G Z as H y w) : w = kV k := by
  cases y <;> first | (cases ek; cases r; rfl) | (cases ek)
theorem mt_dgetN (hu : X.A.units + 64 < cLine) : MtR X "dict.get" (rM (gx X) dgetM) := by
  intro pins s st H x xs v us Q I rx rv z
  obtain ⟨Z, as, h, d, ds, S, r, rs, p⟩ := z
  unfold dgetM at p
  cases e : asK h d with
  | none => simp only [e] at p; exact p.elim
  | some kvs =>
    simp only [e] at p
    obtain ⟨a, ws, rfl, h1, h2⟩ := asK_rep S r e
    cases rx
    match ds, p with
    | [], p => exact p.elim
    | [y], p =>
      dsimp only at p
      obtain ⟨w, rfl, rw'⟩ := one_of rs rfl
      cases ek : keyOf y with
      | none => simp only [ek] at p; exact p.elim
      | some k =>
        simp only [ek] at p
        have hw := key_rep ek rw'
        subst hw
        obtain ⟨u, rfl, ru⟩ := vals1 rv
        refine d_get1 (by omega) I (.inl ⟨ws, k, h1, rfl, rfl⟩) ru fun w' s' I' rw2 => ⟨_, H, I', rw2, ?_⟩
        rcases getK_rep (k := k) h2 with ⟨g1, g2⟩ | ⟨d', v', g1, g2, g3⟩
        · rw [g2]; rw [g1] at p
          exact p as _ _ .refl S .non
        · rw [g2]; rw [g1] at p
          exact p as _ _ .refl S g3
    | [y, z], p =>
      dsimp only at p
      obtain ⟨w, w2, rfl, rw', rz⟩ := two_of rs rfl
      cases ek : keyOf y with
      | none => simp only [ek] at p; exact p.elim
      | some k =>
        simp only [ek] at p
        have hw := key_rep ek rw'
        subst hw
        cases rv with
        | cons ru rv2 =>
          cases rv2 with
          | cons ru2 rv3 =>
            cases rv3
            refine d_get2 (by omega) I (.inl ⟨ws, k, h1, rfl, rfl⟩) ru ru2 fun w' s' I' rw3 => ⟨_, H, I', rw3, ?_⟩
            rcases getK_rep (k := k) h2 with ⟨g1, g2⟩ | ⟨d', v', g1, g2, g3⟩
            · rw [g2]; rw [g1] at p
              exact p as _ _ .refl S rz
            · rw [g2]; rw [g1] at p
              exact p as _ _ .refl S g3
    | _ :: _ :: _ :: _, p => exact p.elim
end
end Dk
end S_Dn
end
section
set_option Elab.async false
set_option linter.all false
set_option maxRecDepth 100000
set_option maxHeartbeats 4000000
/-! d.update(e), e a dict that is data -/
noncomputable section S_Du
namespace Dk
open PySem PySem.Spec PyProof.Rows L2
open Classical
def mergeD (kvs more : List (Key × D)) : List (Key × D) := more.foldl (fun acc kv => putD acc kv.1 kv.2) kvs
def dupdM (d : D) (ds : List D) : M D := fun h => onD d h fun n kvs => match ds with
  | [.dct ms] => if kvs.length + ms.length ≤ sizeLine then .ok .non (h.set n (.dct (mergeD kvs ms))) else .fail
  | _ => .fail
theorem RepK.merge {G : Gx} {Z : Addr → Prop} {as : List Addr} {H : Hp} : ∀ {ms : List (Key × D)} {ws : List (Key × V)} {ks : List (Key × D)} {vs : List (Key × V)}, RepK G Z as H ms ws → RepK G Z as H ks vs → RepK G Z as H (mergeD ks ms) (mergeK vs ws)
  | _, _, _, _, .nil, q => q
  | _, _, _, _, .cons r p, q => by
    unfold mergeD mergeK
    rw [List.foldl_cons, List.foldl_cons]
    exact RepK.merge p (RepK.put r q)
theorem mergeK_len : ∀ {ws vs : List (Key × V)}, (mergeK vs ws).length ≤ vs.length + ws.length
  | [], vs => Nat.le_refl _
  | w :: ws, vs => by
    unfold mergeK
    rw [List.foldl_cons]
    refine Nat.le_trans (mergeK_len (ws := ws)) ?_
    have := length_putK vs w.1 w.2
    rw [List.length_cons]
    omega
section
variable {X : Cx}
theorem mt_dupdN : MtR X "dict.update" (rM (gx X) dupdM) := by
  intro pins s st H x xs v us Q I rx rv z
  obtain ⟨Z, as, h, d, ds, S, r, rs, p⟩ := z
  obtain ⟨n, ys, a, vs, rfl, q, ea, rfl, e, q2, p⟩ := onD_post S r p
  split at p
  case h_2 => exact p.elim
  next ms _ =>
  obtain ⟨w, rfl, rw'⟩ := one_of rs rfl
  by_cases hz : ys.length + ms.length ≤ sizeLine
  case neg => rw [if_neg hz] at p; exact p.elim
  rw [if_pos hz] at p
  cases rx
  cases rw' with
  | @dct b ws _ e2 nin nz q3 =>
    obtain ⟨u, rfl, ru⟩ := vals1 rv
    cases ru
    obtain ⟨z1, hd1, v1, rel1, dd1⟩ := dk_of I.hok e
    obtain ⟨z2, hd2, v2, rel2, dd2⟩ := dk_rd I.hok e2
    have ne : a ≠ b := fun t => nin (by rw [← t]; exact List.mem_of_getElem? ea)
    obtain ⟨x1, S1⟩ := S.putD ea (RepK.merge q3 q2)
    have hl : vs.length + ws.length ≤ sizeLine := by rw [← q2.length, ← q3.length]; exact hz
    refine call_meetsIn PySem.F.slot_dict_update dd1.typeIs PySem.F.entry_dict_update (PySem.F.args_dict_update_2 _ _) (meets_dict_update (mixKind X.prog X.w) a b ne hd2) ⟨v1, v2, dd1, dd2, by rw [← rel1.length, ← rel2.length]; exact hl, fun h' g1 g2 sb => ?_⟩
    have he : ∃ o, h'.get? a = some o := let ⟨o, _, _, ho, _⟩ := g1; ⟨o, ho⟩
    exact ⟨.non, _, d_write (t' := s.toks) I (by rw [e]; exact True.intro) sb he (dk_new (Nat.le_trans mergeK_len hl) hd1 (KV.merge rel2 rel1) g1), rfl, p as _ _ x1 S1 .non⟩
end
end Dk
end S_Du
end
section
set_option Elab.async false
set_option linter.all false
set_option maxRecDepth 100000
set_option maxHeartbeats 4000000
/-! dict displays -/
noncomputable section S_Dd
namespace Dk
open PySem PySem.Spec PyProof.Rows L2
open Classical
def dispGo : List (SE × SE) → Env → List (Key × D) → M (List (Key × D))
  | [], _, acc, h => .ok acc h
  | (fk, fv) :: r, e, acc, h => match fk e h with
    | .ok y h1 => (match fv e h1 with
      | .ok z h2 => (match keyOf y with
        | some k => dispGo r e (acc ++ [(k, z)]) h2
        | none => .fail)
      | _ => .fail)
    | _ => .fail
theorem dispGo_ne {c : String} {fs : Fs} {h' : Hd} {e : Env} : ∀ {prs : List (SE × SE)} {acc : List (Key × D)} {h : Hd}, dispGo prs e acc h ≠ .ex c fs h'
  | [], acc, h => fun z => nomatch z
  | (fk, fv) :: r, acc, h => by
    intro z
    unfold dispGo at z
    split at z
    · split at z
      · split at z
        · exact dispGo_ne z
        · cases z
      · cases z
    · cases z
def dispX (mu : Bool) (prs : List (SE × SE)) : SE := fun e => bd (dispGo prs e []) fun kvs => if kvs.length ≤ 15 then fin mu (.d (mergeD [] kvs)) else no
section
variable {X : Cx} {W : WX}
theorem pairs_go {Z : Addr → Prop} {as1 : List Addr} {H1 : Hp} {B : Addr} {s : L2.St} {e : Env} {kvs : List (Key × D)} {hF : Hd} : ∀ {prs : List (SE × SE)} {as : List Addr} {h : Hd} {H : Hp} {acc : List (Key × D)} {vacc : List (Key × V)} {R : List (V × V) → Hp → Prop},
    Ext as1 H1 as H → Sim (gx X) Z as h H → SimE (gx X) Z as H e s → B ∉ as → H B = some (.dK []) → RepK (gx X) Z as H acc vacc → dispGo prs e acc h = .ok kvs hF →
    (∀ (as2 : List Addr) (H2 : Hp) (vn : List (Key × V)), Ext as1 H1 as2 H2 → Sim (gx X) Z as2 hF H2 → B ∉ as2 → H2 B = some (.dK []) → RepK (gx X) Z as2 H2 kvs (vacc ++ vn) → R (vn.map fun kv => (kV kv.1, kv.2)) H2) →
    tPairs (prs.map fun p => (rd (gx X) W p.1, rd (gx X) W p.2)) s H R
  | [], as, h, H, acc, vacc, R, x, S, E, nB, hB, rA, q, k => by
    unfold dispGo at q
    cases q
    exact k as H [] x S nB hB (by rw [List.append_nil]; exact rA)
  | (fk, fv) :: r, as, h, H, acc, vacc, R, x, S, E, nB, hB, rA, q, k => by
    unfold dispGo at q
    have keep : ∀ {as2 : List Addr} {H2 : Hp}, Ext as H as2 H2 → B ∉ as2 ∧ H2 B = some (.dK []) := fun y => ⟨fun m => (y.fresh B m).elim nB (by rw [hB]; simp), y.frame _ _ hB nB⟩
    show rd (gx X) W fk s H fun x H1 => rd (gx X) W fv s H1 fun y H2 => tPairs _ s H2 fun ps H3 => R ((x, y) :: ps) H3
    refine ⟨Z, as, e, h, S, E, ?_⟩
    cases q3 : fk e h with
    | fail => rw [q3] at q; cases q
    | ex _ _ _ => rw [q3] at q; cases q
    | ok y h1 =>
      rw [q3] at q
      dsimp only at q
      intro as5 v5 H5 x5 S5 r5
      refine ⟨Z, as5, e, h1, S5, E.mono S x5, ?_⟩
      cases q4 : fv e h1 with
      | fail => rw [q4] at q; cases q
      | ex _ _ _ => rw [q4] at q; cases q
      | ok z h2 =>
        rw [q4] at q
        dsimp only at q
        intro as6 v6 H6 x6 S6 r6
        have y6 := x5.trans x6
        obtain ⟨nB6, hB6⟩ := keep y6
        cases q5 : keyOf y with
        | none => rw [q5] at q; cases q
        | some kk =>
          rw [q5] at q
          dsimp only at q
          have e5 := keyOf_rep r5 q5
          subst e5
          refine pairs_go (x.trans y6) S6 (E.mono S y6) nB6 hB6 ((rA.mono S y6).append (.cons r6 .nil)) q fun as2 H2 vn x2 S2 nB2 hB2 rep => ?_
          rw [List.append_assoc] at rep
          exact k as2 H2 ((kk, v6) :: vn) x2 S2 nB2 hB2 rep
theorem disp_rd {prs : List (SE × SE)} {mu : Bool} {s : L2.St} {H : Hp} {Q : VK} (z : rd (gx X) W (dispX mu prs) s H Q) : tDisp (prs.map fun p => (rd (gx X) W p.1, rd (gx X) W p.2)) s H Q := by
  obtain ⟨Z, as, e, h, S1, E1, P1⟩ := z
  intro B hB
  unfold dispX at P1
  cases q0 : dispGo prs e [] h with
  | fail => rw [bd_eq, q0] at P1; exact P1.elim
  | ex _ _ _ => exact absurd q0 dispGo_ne
  | ok kvs hF =>
    rw [bd_eq, q0] at P1
    dsimp only at P1
    by_cases hk : kvs.length ≤ 15
    case neg => rw [if_neg hk] at P1; exact P1.elim
    rw [if_pos hk] at P1
    let Z' : Addr → Prop := fun a => Z a ∨ a = B
    have kz : ∀ a, Z' a → Z a ∨ H a = none := fun a z => z.imp id fun w => by rw [w]; exact hB
    have hZ : Z' B := .inr rfl
    have x0 : Ext as H as (upd H B (.dK [])) := .new hB
    have E0 : SimE (gx X) Z' as (upd H B (.dK [])) e s := (E1.zup kz).mono S1 x0
    have S0 : Sim (gx X) Z' as h (upd H B (.dK [])) := by
      refine ⟨S1.len, S1.nd, fun n o a e1 e2 => ?_, fun a z => ?_⟩
      · have ek : upd H B (.dK []) a = H a := upd_ne fun w => S1.nin hB (w ▸ List.mem_of_getElem? e2)
        cases S1.ob n o a e1 e2 with
        | lst e r => exact .lst (ek.trans e) ((r.zup kz).mono S1 x0)
        | dct e r => exact .dct (ek.trans e) ((r.zup kz).mono S1 x0)
        | ins e r => exact .ins (ek.trans e) ((r.zup kz).mono S1 x0)
      · rcases z with z | z
        · exact x0.keep a (S1.zs a z)
        · rw [z, upd_same]; simp
    refine pairs_go (acc := []) (vacc := []) x0 S0 E0 (S1.nin hB) upd_same .nil q0 fun as2 H2 vn x2 S2 nB2 hB2 rep => ⟨hB2, vn, rfl, ?_, ?_⟩
    · rw [List.nil_append] at rep
      rw [← rep.length]; exact hk
    · rw [List.nil_append] at rep
      have x3 : Ext as H as2 (upd H2 B (.dK (mergeK [] vn))) := x2.poke hB (by rw [hB2]; simp)
      have S3 : Sim (gx X) Z' as2 hF (upd H2 B (.dK (mergeK [] vn))) := S2.poke hB2 trivial hZ nB2
      have r3 : RepK (gx X) Z' as2 (upd H2 B (.dK (mergeK [] vn))) (mergeD [] kvs) (mergeK [] vn) := (RepK.merge rep .nil).poke hB2 trivial hZ
      have SF : Sim (gx X) Z as2 hF (upd H2 B (.dK (mergeK [] vn))) := S3.done
      have rF : RepK (gx X) Z as2 (upd H2 B (.dK (mergeK [] vn))) _ _ := r3.zup fun a z => .inl (.inl z)
      cases mu with
      | false => exact P1 as2 _ _ x3 SF (.dct (.inl upd_same) nB2 (fun z => S1.zs B z hB) rF)
      | true =>
        obtain ⟨x4, S4, r4⟩ := x3.joined hB nB2 S3 (.dct upd_same r3)
        exact P1 _ _ _ x4 S4 r4
theorem pps_all {fE : Expr → SE} (hE : ∀ e, PE X e (rd (gx X) W (fE e))) {pos : Pos} : ∀ {ks vs : List Expr}, ks.length = vs.length → PPs X pos (ks.map some) vs (((ks.zip vs).map fun p => (fE p.1, fE p.2)).map fun p => (rd (gx X) W p.1, rd (gx X) W p.2))
  | [], [], _ => pps_nil
  | k :: ks, v :: vs, h => pps_cons (hE k) (hE v) (pps_all hE (by simpa using h))
theorem de_disp {fE : Expr → SE} (hE : ∀ e, PE X e (rd (gx X) W (fE e))) {pos : Pos} {ks vs : List Expr} {mu : Bool} (hl : ks.length = vs.length) (h0 : ks ≠ []) (h15 : ks.length ≤ 15) : PE X (.Dict (ks.map some) vs pos) (rd (gx X) W (dispX mu ((ks.zip vs).map fun p => (fE p.1, fE p.2)))) :=
  (pe_disp (pps_all hE hl) (by simp) (by simpa using hl) (by simpa using h0) (by simpa using h15)).imp fun s H Q z => disp_rd z
end
end Dk
end S_Dd
end
section
set_option Elab.async false
set_option linter.all false
set_option maxRecDepth 100000
set_option maxHeartbeats 4000000
/-! Fk: for k in d, of a dict that is data; it is locked meanwhile. -/
noncomputable section S_Fk
namespace Dk
open PySem PySem.Spec PyProof.Rows L2
open Classical
/-- H' is H but for the dict at a, whose lock may be another one -/
structure Lk (a : Addr) (kvs : List (Key × V)) (as : List Addr) (H H' : Hp) : Prop where
  one : Rd H a (.dK kvs)
  two : Rd H' a (.dK kvs)
  out : a ∉ as
  els : ∀ b, b ≠ a → H' b = H b
section
variable {G : Gx} {Z : Addr → Prop} {as as' : List Addr} {h : Hd} {H H' : Hp} {a : Addr} {kvs : List (Key × V)}
theorem Lk.at_ (k : Lk a kvs as H H') {b : Addr} {o : HO} (e : H b = some o) (n1 : o ≠ .dK kvs) (n2 : ∀ od, o ≠ .frz od (.dK kvs)) : H' b = some o := by
  by_cases c : b = a
  · subst c
    rcases k.one with z | ⟨od, z⟩
    · rw [e] at z; cases z; exact absurd rfl n1
    · rw [e] at z; cases z; exact absurd rfl (n2 od)
  · rw [k.els b c]; exact e
theorem Lk.rdK (k : Lk a kvs as H H') {b : Addr} {ws : List (Key × V)} (e : Rd H b (.dK ws)) : Rd H' b (.dK ws) := by
  by_cases c : b = a
  · subst c
    have : ws = kvs := by
      rcases e with e | ⟨o, e⟩ <;> rcases k.one with z | ⟨o', z⟩ <;> rw [e] at z <;> cases z <;> rfl
    subst this
    exact k.two
  · rcases e with e | ⟨o, e⟩
    · exact .inl (by rw [k.els b c]; exact e)
    · exact .inr ⟨o, by rw [k.els b c]; exact e⟩
theorem Lk.tupA (k : Lk a kvs as H H') {b : Addr} {vs : List V} (e : TupA G.K H b vs) : TupA G.K H' b vs := by
  rcases e with ⟨o, e, q⟩ | e
  · exact .inl ⟨o, k.at_ e (fun z => by cases z) (fun _ z => by cases z), q⟩
  · exact .inr e
theorem Lk.scrA (k : Lk a kvs as H H') {b : Addr} {ns : List Int} (e : ScrA G.K H b ns) : ScrA G.K H' b ns := by
  rcases e with ⟨o, e⟩ | e
  · exact .inl ⟨o, k.at_ e (fun z => by cases z) (fun _ z => by cases z)⟩
  · exact .inr e
mutual
theorem Rep.lk (k : Lk a kvs as H H') : ∀ {d : D} {v : V}, Rep G Z as H d v → Rep G Z as H' d v
  | _, _, .non => .non
  | _, _, .bl b => .bl b
  | _, _, .int i => .int i
  | _, _, .str z => .str z
  | _, _, .tup e r => .tup (k.tupA e) (Reps.lk k r)
  | _, _, .lst e n z r => .lst (k.at_ e (fun z => by cases z) (fun _ z => by cases z)) n z (Reps.lk k r)
  | _, _, .dct e n z r => .dct (k.rdK e) n z (RepK.lk k r)
  | _, _, .scr e => .scr (k.scrA e)
  | _, _, .ins e n z r => .ins (k.at_ e (fun z => by cases z) (fun _ z => by cases z)) n z (RepF.lk k r)
  | _, _, .set e d n z => .set (k.at_ e (fun z => by cases z) (fun _ z => by cases z)) d n z
  | _, _, .ref e => .ref e
  | _, _, .fn f => .fn f
  | _, _, .cls f => .cls f
  | _, _, .ty n => .ty n
theorem Reps.lk (k : Lk a kvs as H H') : ∀ {d : List D} {v : List V}, Reps G Z as H d v → Reps G Z as H' d v
  | _, _, .nil => .nil
  | _, _, .cons r q => .cons (Rep.lk k r) (Reps.lk k q)
theorem RepK.lk (k : Lk a kvs as H H') : ∀ {d : List (Key × D)} {v : List (Key × V)}, RepK G Z as H d v → RepK G Z as H' d v
  | _, _, .nil => .nil
  | _, _, .cons r q => .cons (Rep.lk k r) (RepK.lk k q)
theorem RepF.lk (k : Lk a kvs as H H') : ∀ {d : List (String × D)} {v : List (Str × V)}, RepF G Z as H d v → RepF G Z as H' d v
  | _, _, .nil => .nil
  | _, _, .cons r q => .cons (Rep.lk k r) (RepF.lk k q)
end
theorem Sim.lk (S : Sim G Z as h H) (k : Lk a kvs as H H') : Sim G Z as h H' := by
  refine ⟨S.len, S.nd, fun n o b e1 e2 => ?_, fun b z => ?_⟩
  · have hb : b ≠ a := fun z => k.out (by rw [← z]; exact List.mem_of_getElem? e2)
    cases S.ob n o b e1 e2 with
    | lst e q => exact .lst (by rw [k.els b hb]; exact e) (q.lk k)
    | dct e q => exact .dct (by rw [k.els b hb]; exact e) (q.lk k)
    | ins e q => exact .ins (by rw [k.els b hb]; exact e) (q.lk k)
  · by_cases c : b = a
    · subst c
      rcases k.two with e | ⟨o, e⟩ <;> rw [e] <;> simp
    · rw [k.els b c]; exact S.zs b z
theorem SimE.lk {e : Env} {s : L2.St} (E : SimE G Z as H e s) (k : Lk a kvs as H H') : SimE G Z as H' e s :=
  ⟨E.len, fun i d q => by
    obtain ⟨v, q1, q2⟩ := E.at_ i d q
    exact ⟨v, q1, q2.lk k⟩⟩
end
/-- no exception leaves -/
def noEx (o : OS) : OS := match o with
  | .ok (.ex _ _ _) _ => .fail
  | o => o
/-- for k in d, where d is at i -/
def sForK (i : Nat) (g : TgF) (f : SS) : SS := fun e h => match e[i]? with
  | some (some (.dct ds)) => noEx (forL [] g f (keysD ds) e h)
  | _ => .fail
section
variable {X : Cx} {W : WX} {tg : Expr}
theorem _root_.L2.PS.or {X : Cx} {st : Stmt} {t t' : TS} (p : PS X st t) (p' : PS X st t') : PS X st (fun D s H => t D s H ∨ t' D s H) :=
  ⟨fun pins s st H D I w => w.elim (p.run pins s st H D I) (p'.run pins s st H D I)⟩
theorem ItRel.keys {G : Gx} {Z : Addr → Prop} {as : List Addr} {h : Hd} {H : Hp} (S : Sim G Z as h H) {a : Addr} {o : Obj} {kvs : List (Key × V)} {ds : List (Key × D)} (e : H a = some (.frz o (.dK kvs))) (n : a ∉ as) (r : RepK G Z as H ds kvs) : ItRel G Z as H ⟨keysD ds, [], false⟩ (Itk a o kvs) := by
  intro Z' as' h' H' kz x S' ok i
  have e1 : H' a = some (.frz o (.dK kvs)) := x.frame _ _ e n
  have e2 := keysD_reps ((r.zup kz).mono S x)
  have hl : (keysD ds).length = kvs.length := by rw [e2.length, List.length_map]
  refine ⟨fun dd hd => ?_, fun q => ⟨e1, by rw [← hl]; exact Nat.le_of_eq q⟩⟩
  obtain ⟨y, hy, ry⟩ := e2.get hd
  have hi : i < kvs.length := by rw [← hl]; exact (List.getElem?_eq_some_iff.mp hd).1
  refine ⟨⟨e1, hi⟩, fun v H'' z => ?_⟩
  obtain ⟨rfl, k, w, z1, z2⟩ := z
  rw [List.getElem?_map, z1] at hy
  cases hy
  subst z2
  exact ⟨.refl, S', ry⟩
/-- the loop over what is locked -/
theorem ds_frz {iter : Expr} {body : List Stmt} {g : TgF} {f : SS} {ws : List Nat} {wk : Bool} {pos : Pos} {i : Nat} (hp : PassesOwn (model X.prog X.w) X.A X.env X.xe) (hc : X.calm = true) (hs : ∀ x, foldedSetIterable iter X.env x = pure x)
    (hi : PE X iter (tVar i)) (hg : PG X tg (rdG (gx X) ws wk g)) (hb : PSs X body (rdS (gx X) W f)) :
    PS X (.For tg iter body [] pos) fun N s H => ∃ (Z : Addr → Prop) (as : List Addr) (e : Env) (h : Hd) (a : Addr) (o : Obj) (kvs : List (Key × V)) (ds : List (Key × D)), Sim (gx X) Z as h H ∧ SimE (gx X) Z as H e s ∧ s[i]? = some (some (.ref a)) ∧ H a = some (.frz o (.dK kvs)) ∧ a ∉ as ∧ RepK (gx X) Z as H ds kvs ∧ PostS (gx X) W Z as H (forL [] g f (keysD ds) e h) N :=
  (ps_for hp hc (pi_keys hi) hg hb hs).imp fun D s H z => by
    obtain ⟨Z, as1, e, h1, a, o, kvs, ds, S1, E, q1, q2, q3, q4, P1⟩ := z
    refine ⟨_, q1, a, o, rfl, .inl ⟨kvs, q2, ?_⟩⟩
    have r1 := ItRel.keys S1 q2 q3 q4
    refine ⟨fun i m s H' => m = (keysD ds).length - i ∧ i ≤ (keysD ds).length ∧ ∃ as e h, Ext as1 H as H' ∧ Sim (gx X) Z as h H' ∧ SimE (gx X) Z as H' e s ∧ PostS (gx X) W Z as H' (forL [] g f ((keysD ds).drop i) e h) D,
      ⟨(keysD ds).length, by simp, Nat.zero_le _, as1, e, h1, .refl, S1, E, P1⟩, ?_⟩
    rintro i m s H' ⟨rfl, hle, as, e, h, x, S, E, P⟩
    have ok : srcOk [] h := srcOk_nil h
    by_cases hlt : i < (keysD ds).length
    · rw [List.drop_eq_getElem_cons hlt] at P
      unfold forL at P
      rw [if_pos ok] at P
      obtain ⟨go, yl⟩ := (r1 Z as h H' (fun a z => .inl z) x S ok i).1 (keysD ds)[i] (List.getElem?_eq_getElem hlt)
      refine .inr ⟨go, fun s' H'' => ∃ as' e' h', Ext as1 H as' H'' ∧ Sim (gx X) Z as' h' H'' ∧ SimE (gx X) Z as' H'' e' s' ∧ PostS (gx X) W Z as' H'' (forL [] g f ((keysD ds).drop (i + 1)) e' h') D,
        fun s' H'' z => ⟨(keysD ds).length - (i + 1), by omega, rfl, hlt, z⟩, fun v H'' y => ?_⟩
      obtain ⟨x2, S2, r2⟩ := yl v H'' y
      cases q : g (keysD ds)[i] e h with
      | none => rw [q] at P; exact P.elim
      | some p =>
        obtain ⟨e1, h1'⟩ := p
        rw [q] at P
        refine ⟨Z, as, e, h, (keysD ds)[i], e1, h1', S2, E.mono S x2, r2.weak (fun z => by cases z.1), q, fun as3 s3 H3 x3 S3 E3 _ => ⟨Z, as3, e1, h1', S3, E3, ?_⟩⟩
        dsimp only at P
        cases q2 : f e1 h1' with
        | fail => rw [q2] at P; exact P
        | ok fl h2 =>
          rw [q2] at P
          have P' := PostS.ext P (x2.trans x3)
          cases fl with
          | nx e2 => exact fun as4 s4 H4 x4 S4 E4 => ⟨as4, e2, h2, ((x.trans x2).trans x3).trans x4, S4, E4, PostS.ext P' x4⟩
          | ct e2 => exact fun as4 s4 H4 x4 S4 E4 => ⟨as4, e2, h2, ((x.trans x2).trans x3).trans x4, S4, E4, PostS.ext P' x4⟩
          | bk e2 => exact P'
          | rt d => exact P'
          | ex c fs e2 => exact P'
    · have ei : i = (keysD ds).length := by omega
      subst ei
      rw [List.drop_length] at P
      unfold forL at P
      rw [if_pos ok] at P
      exact .inl ⟨(r1 Z as h H' (fun a z => .inl z) x S ok _).2 rfl, P as s H' .refl S E⟩
theorem upd_self {H : Hp} {a : Addr} {o : HO} (e : H a = some o) : upd H a o = H := by
  funext b
  by_cases c : b = a
  · subst c; rw [upd_same, e]
  · rw [upd_ne c]
theorem ext_unlock {as as' : List Addr} {H H' : Hp} {a : Addr} {od : Obj} {u : HO} (e : H a = some u) (n : a ∉ as) (x : Ext as (upd H a (.frz od u)) as' H') : Ext as H as' (upd H' a u) := by
  refine ⟨x.pre, fun b o q m => ?_, fun b m => ?_, fun b q => ?_⟩
  · by_cases c : b = a
    · subst c; rw [e] at q; cases q; exact upd_same
    · rw [upd_ne c]; exact x.frame b o (by rw [upd_ne c]; exact q) m
  · rcases x.fresh b m with z | z
    · exact .inl z
    · by_cases c : b = a
      · subst c; rw [upd_same] at z; cases z
      · rw [upd_ne c] at z; exact .inr z
  · by_cases c : b = a
    · subst c; rw [upd_same]; simp
    · rw [upd_ne c]; exact x.keep b (by rw [upd_ne c]; exact q)
theorem noEx_post {Z : Addr → Prop} {as : List Addr} {H : Hp} {o : OS} {D : Ends} (p : PostS (gx X) W Z as H (noEx o) D) : PostS (gx X) W Z as H o D := by
  cases o with
  | fail => exact p
  | ok f h =>
    cases f with
    | ex c fs e => exact p.elim
    | _ => exact p
theorem post_lock {Z : Addr → Prop} {as : List Addr} {H : Hp} {o : OS} {D : Ends} {a : Addr} {kvs : List (Key × V)} {od : Obj} (e : H a = some (.dK kvs)) (n : a ∉ as) (p : PostS (gx X) W Z as H (noEx o) D) :
    PostS (gx X) W Z as (upd H a (.frz od (.dK kvs))) o ⟨fun s' H' => H' a = some (.frz od (.dK kvs)) ∧ D.nx s' (upd H' a (.dK kvs)), fun v H' => H' a = some (.frz od (.dK kvs)) ∧ D.rt v (upd H' a (.dK kvs)), fun s' H' => H' a = some (.frz od (.dK kvs)) ∧ D.bk s' (upd H' a (.dK kvs)), fun s' H' => H' a = some (.frz od (.dK kvs)) ∧ D.ct s' (upd H' a (.dK kvs))⟩ := by
  have at_ : ∀ {as' H'}, Ext as (upd H a (.frz od (.dK kvs))) as' H' → H' a = some (.frz od (.dK kvs)) ∧ Lk a kvs as' H' (upd H' a (.dK kvs)) := fun {as' H'} x => by
    have q := x.frame a _ upd_same n
    refine ⟨q, .inr ⟨od, q⟩, .inl upd_same, x.nin (by rw [upd_same]; simp) n, fun b c => upd_ne c⟩
  cases o with
  | fail => exact p
  | ok f h =>
    cases f with
    | ex c fs e => exact p.elim
    | nx e' => exact fun as' s' H' x S E => ⟨(at_ x).1, p as' s' _ (ext_unlock e n x) (S.lk (at_ x).2) (E.lk (at_ x).2)⟩
    | bk e' => exact fun as' s' H' x S E => ⟨(at_ x).1, p as' s' _ (ext_unlock e n x) (S.lk (at_ x).2) (E.lk (at_ x).2)⟩
    | ct e' => exact fun as' s' H' x S E => ⟨(at_ x).1, p as' s' _ (ext_unlock e n x) (S.lk (at_ x).2) (E.lk (at_ x).2)⟩
    | rt d => exact fun as' v H' x S r => ⟨(at_ x).1, p as' v _ (ext_unlock e n x) (S.lk (at_ x).2) (r.lk (at_ x).2)⟩
theorem ds_forK {iter : Expr} {body : List Stmt} {g : TgF} {f : SS} {ws : List Nat} {wk : Bool} {pos : Pos} {i : Nat} (hp : PassesOwn (model X.prog X.w) X.A X.env X.xe) (hc : X.calm = true) (hs : ∀ x, foldedSetIterable iter X.env x = pure x)
    (hi : PE X iter (tVar i)) (hg : PG X tg (rdG (gx X) ws wk g)) (hb : PSs X body (rdS (gx X) W f)) : PS X (.For tg iter body [] pos) (rdS (gx X) W (sForK i g f)) :=
  (PS.or (ds_frz (W := W) hp hc hs hi hg hb) (ps_lock (ds_frz (W := W) hp hc hs hi hg hb))).imp fun D s H z => by
    obtain ⟨Z, as, e, h, S, E, P⟩ := z
    unfold sForK at P
    split at P
    · next ds q =>
      obtain ⟨v, q1, q2⟩ := E.at_ i _ q
      cases q2 with
      | @dct a kvs _ r n z rk =>
        rcases r with r | ⟨o, r⟩
        · refine .inr ⟨a, .dK kvs, r, trivial, fun od => ?_⟩
          have k : Lk a kvs as H (upd H a (.frz od (.dK kvs))) := ⟨.inl r, .inr ⟨od, upd_same⟩, n, fun b c => upd_ne c⟩
          exact ⟨Z, as, e, h, a, od, kvs, ds, S.lk k, E.lk k, q1, upd_same, n, rk.lk k, post_lock r n P⟩
        · exact .inl ⟨Z, as, e, h, a, o, kvs, ds, S, E, q1, r, n, rk, noEx_post P⟩
    · exact P.elim
end
end Dk
end S_Fk
end
section
set_option Elab.async false
set_option linter.all false
set_option maxRecDepth 100000
set_option maxHeartbeats 4000000
/-! DkR: calls: built-ins, defs, methods, classes; attributes. -/
noncomputable section S_DkR
namespace Dk
open PySem PySem.Spec PyProof.Rows L2
open Classical
theorem ofS_inj {a b : String} (e : Str.ofString a = Str.ofString b) : a = b := by
  rw [Str.ofString_eq_toList, Str.ofString_eq_toList] at e
  have e1 : (a.toList.map Char.toNat) = b.toList.map Char.toNat := by
    have := congrArg (fun z : Str => z.cps.toList) e
    simpa using this
  have e2 : a.toList = b.toList := List.map_inj_right (fun x y h => Char.toNat_inj.mp h) |>.mp e1
  exact String.toList_inj.mp e2
/-! ### a def, by what it does -/
def PostC (G : Gx) (Z : Addr → Prop) (as : List Addr) (H : Hp) (o : Out D) (Q : VK) (E : XK) : Prop := match o with
  | .ok d h' => ∀ (as' : List Addr) (v : V) (H' : Hp), Ext as H as' H' → Sim G Z as' h' H' → Rep G Z as' H' d v → Q v H'
  | .ex c fs h' => ∀ (as' : List Addr) (cv : Value) (dx : Option Addr) (H' : Hp), Ext as H as' H' → Sim G Z as' h' H' → ExR G Z as' H' c fs cv dx → E cv dx H'
  | .fail => False
def spD (G : Gx) (n : Nat) (m : List D → M D) : Sp := fun vs H Q E => ∃ (Z : Addr → Prop) (as : List Addr) (h : Hd) (ds : List D), Sim G Z as h H ∧ Reps G Z as H ds vs ∧ ds.length = n ∧ PostC G Z as H (m ds h) Q E
/-- room, and no guard of a repr stands -/
structure RG (k : Nat) (A : Around) : Prop where
  r : Room k A
  g : A.guards = some []
theorem RG.mono {j k : Nat} {A : Around} (r : RG k A) (h : j ≤ k) : RG j A := ⟨r.r.mono h, r.g⟩
theorem RG.deeper {k : Nat} {A : Around} (r : RG (k + 1) A) (env : PySem.Env) : RG k (A.deeper env) := ⟨r.r.deeper env, r.g⟩
theorem RG.in1 {k : Nat} {A : Around} (r : RG (k + 1) A) : RG k A.in1 := ⟨r.r.in1, r.g⟩
theorem RG.make {k : Nat} {A : Around} (r : RG (k + 1) A) (C : Addr) (us : List Value) (kw : List (Str × Value)) : RG k (A.under (.builtin "type.__call__" ⟨.ref C :: us, kw⟩)) :=
  ⟨r.r.make C us kw, by
    have e : (A.under (.builtin "type.__call__" ⟨.ref C :: us, kw⟩)).guards = A.guards := by
      first | rfl | simp [Around.under, Code.guards, pushGuards, Code.isGuard, guardIds]
    rw [e]
    exact r.g⟩
/-- a def keeps its promise where no guard stands -/
structure FnG (P : Program) (w : World) (K : PySem.W.Frag) (mg : Str → Option Value) (base : Heap) (k : Nat) (f : Addr) (fd : FuncData) (ps : List Str) (sp : Sp) : Prop where
  len : ∀ vs H Q E, sp vs H Q E → vs.length = ps.length
  run : ∀ (A : Around) (outer : List PySem.Env) (s : Shared) (H : Hp) (args : Args) (us : List Value) (vs : List V) (Q : VK) (E : XK), RG k A → Env0 P w K mg base A outer s H → BindsTo s fd args (ps.zip us) → Vals vs us → sp vs H Q E →
    codeAny (model P w) A (.call (.ref f) args) (CR (L2.CX P w) outer P w H s Q E) s
theorem FnG.mono {P : Program} {w : World} {K : PySem.W.Frag} {mg : Str → Option Value} {base : Heap} {j k : Nat} {f : Addr} {fd : FuncData} {ps : List Str} {sp : Sp} (F : FnG P w K mg base j f fd ps sp) (h : j ≤ k) : FnG P w K mg base k f fd ps sp :=
  ⟨F.len, fun A outer s H args us vs Q E hr => F.run A outer s H args us vs Q E (hr.mono h)⟩
/-- the body's walk gives the promise -/
theorem FnG.of {P : Program} {w : World} {K : PySem.W.Frag} {mg : Str → Option Value} {base : Heap} {k : Nat} {f : Addr} {fd : FuncData} {x qual : Str} {params : Arguments} {body : List Stmt} {scope : Scope} {dvs : List V} {kws : List (Str × V)}
    {N ps : List Str} {sp : Sp} (F : FunD K x qual params body scope dvs kws f fd) (S : FnScope N ps scope)
    (len : ∀ vs H Q E, sp vs H Q E → vs.length = ps.length)
    (hbody : ∀ (cdv : Value) (A : Around) (outer : List PySem.Env) (s : Shared) (H : Hp) (vs : List V) (Q : VK) (E : XK), RG k (A.deeper (envOfC qual scope s.heap.objs.size f cdv)) → sp vs H Q E →
      ∃ t, PSs (cxOf (L2.CX P w) P w K mg base N qual scope f cdv A outer s H E) body t ∧ t { nx := fun _ H' => Q .non H', rt := Q } (start N vs) H) :
    FnG P w K mg base (k + 1) f fd ps sp := by
  obtain ⟨_, _, _, _, _, _, _, code, _, _, rfl, at_, hcode, _, _⟩ := F.ex
  refine ⟨len, fun A outer s0 H args us vs Q E room e0 bind rel wish => ?_⟩
  have stays : ∀ b o, base.get? b = some o → s0.heap.get? b = some o := fun b o q => (e0.bs b o q).1
  have inK : K.In s0.heap := e0.mod.kin.keeps stays
  refine codeAny_call_function room.r.depth (inK _ _ at_) rfl S.co S.gen rfl (PySem.W.codeRec_of inK hcode) (bind _ _ _ _ ?_)
  refine wpAny_newFunctionEnv_cells S.kind (fun y hy => ?_) fun env he s1 inside => ?_
  · obtain ⟨nm, v⟩ := y
    rcases S.par nm (List.of_mem_zip hy).1 with q | q
    · exact .inl q
    · exact .inr ⟨q, PySem.W.cellsFrom_some _ _ _ (.inl q)⟩
  subst he
  refine ⟨(e0.mod.nolimit.keeps stays).keeps inside.toInCall.keep, codeAny_func ?_⟩
  obtain ⟨t, body_ok, told⟩ := hbody code A outer s0 H vs Q E (room.deeper _) wish
  refine wpAny_mono (body_ok.run [] s1 (L2.start N vs) H _ (inv_start S room.r.hd e0 (len _ _ _ _ wish) rel inside) told) (fun fl s' z => ?_) fun _ _ z => z
  cases fl with
  | brk => obtain ⟨_, _, _, z⟩ := z; exact z.elim
  | cont => obtain ⟨_, _, _, z⟩ := z; exact z.elim
  | ret u =>
    obtain ⟨v, _, H', J, rv, z⟩ := z
    exact ⟨v, H', J.os, J.bare, J.base, J.hok, rv, z⟩
  | next =>
    obtain ⟨_, H', J, z⟩ := z
    exact ⟨.non, H', J.os, J.bare, J.base, J.hok, rfl, z⟩
/-- a def that does m, at the level k -/
structure FnS (X : Cx) (k : Nat) (f : Addr) (n : Nat) (m : List D → M D) : Prop where
  ex : ∃ (fd : FuncData) (ps : List Str), ps.length = n ∧ FnG X.prog X.w X.K X.mg X.base k f fd ps (spD (gx X) n m) ∧ Binds X.K fd ps []
  kp : PySem.W.keepIn X.K (.ref f) = true
section
variable {X : Cx} {W : WX}
theorem post_c {G : Gx} {Z : Addr → Prop} {s : L2.St} {as : List Addr} {H : Hp} {o : Out D} {Q : VK} : PX (Rep G Z) G W Z s as H o Q = PostC G Z as H o Q (WE W s) := by
  cases o <;> rfl
/-! built-ins -/
def bltX (mu : Bool) (g : Hd → List D → Option Res) (f : SA) : SE := fun e => bd (f e) fun ds h => lf mu (g h ds) h
theorem rd_blt {G : Gx} {mu : Bool} {g : Hd → List D → Option Res} {f : SA} {s : L2.St} {H : Hp} {Q : VK} (z : rd G W (bltX mu g f) s H Q) : tCB (rBs G mu g) (rdA G W f) s H Q := by
  obtain ⟨Z, as, e, h, S, E, P⟩ := z
  rw [post_px] at P
  refine ⟨Z, as, e, h, S, E, (PX.bind (R1 := Reps G Z) P).imp fun vs H1 z => ?_⟩
  obtain ⟨as1, ds, h1, _, x1, S1, r1, P1⟩ := z
  rw [← post_px] at P1
  exact ⟨Z, as1, h1, ds, S1, r1, Post.pr P1⟩
theorem de_bltB {x : Str} {id : String} {mu : Bool} {g : Hd → List D → Option Res} {a : Expr} {es : List Expr} {f : SA} {p pos : Pos} (hc : CallR X (.builtin id) (rBs (gx X) mu g)) (hg : Gl X x) (hm : X.mg x = none) (hv : bootBuiltins x = some (.builtin id))
    (hn : x ≠ "__name__") (hd : (x == ("__debug__" : Str)) = false) (ns : (a :: es).all notStar = true) (ha : PA X (a :: es) (rdA (gx X) W f)) : PE X (.Call (.Name x p) (a :: es) [] pos) (rd (gx X) W (bltX mu g f)) := by
  have n1 : notStar a = true ∧ es.all notStar = true := by simpa using ns
  exact (pe_callB hc hg hm hv ha hn hd (starEach_of n1.1) (back_all n1.2)).imp fun _ _ _ z => rd_blt z
theorem de_bltT {x : Str} {T : String} {mu : Bool} {g : Hd → List D → Option Res} {a : Expr} {es : List Expr} {f : SA} {p pos : Pos} (hc : CallR X (.type T) (rBs (gx X) mu g)) (hg : Gl X x) (hm : X.mg x = none) (hv : bootBuiltins x = some (.type T))
    (hn : x ≠ "__name__") (hd : (x == ("__debug__" : Str)) = false) (ns : (a :: es).all notStar = true) (ha : PA X (a :: es) (rdA (gx X) W f)) : PE X (.Call (.Name x p) (a :: es) [] pos) (rd (gx X) W (bltX mu g f)) := by
  have n1 : notStar a = true ∧ es.all notStar = true := by simpa using ns
  exact (pe_callTy hc hg hm hv ha hn hd (starEach_of n1.1) (back_all n1.2)).imp fun _ _ _ z => rd_blt z
/-! defs -/
def callX (m : List D → M D) (f : SA) : SE := fun e => bd (f e) m
theorem run_fnG {k : Nat} {f : Addr} {fd : FuncData} {ps : List Str} {sp : Sp} {E : XK} {pins : List (Addr × Obj)} {s : Shared} {st : L2.St} {H : Hp} {Q : VK} {us : List Value} {vs : List V} (F : FnG X.prog X.w X.K X.mg X.base k f fd ps sp) (hr : RG k X.A) (hb : Binds X.K fd ps []) (hx : PassesAt (L2.CX X.prog X.w) X st E)
    (I : Inv X pins st H s) (r : Vals vs us) (h : sp vs H Q E) : wpAny (model X.prog X.w) X.A (call (.ref f) us) (EP X pins st Q) X.xe s := by
  have hl : us.length = ps.length := by rw [← r.length]; exact F.len _ _ _ _ h
  have b := hb s us I.kIn (by rw [List.append_nil]; exact hl)
  rw [List.append_nil] at b
  refine wpAny_call (codeAny_mono (F.run X.A X.stack s H ⟨us, []⟩ us vs Q E hr I.env0 b r h) fun r s' hq => ?_)
  cases r with
  | error e => exact hx pins H s e s' I hq
  | ok fl =>
    cases fl with
    | ret u => exact I.after hq
    | next => exact False.elim hq
    | brk => exact False.elim hq
    | cont => exact False.elim hq
theorem pe_callG {x : Str} {k : Nat} {f : Addr} {fd : FuncData} {ps : List Str} {sp : Sp} {E : L2.St → XK} {p pos : Pos} {e : Expr} {es : List Expr} {t : TA} (F : FnG X.prog X.w X.K X.mg X.base k f fd ps sp) (hr : RG k X.A) (hg : Gl X x) (hm : X.mg x = some (.ref f)) (hk : PySem.W.keepIn X.K (.ref f) = true) (hb : Binds X.K fd ps []) (hx : ∀ σ, PassesAt (L2.CX X.prog X.w) X σ (E σ))
    (ha : PA X (e :: es) t) (hdb : (x == ("__debug__" : Str)) = false) (he : starEach (e :: es) X.env = (false, eval e X.env) :: starEach es X.env) (hpl : (backTo pos (starEach es X.env)).any (·.1) = false) :
    PE X (.Call (.Name x p) (e :: es) [] pos) (tCallS sp E t) := by
  refine ⟨fun pins s σ H Q I h => ?_⟩
  refine wpAny_Call_Name_kw (ld_glob I hg hm ?_ hdb)
  refine PySem.W.callWith_K (h₀ := X.base) I.ok.mod.kin hk (thn (ha.run pos pins s σ H _ I h) fun us s1 ⟨vs, H1, I1, r, q⟩ => ⟨I1.kIn, ?_⟩) he hpl
  exact run_fnG F hr hb (hx σ) I1 r q
theorem de_call {x : Str} {k n : Nat} {f : Addr} {m : List D → M D} {a : Expr} {es : List Expr} {fa : SA} {p pos : Pos} (F : FnS X k f n m) (hr : RG k X.A) (tk : Takes X W) (hg : Gl X x) (hm : X.mg x = some (.ref f)) (hd : (x == ("__debug__" : Str)) = false)
    (ns : (a :: es).all notStar = true) (hl : (a :: es).length = n) (ha : PA X (a :: es) (rdA (gx X) W fa)) (hlen : ∀ e h ds h', fa e h = .ok ds h' → ds.length = n) : PE X (.Call (.Name x p) (a :: es) [] pos) (rd (gx X) W (callX m fa)) := by
  have n1 : notStar a = true ∧ es.all notStar = true := by simpa using ns
  obtain ⟨⟨fd, ps, hn, F1, hb⟩, kp⟩ := F
  refine (pe_callG (E := WE W) F1 hr hg hm kp hb (fun s => passAt tk s) ha hd (starEach_of n1.1) (back_all n1.2)).imp fun s H Q z => ?_
  obtain ⟨Z, as, e, h, S, E, P⟩ := z
  rw [post_px] at P
  refine ⟨Z, as, e, h, S, E, (PX.bind (R1 := Reps (gx X) Z) P).imp fun vs H1 z => ?_⟩
  obtain ⟨as1, ds, h1, eq, x1, S1, r1, P1⟩ := z
  rw [post_c] at P1
  exact ⟨Z, as1, h1, ds, S1, r1, hlen _ _ _ _ eq, P1⟩
theorem de_call0 {x : Str} {k : Nat} {f : Addr} {m : List D → M D} {p pos : Pos} (F : FnS X k f 0 m) (hr : RG k X.A) (tk : Takes X W) (hg : Gl X x) (hm : X.mg x = some (.ref f)) (hd : (x == ("__debug__" : Str)) = false) : PE X (.Call (.Name x p) [] [] pos) (rd (gx X) W (callX m aNil)) := by
  obtain ⟨⟨fd, ps, hn, F1, hb⟩, kp⟩ := F
  refine ⟨fun pins s st H Q I z => ?_⟩
  refine wpAny_Call_Name_kw (ld_glob I hg hm ?_ hd)
  refine PySem.W.callWith_K0 I.kIn kp (run_fnG (us := []) (vs := []) (E := WE W st) F1 hr hb (passAt tk st) I .nil ?_)
  obtain ⟨Z, as, e, h, S, E, P⟩ := z
  rw [post_px, post_c] at P
  exact ⟨Z, as, h, [], S, .nil, rfl, P⟩
end
/-! ### attributes -/
def asIns (h : Hd) : D → Option (String × Fs)
  | .ins c fs => some (c, fs)
  | .ref n => match h[n]? with
    | some (.ins c fs) => some (c, fs)
    | _ => none
  | _ => none
theorem asIns_rep {G : Gx} {Z : Addr → Prop} {as : List Addr} {h : Hd} {H : Hp} (S : Sim G Z as h H) {d : D} {v : V} {c : String} {fs : Fs} (r : Rep G Z as H d v) (e : asIns h d = some (c, fs)) : ∃ a dx fv, v = .ref a ∧ H a = some (.ins (adr G.K c) dx fv) ∧ RepF G Z as H fs fv := by
  cases r with
  | ins e1 _ _ q =>
    simp [asIns] at e
    obtain ⟨rfl, rfl⟩ := e
    exact ⟨_, _, _, rfl, e1, q⟩
  | @ref a n e1 =>
    unfold asIns at e
    dsimp only at e
    cases e2 : h[n]? with
    | none => simp [e2] at e
    | some o =>
      simp only [e2] at e
      cases o with
      | ins c' fs' =>
        simp at e
        obtain ⟨rfl, rfl⟩ := e
        cases S.ob n _ a e2 e1 with
        | ins e3 q => exact ⟨_, _, _, rfl, e3, q⟩
      | dct _ => simp at e
      | lst _ => simp at e
  | _ => simp [asIns] at e
theorem RepF.look {G : Gx} {Z : Addr → Prop} {as : List Addr} {H : Hp} {f : String} : ∀ {fs : Fs} {fv : List (Str × V)}, RepF G Z as H fs fv →
    (fs.lookup f = none ∧ fv.lookup (Str.ofString f) = none) ∨ ∃ d v, fs.lookup f = some d ∧ fv.lookup (Str.ofString f) = some v ∧ Rep G Z as H d v
  | _, _, .nil => .inl ⟨rfl, rfl⟩
  | _, _, @RepF.cons _ _ _ _ k d ds v vs r q => by
    by_cases e : f = k
    · subst e
      exact .inr ⟨d, v, by simp [List.lookup], by simp [List.lookup], r⟩
    · have e1 : (f == k) = false := beq_eq_false_iff_ne.mpr e
      have e2 : (Str.ofString f == Str.ofString k) = false := beq_eq_false_iff_ne.mpr fun z => e (ofS_inj z)
      simp only [List.lookup, e1, e2]
      exact RepF.look q
/-- fields that may be read and written, methods: class, name -/
structure CTab where
  fld : String → String → Bool
  meth : String → String → Option (List D → M D)
def attX (fld : String → String → Bool) (f : String) (fo : SE) : SE := fun e => bd (fo e) fun d h => match asIns h d with
  | some (c, fs) => if fld c f = true then (match fs.lookup f with
    | some v => .ok v h
    | none => .fail) else .fail
  | none => .fail
def putFs (f : String) (v : D) : Fs → Fs
  | [] => [(f, v)]
  | (g, x) :: r => if g = f then (g, v) :: r else (g, x) :: putFs f v r
theorem RepF.put {G : Gx} {Z : Addr → Prop} {as : List Addr} {H : Hp} {f : String} {d : D} {v : V} (r : Rep G Z as H d v) : ∀ {fs : Fs} {fv : List (Str × V)}, RepF G Z as H fs fv → RepF G Z as H (putFs f d fs) (putF (Str.ofString f) v fv)
  | _, _, .nil => .cons r .nil
  | _, _, @RepF.cons _ _ _ _ k x ds y vs r1 q => by
    unfold putFs putF
    by_cases e : k = f
    · subst e
      rw [if_pos rfl, if_pos rfl]
      exact .cons r q
    · rw [if_neg e, if_neg fun z => e (ofS_inj z)]
      exact .cons r1 (q.put r)
theorem RepF.length {G : Gx} {Z : Addr → Prop} {as : List Addr} {H : Hp} : ∀ {fs : Fs} {fv : List (Str × V)}, RepF G Z as H fs fv → fs.length = fv.length
  | _, _, .nil => rfl
  | _, _, .cons _ q => by rw [List.length_cons, List.length_cons, q.length]
def attD (fld : String → String → Bool) (f : String) (o d : D) (h : Hd) : Option Hd := match o with
  | .ref n => match h[n]? with
    | some (.ins c fs) => if fld c f = true ∧ fs.length < 1000 then some (h.set n (.ins c (putFs f d fs))) else none
    | _ => none
  | _ => none
def sAtt (fld : String → String → Bool) (f : String) (fo fv : SE) : SS := fun e => sE (bd (fv e) fun d => bd (fo e) fun o => fun h => match attD fld f o d h with
  | some h' => .ok () h'
  | none => .fail) e fun _ h => .ok (.nx e) h
def noBase : Expr → Bool
  | .Call (.Name _ _) [] [] _ => false
  | _ => true
theorem base_of {o : Expr} (n : noBase o = true) (name : Str) (env : PySem.Env) : attributeBase o name env (eval o env) = eval o env := by
  cases o with
  | Call f as ks p =>
    cases f with
    | Name x q =>
      cases as with
      | nil =>
        cases ks with
        | nil => cases n
        | cons _ _ => rfl
      | cons _ _ => rfl
    | _ => rfl
  | _ => rfl
section
variable {X : Cx} {W : WX}
/-- what the text has of the classes -/
def FldOk (X : Cx) (fld : String → String → Bool) : Prop := ∀ c f, fld c f = true → Cls X.K (adr X.K c) ∧ NoAttr X.K (adr X.K c) (Str.ofString f)
theorem de_att {fld : String → String → Bool} {f : String} {o : Expr} {fo : SE} {pos : Pos} (ok : FldOk X fld) (n : noBase o = true) (ho : PE X o (rd (gx X) W fo)) : PE X (.Attribute o (Str.ofString f) pos) (rd (gx X) W (attX fld f fo)) :=
  (pe_fld ho (base_of n _ _)).imp fun s H Q z => by
    obtain ⟨Z, as, e, h, S, E, P⟩ := z
    refine ⟨Z, as, e, h, S, E, (Post.bind P).imp fun x H1 z => ?_⟩
    obtain ⟨as1, d, h1, _, x1, S1, r1, P1⟩ := z
    cases q : asIns h1 d with
    | none => simp only [q] at P1; exact P1.elim
    | some p =>
      obtain ⟨c, fs⟩ := p
      simp only [q] at P1
      by_cases hf : fld c f = true
      · rw [if_pos hf] at P1
        obtain ⟨a, dx, fv, rfl, h2, h3⟩ := asIns_rep S1 r1 q
        rcases h3.look (f := f) with ⟨l1, l2⟩ | ⟨d', v, l1, l2, r2⟩
        · rw [l1] at P1; exact P1.elim
        · rw [l1] at P1
          obtain ⟨c1, c2⟩ := ok c f hf
          exact ⟨a, _, dx, fv, v, rfl, h2, c1, c2, l2, P1 as1 v H1 .refl S1 r2⟩
      · rw [if_neg hf] at P1; exact P1.elim
theorem ds_att {fld : String → String → Bool} {f : String} {o value : Expr} {fo fv : SE} {pos pos' : Pos} (ok : FldOk X fld) (hs : swapsWith value (some (.Attribute o (Str.ofString f) pos')) pos.line X.env = pure false) (ho : PE X o (rd (gx X) W fo)) (hv : PE X value (rd (gx X) W fv)) :
    PS X (.Assign [.Attribute o (Str.ofString f) pos'] value pos) (rdS (gx X) W (sAtt fld f fo fv)) :=
  (ps_fld ho hv hs).imp fun D s H z => by
    obtain ⟨Z, as, e, h, S, E, P⟩ := z
    have P' := PostS.bind (R := fun _ _ (_ _ : Unit) => True) P S E
    refine ⟨Z, as, e, h, S, E, ?_⟩
    rw [post_px]
    refine (PX.bind (R1 := Rep (gx X) Z) P').imp fun y H1 z => ?_
    obtain ⟨as1, d, h1, e1, x1, S1, r1, P1⟩ := z
    refine ⟨Z, as1, e, h1, S1, E.mono S x1, ?_⟩
    rw [post_px]
    refine (PX.bind (R1 := Rep (gx X) Z) P1).imp fun x H2 z => ?_
    obtain ⟨as2, o', h2, e2, x2, S2, r2, P2⟩ := z
    cases q : attD fld f o' d h2 with
    | none => simp only [q] at P2; exact P2.elim
    | some h3 =>
      simp only [q] at P2
      unfold attD at q
      cases r2 with
      | @ref a n ea =>
        dsimp only at q
        cases q3 : h2[n]? with
        | none => rw [q3] at q; cases q
        | some ob =>
          rw [q3] at q
          cases ob with
          | ins c fs =>
            dsimp only at q
            obtain ⟨⟨hf, hl⟩, rfl⟩ := some_ite q
            cases S2.ob n _ a q3 ea with
            | @ins _ dx _ fv _ e3 q4 =>
              obtain ⟨c1, c2⟩ := ok c f hf
              obtain ⟨x3, S3⟩ := S2.putI (dx := dx) (c := c) ea (q4.put (f := f) (r1.mono S1 x2))
              refine ⟨a, _, dx, fv, rfl, e3, c1, c2, by rw [← q4.length]; exact hl, ?_⟩
              obtain ⟨as3, _, h3', e3', x3', S3', _, P3⟩ := P2 as2 () _ x3 S3 trivial
              exact P3 as3 s _ .refl S3' (E.mono S x3')
          | lst _ => cases q
          | dct _ => cases q
      | _ => cases q
/-! ### method calls -/
theorem _root_.L2.PE.ex {X : Cx} {e : Expr} {ι : Type} {t : ι → TE} (p : ∀ i, PE X e (t i)) : PE X e (fun s H Q => ∃ i, t i s H Q) :=
  ⟨fun pins s st H Q I w => w.elim fun i w => (p i).run pins s st H Q I w⟩
theorem _root_.L2.PE.or {X : Cx} {e : Expr} {t t' : TE} (p : PE X e t) (p' : PE X e t') : PE X e (fun s H Q => t s H Q ∨ t' s H Q) :=
  ⟨fun pins s st H Q I w => w.elim (p.run pins s st H Q I) (p'.run pins s st H Q I)⟩
theorem few_of {args : List Expr} {env : PySem.Env} {pos : Pos} (n : args.all notStar = true) (hl : args.length < 30) :
    ((backTo pos (starEach args env)).all (fun x => !x.1) && (backToKw pos (keywordEach [] env)).all (fun x => x.1.isSome) && decide (args.length + ([] : List Keyword).length + (if ([] : List Keyword).isEmpty then 0 else 1) < 30)) = true := by
  have h1 : (backTo pos (starEach args env)).all (fun x => !x.1) = true := by
    have h2 := back_all (env := env) (pos := pos) n
    rw [List.any_eq_false] at h2
    rw [List.all_eq_true]
    intro x hx
    have := h2 x hx
    simpa using this
  rw [h1]
  have h3 : (backToKw pos (keywordEach [] env)).all (fun x => x.1.isSome) = true := rfl
  rw [h3]
  simpa using hl
theorem meth_eval {o : Expr} {name : Str} {apos pos : Pos} {args : List Expr} {env : PySem.Env} (nb : noBase o = true) (n : args.all notStar = true) (hl : args.length < 30) (hline : (apos.endLine == pos.line) = true) :
    eval (.Call (.Attribute o name apos) args [] pos) env = (do
      let ov ← eval o env
      standAt apos.atName
      let (f, first) ← holding [ov] (getMethod ov name (do return (← importBound o env).getD true))
      callWith pos f first (backTo pos (starEach args env)) (backToKw pos (keywordEach [] env))) := by
  have hform : methodCallForm (args.length + ([] : List Keyword).length) (backTo pos (starEach args env)) (backToKw pos (keywordEach [] env)) = true := few_of n hl
  have hpos : methodCallPos true o env apos pos = pure pos := by unfold methodCallPos; simp [hline]
  rw [arm_eval_Call, base_of nb]
  unfold methodCall
  rw [hform, hpos]
  rfl
/-- a method that does m -/
structure MethS (X : Cx) (k n : Nat) (c name : String) (m : List D → M D) : Prop where
  cls : Cls X.K (adr X.K c)
  ex : ∃ g, Meth X.K (adr X.K c) (Str.ofString name) g ∧ FnS X k g (n + 1) m
def tMthU (G : Gx) (W : WX) (c name : String) (m : List D → M D) (fo : SE) (fa : SA) : TE := fun s H Q => ∃ (Z : Addr → Prop) (as : List Addr) (e : Env) (h : Hd), Sim G Z as h H ∧ SimE G Z as H e s ∧ Post G W Z s as H (fo e h) fun v H1 => ∃ (as1 : List Addr) (d : D) (h1 : Hd) (fs : Fs),
  Ext as H as1 H1 ∧ Sim G Z as1 h1 H1 ∧ Rep G Z as1 H1 d v ∧ asIns h1 d = some (c, fs) ∧ fs.lookup name = none ∧ Post G W Z s as1 H1 (bd (fa e) (fun ds => m (d :: ds)) h1) Q
theorem pe_mthU {k n : Nat} {c name : String} {m : List D → M D} {o : Expr} {es : List Expr} {fo : SE} {fa : SA} {apos pos : Pos} (F : MethS X k n c name m) (hr : RG k X.A) (tk : Takes X W) (nb : noBase o = true) (ns : es.all notStar = true) (hl : es.length < 30) (hline : (apos.endLine == pos.line) = true)
    (ho : PE X o (rd (gx X) W fo)) (ha : PA X es (rdA (gx X) W fa)) (hlen : ∀ e h ds h', fa e h = .ok ds h' → ds.length = n) (hnil : es = [] → fa = aNil) :
    PE X (.Call (.Attribute o (Str.ofString name) apos) es [] pos) (tMthU (gx X) W c name m fo fa) := by
  obtain ⟨cl, g, hm, ⟨fd, ps, hn, F1, hb⟩, kp⟩ := F
  refine ⟨fun pins s st H Q I z => ?_⟩
  obtain ⟨Z, as, e, h, S, E, P⟩ := z
  refine PySem.W.methodCall_KW (thn (ho.run pins s st H _ I ⟨Z, as, e, h, S, E, P⟩) fun u s1 ⟨x, H1, I1, rx, z⟩ => ?_) (meth_eval nb ns hl hline)
  obtain ⟨as1, d, h1, fs, x1, S1, r1, q1, l1, P1⟩ := z
  obtain ⟨a, dx, fv, rfl, h2, h3⟩ := asIns_rep S1 r1 q1
  obtain rfl : u = Value.ref a := rx
  have l2 : fv.lookup (Str.ofString name) = none := by
    rcases h3.look (f := name) with ⟨_, l⟩ | ⟨_, _, l, _⟩
    · exact l
    · rw [l1] at l; cases l
  refine getmeth_ok I1 h2 cl hm l2 ?_
  have end_ : ∀ {s2 : Shared} {as2 : List Addr} {ds : List D} {h2 : Hd} {H2 : Hp} {vs : List V} {us : List Value}, ds.length = n → Inv X pins st H2 s2 → Ext as1 H1 as2 H2 → Sim (gx X) Z as2 h2 H2 → Reps (gx X) Z as2 H2 ds vs → Vals vs us → PostC (gx X) Z as2 H2 (m (d :: ds) h2) Q (WE W st) →
      wpAny (model X.prog X.w) X.A (call (.ref g) (.ref a :: us)) (EP X pins st Q) X.xe s2 := fun hd I2 x2 S2 r2 rv P2 =>
    run_fnG (vs := .ref a :: _) (E := WE W st) F1 hr hb (passAt tk st) I2 (.cons rfl rv) ⟨Z, _, _, _, S2, .cons (r1.mono S1 x2) r2, by rw [List.length_cons, hd], P2⟩
  rw [post_px] at P1
  cases es with
  | nil =>
    have hf := hnil rfl
    subst hf
    have P2 : PX (Rep (gx X) Z) (gx X) W Z st as1 H1 (m [d] h1) Q := P1
    rw [post_c] at P2
    exact PySem.W.callWith_K0 (first := [.ref a]) I1.kIn hm.kp (end_ (hlen e h1 [] h1 rfl) I1 .refl S1 .nil .nil P2)
  | cons e0 es =>
    have n1 : notStar e0 = true ∧ es.all notStar = true := by simpa using ns
    refine PySem.W.callWith_K (first := [.ref a]) (h₀ := X.base) I.ok.mod.kin hm.kp (thn (ha.run pos pins s1 st H1 _ I1 ⟨Z, as1, e, h1, S1, E.mono S x1, PX.bind (R1 := Reps (gx X) Z) P1⟩) fun us s2 ⟨vs, H2, I2, rv, z⟩ => ⟨I2.kIn, ?_⟩) (starEach_of n1.1) (back_all n1.2)
    obtain ⟨as2, ds, h2, eq, x2, S2, r2, P2⟩ := z
    rw [post_c] at P2
    exact end_ (hlen _ _ _ _ eq) I2 x2 S2 r2 rv P2
/-- of a built-in class: what must be known -/
structure MtS (X : Cx) (name : Str) (bl : D → List D → M D) (T : String) (ty : V → Hp → Prop) (id : String) : Prop where
  ok : TyOk X T ty
  pa : PlainAttrs T
  slot : Slot T name id
  desc : typeOf (.builtin id) = pure (.type "method_descriptor")
  mt : MtR X id (rM (gx X) bl)
def tMthB (G : Gx) (W : WX) (bl : D → List D → M D) (ty : V → Hp → Prop) (fo : SE) (fa : SA) : TE := fun s H Q => ∃ (Z : Addr → Prop) (as : List Addr) (e : Env) (h : Hd), Sim G Z as h H ∧ SimE G Z as H e s ∧ Post G W Z s as H (fo e h) fun v H1 => ∃ (as1 : List Addr) (d : D) (h1 : Hd),
  Ext as H as1 H1 ∧ Sim G Z as1 h1 H1 ∧ Rep G Z as1 H1 d v ∧ ty v H1 ∧ Post G W Z s as1 H1 (bd (fa e) (fun ds => bl d ds) h1) Q
/-- the end of a built-in method: no exceptions -/
def NoEx (bl : D → List D → M D) : Prop := ∀ d ds h c fs h', bl d ds h ≠ .ex c fs h'
theorem pe_mthB {name : Str} {bl : D → List D → M D} {T id : String} {ty : V → Hp → Prop} {o : Expr} {es : List Expr} {fo : SE} {fa : SA} {apos pos : Pos} (F : MtS X name bl T ty id) (ne : NoEx bl) (nb : noBase o = true) (ns : es.all notStar = true) (hl : es.length < 30) (hline : (apos.endLine == pos.line) = true)
    (ho : PE X o (rd (gx X) W fo)) (ha : PA X es (rdA (gx X) W fa)) (hnil : es = [] → fa = aNil) : PE X (.Call (.Attribute o name apos) es [] pos) (tMthB (gx X) W bl ty fo fa) := by
  obtain ⟨ok, pa, slot, desc, mt⟩ := F
  have fin : ∀ {Z : Addr → Prop} {s : L2.St} {as : List Addr} {H : Hp} {Q : VK} {d : D} {ds : List D} {h : Hd}, PX (Rep (gx X) Z) (gx X) W Z s as H (bl d ds h) Q → PostB (gx X) Z as H (bl d ds h) Q := fun {Z s as H Q d ds h} p => by
    cases q : bl d ds h with
    | fail => rw [q] at p; exact p
    | ok d' h' => rw [q] at p; exact p
    | ex c fs h' => exact absurd q (ne _ _ _ _ _ _)
  cases es with
  | nil =>
    have hf := hnil rfl
    subst hf
    refine (pe_mG0 ok pa slot desc mt ho (base_of nb _ _) hline).imp fun s H Q z => ?_
    obtain ⟨Z, as, e, h, S, E, P⟩ := z
    refine ⟨Z, as, e, h, S, E, P.imp fun x H1 z => ?_⟩
    obtain ⟨as1, d, h1, x1, S1, r1, ty1, P1⟩ := z
    rw [post_px] at P1
    have P2 : PX (Rep (gx X) Z) (gx X) W Z s as1 H1 (bl d [] h1) Q := P1
    exact ⟨ty1, Z, as1, h1, d, [], S1, r1, .nil, fin P2⟩
  | cons e0 es =>
    have n1 : notStar e0 = true ∧ es.all notStar = true := by simpa using ns
    refine (pe_mG ok pa slot desc mt ho ha (base_of nb _ _) (few_of ns hl) hline (starEach_of n1.1) (back_all n1.2)).imp fun s H Q z => ?_
    obtain ⟨Z, as, e, h, S, E, P⟩ := z
    refine ⟨Z, as, e, h, S, E, P.imp fun x H1 z => ?_⟩
    obtain ⟨as1, d, h1, x1, S1, r1, ty1, P1⟩ := z
    rw [post_px] at P1
    refine ⟨ty1, Z, as1, e, h1, S1, E.mono S x1, (PX.bind (R1 := Reps (gx X) Z) P1).imp fun vs H2 z => ?_⟩
    obtain ⟨as2, ds, h2, _, x2, S2, r2, P2⟩ := z
    exact ⟨Z, as2, h2, d, ds, S2, r1.mono S1 x2, r2, fin P2⟩
/-! ### which method it is -/
inductive Kd where
  | lst | tup | str | dct | odd
  deriving DecidableEq
def kdOf (h : Hd) : D → Kd
  | .str _ => .str
  | .tup _ => .tup
  | .lst _ => .lst
  | .dct _ => .dct
  | .ref n => match h[n]? with
    | some (.lst _) => .lst
    | some (.dct _) => .dct
    | _ => .odd
  | _ => .odd
inductive BM where
  | app | ins | pop | idxL | idxT | strip | join | ext | clr | rem | dpop | dget | dupd
  deriving DecidableEq
def BM.nm : BM → String
  | .app => "append"
  | .ins => "insert"
  | .pop => "pop"
  | .idxL => "index"
  | .idxT => "index"
  | .strip => "strip"
  | .join => "join"
  | .ext => "extend"
  | .clr => "clear"
  | .rem => "remove"
  | .dpop => "pop"
  | .dget => "get"
  | .dupd => "update"
def BM.kd : BM → Kd
  | .app => .lst
  | .ins => .lst
  | .pop => .lst
  | .idxL => .lst
  | .idxT => .tup
  | .strip => .str
  | .join => .str
  | .ext => .lst
  | .clr => .lst
  | .rem => .lst
  | .dpop => .dct
  | .dget => .dct
  | .dupd => .dct
def BM.fn : BM → D → List D → M D
  | .app => appM
  | .ins => insM
  | .pop => popM
  | .idxL => idxLM
  | .idxT => idxTM
  | .strip => stripM
  | .join => joinM
  | .ext => extM
  | .clr => clrM
  | .rem => remS
  | .dpop => dpopM
  | .dget => dgetM
  | .dupd => dupdM
def BM.all : List BM := [.app, .ins, .pop, .idxL, .idxT, .strip, .join, .ext, .clr, .rem, .dpop, .dget, .dupd]
def selM (name : String) (h : Hd) (d : D) : Option BM := BM.all.find? fun b => b.nm == name && b.kd == kdOf h d
def tyK (K : PySem.W.Frag) : Kd → V → Hp → Prop
  | .lst => fun x H => ∃ a vs, x = .ref a ∧ H a = some (.lst vs)
  | .tup => fun x H => ∃ a vs, x = .ref a ∧ TupA K H a vs
  | .str => fun x _ => ∃ z, x = .str z
  | .dct => fun x H => ∃ a vs, x = .ref a ∧ Rd H a (.dK vs)
  | .odd => fun _ _ => False
theorem tyK_of {Z : Addr → Prop} {as : List Addr} {h : Hd} {H : Hp} {d : D} {v : V} (S : Sim (gx X) Z as h H) (r : Rep (gx X) Z as H d v) (n : kdOf h d ≠ .odd) : tyK X.K (kdOf h d) v H := by
  cases r with
  | str z => exact ⟨z, rfl⟩
  | tup e q => exact ⟨_, _, rfl, e⟩
  | lst e _ _ _ => exact ⟨_, _, rfl, e⟩
  | dct e _ _ _ => exact ⟨_, _, rfl, e⟩
  | @ref a i e =>
    unfold kdOf at n ⊢
    dsimp only at n ⊢
    cases q : h[i]? with
    | none => rw [q] at n; exact absurd rfl n
    | some o =>
      rw [q] at n
      cases o with
      | lst xs =>
        cases S.ob i _ a q e with
        | lst e2 _ => exact ⟨_, _, rfl, e2⟩
      | dct xs =>
        cases S.ob i _ a q e with
        | dct e2 _ => exact ⟨_, _, rfl, .inl e2⟩
      | ins _ _ => exact absurd rfl n
  | _ => exact absurd rfl n
theorem tyok_lst : TyOk X "list" (tyK X.K .lst) := by
  intro pins s st H x v I r z
  obtain ⟨a, vs, rfl, t⟩ := z
  exact tyV_is I r (show tyV X.K "list" (.ref a) st from .inl ⟨rfl, vs, SqL.of t⟩)
theorem tyok_str : TyOk X "str" (tyK X.K .str) := by
  intro pins s st H x v I r z
  obtain ⟨y, rfl⟩ := z
  exact tyV_is I r (show tyV X.K "str" (.str y) st from rfl)
theorem tyok_dct : TyOk X "dict" (tyK X.K .dct) := by
  intro pins s st H x v I r z
  obtain ⟨a, vs, rfl, t⟩ := z
  cases r
  have g : DGet st a (kV (.inl 0)) (valV vs (.inl 0)) := .inl ⟨vs, .inl 0, t, rfl, rfl⟩
  exact ⟨dict_typeIs I g, dict_noDict I g⟩
theorem bm_ok (hu : X.A.units + 64 < cLine) : ∀ b : BM, ∃ T id, MtS X (Str.ofString b.nm) b.fn T (tyK X.K b.kd) id
  | .app => ⟨_, _, tyok_lst, F.plainAttrs_list, F.slot_list_append, F.type_list_append, mt_appN⟩
  | .ins => ⟨_, _, tyok_lst, F.plainAttrs_list, F.slot_list_insert, F.type_list_insert, mt_insN⟩
  | .pop => ⟨_, _, tyok_lst, F.plainAttrs_list, F.slot_list_pop, F.type_list_pop, mt_popN⟩
  | .idxL => ⟨_, _, tyok_lst, F.plainAttrs_list, F.slot_list_index, F.type_list_index, mt_idxLN hu⟩
  | .idxT => ⟨_, _, tyok_tup, F.plainAttrs_tuple, F.slot_tuple_index, F.type_tuple_index, mt_idxTN hu⟩
  | .strip => ⟨_, _, tyok_str, F.plainAttrs_str, F.slot_str_strip, F.type_str_strip, mt_stripN⟩
  | .join => ⟨_, _, tyok_str, F.plainAttrs_str, F.slot_str_join, F.type_str_join, mt_joinN⟩
  | .ext => ⟨_, _, tyok_lst, F.plainAttrs_list, F.slot_list_extend, F.type_list_extend, mt_extN⟩
  | .clr => ⟨_, _, tyok_lst, F.plainAttrs_list, F.slot_list_clear, F.type_list_clear, mt_clrN⟩
  | .rem => ⟨_, _, tyok_lst, F.plainAttrs_list, F.slot_list_remove, F.type_list_remove, mt_remN⟩
  | .dpop => ⟨_, _, tyok_dct, F.plainAttrs_dict, F.slot_dict_pop, F.type_dict_pop, mt_dpopN⟩
  | .dget => ⟨_, _, tyok_dct, F.plainAttrs_dict, F.slot_dict_get, F.type_dict_get, mt_dgetN hu⟩
  | .dupd => ⟨_, _, tyok_dct, F.plainAttrs_dict, F.slot_dict_update, F.type_dict_update, mt_dupdN⟩
theorem onL_ne {d : D} {h : Hd} {k : Nat → List D → Out D} (hk : ∀ n xs c fs h', k n xs ≠ .ex c fs h') (c : String) (fs : Fs) (h' : Hd) : onL d h k ≠ .ex c fs h' := by
  unfold onL
  split
  · split
    · exact hk _ _ _ _ _
    · exact fun z => nomatch z
  · exact fun z => nomatch z
theorem bm_ne (b : BM) : NoEx b.fn := by
  intro d ds h c fs h'
  cases b
  · exact onL_ne (fun n xs c fs h' => by split <;> (try split) <;> exact fun z => nomatch z) _ _ _
  · exact onL_ne (fun n xs c fs h' => by split <;> (try split) <;> (try split) <;> exact fun z => nomatch z) _ _ _
  · exact onL_ne (fun n xs c fs h' => by split <;> (try split) <;> (try split) <;> (try split) <;> (try split) <;> exact fun z => nomatch z) _ _ _
  · show idxLM d ds h ≠ _
    unfold idxLM
    split <;> (try split) <;> exact fun z => nomatch z
  · show idxTM d ds h ≠ _
    unfold idxTM
    split <;> (try split) <;> exact fun z => nomatch z
  · show stripM d ds h ≠ _
    unfold stripM
    split <;> (try split) <;> exact fun z => nomatch z
  · show joinM d ds h ≠ _
    unfold joinM
    split <;> (try split) <;> (try split) <;> (try split) <;> exact fun z => nomatch z
  · exact onL_ne (fun n xs c fs h' => by split <;> (try split) <;> (try split) <;> exact fun z => nomatch z) _ _ _
  · exact onL_ne (fun n xs c fs h' => by split <;> exact fun z => nomatch z) _ _ _
  · exact onL_ne (fun n xs c fs h' => by split <;> (try split) <;> (try split) <;> exact fun z => nomatch z) _ _ _
  · show dpopM d ds h ≠ _
    unfold dpopM onD
    intro z
    split at z
    · split at z
      · dsimp only at z
        split at z
        · split at z
          · split at z <;> cases z
          · cases z
        · cases z
      · cases z
    · cases z
  · show dgetM d ds h ≠ _
    unfold dgetM
    intro z
    split at z
    · split at z
      · split at z <;> cases z
      · split at z <;> cases z
      · cases z
    · cases z
  · show dupdM d ds h ≠ _
    unfold dupdM onD
    intro z
    split at z
    · split at z
      · dsimp only at z
        split at z
        · split at z <;> cases z
        · cases z
      · cases z
    · cases z
def mthX (tb : String → String → Option (Nat × (List D → M D))) (name : String) (n : Nat) (fo : SE) (fa : SA) : SE := fun e => bd (fo e) fun d h => match asIns h d with
  | some (c, fs) => (match tb c name, fs.lookup name with
    | some (k, m), none => if k = n then bd (fa e) (fun ds => m (d :: ds)) h else .fail
    | _, _ => .fail)
  | none => (match selM name h d with
    | some b => bd (fa e) (fun ds => b.fn d ds) h
    | none => .fail)
theorem de_mth {tb : String → String → Option (Nat × (List D → M D))} {name : String} {k : Nat} {o : Expr} {es : List Expr} {fo : SE} {fa : SA} {apos pos : Pos} (hu : X.A.units + 64 < cLine) (F : ∀ c n m, tb c name = some (n, m) → MethS X k n c name m) (hr : RG k X.A) (tk : Takes X W) (nb : noBase o = true) (ns : es.all notStar = true) (hl : es.length < 30) (hline : (apos.endLine == pos.line) = true)
    (ho : PE X o (rd (gx X) W fo)) (ha : PA X es (rdA (gx X) W fa)) (hlen : ∀ e h ds h', fa e h = .ok ds h' → ds.length = es.length) (hnil : es = [] → fa = aNil) :
    PE X (.Call (.Attribute o (Str.ofString name) apos) es [] pos) (rd (gx X) W (mthX tb name es.length fo fa)) := by
  have p1 : ∀ i : { q : String × (List D → M D) // tb q.1 name = some (es.length, q.2) }, PE X (.Call (.Attribute o (Str.ofString name) apos) es [] pos) (tMthU (gx X) W i.1.1 name i.1.2 fo fa) := fun i =>
    pe_mthU (F _ _ _ i.2) hr tk nb ns hl hline ho ha hlen hnil
  have p2 : ∀ i : { b : BM // b.nm = name }, PE X (.Call (.Attribute o (Str.ofString name) apos) es [] pos) (tMthB (gx X) W i.1.fn (tyK X.K i.1.kd) fo fa) := fun i => by
    obtain ⟨T, id, q⟩ := bm_ok hu i.1
    rw [i.2] at q
    exact pe_mthB q (bm_ne _) nb ns hl hline ho ha hnil
  have p0 : PE X (.Call (.Attribute o (Str.ofString name) apos) es [] pos) (fun s H Q => ∃ (Z : Addr → Prop) (as : List Addr) (e : Env) (h : Hd), Sim (gx X) Z as h H ∧ SimE (gx X) Z as H e s ∧ Post (gx X) W Z s as H (fo e h) fun _ _ => False) := by
    refine ⟨fun pins s st H Q I z => ?_⟩
    refine PySem.W.methodCall_KW (thn (ho.run pins s st H _ I z) fun u s1 ⟨x, H1, I1, rx, z⟩ => z.elim) (meth_eval nb ns hl hline)
  refine (p0.or ((PE.ex p1).or (PE.ex p2))).imp fun s H Q z => ?_
  obtain ⟨Z, as, e, h, S, E, P⟩ := z
  cases q : fo e h with
  | fail =>
    unfold mthX at P
    rw [bd_eq, q] at P
    exact P.elim
  | ex c fs h1 =>
    refine .inl ⟨Z, as, e, h, S, E, ?_⟩
    unfold mthX at P
    rw [bd_eq, q] at P
    rw [q]
    exact P
  | ok d h1 =>
    unfold mthX at P
    rw [bd_eq, q] at P
    dsimp only at P
    cases q1 : asIns h1 d with
    | some p =>
      obtain ⟨c, fs⟩ := p
      simp only [q1] at P
      cases q2 : tb c name with
      | none => simp only [q2] at P; exact P.elim
      | some km =>
        obtain ⟨k', m⟩ := km
        cases q3 : fs.lookup name with
        | some _ => simp only [q2, q3] at P; exact P.elim
        | none =>
          simp only [q2, q3] at P
          by_cases hk : k' = es.length
          · rw [if_pos hk] at P
            subst hk
            refine .inr (.inl ⟨⟨(c, m), q2⟩, Z, as, e, h, S, E, ?_⟩)
            rw [q]
            intro as1 v H1 x1 S1 r1
            rw [post_px] at P
            have P2 := PX.ext P x1
            rw [← post_px] at P2
            exact ⟨as1, d, h1, fs, x1, S1, r1, q1, q3, P2⟩
          · rw [if_neg hk] at P; exact P.elim
    | none =>
      simp only [q1] at P
      cases q2 : selM name h1 d with
      | none => simp only [q2] at P; exact P.elim
      | some b =>
        simp only [q2] at P
        unfold selM at q2
        have hb := List.find?_some q2
        have hb2 : b.nm = name ∧ b.kd = kdOf h1 d := by
          simp only [Bool.and_eq_true, beq_iff_eq] at hb
          exact hb
        refine .inr (.inr ⟨⟨b, hb2.1⟩, Z, as, e, h, S, E, ?_⟩)
        rw [q]
        intro as1 v H1 x1 S1 r1
        rw [post_px] at P
        have P2 := PX.ext P x1
        rw [← post_px] at P2
        refine ⟨as1, d, h1, x1, S1, r1, ?_, P2⟩
        rw [hb2.2]
        refine tyK_of S1 r1 ?_
        rw [← hb2.2]
        cases b <;> exact fun z => nomatch z
end
end Dk
end S_DkR
end
section
set_option Elab.async false
set_option linter.all false
set_option maxRecDepth 100000
set_option maxHeartbeats 4000000
/-! DkS: len and str of objects, makers, f-strings, augmented assignments, dict displays. -/
noncomputable section S_DkS
namespace Dk
open PySem PySem.Spec PyProof.Rows L2
open Classical
abbrev MTab := String → String → Option (Nat × (List D → M D))
def noE : Out D → Out D
  | .ok d h => .ok d h
  | _ => .fail
def ownM (tb : MTab) (nm : String) (d : D) (h : Hd) (k : D → Hd → Out D) : Out D := match asIns h d with
  | some (c, fs) => (match tb c nm with
    | some (0, m) => (match m [d] h with
      | .ok r h' => k r h'
      | _ => .fail)
    | _ => .fail)
  | none => .fail
def isObj (h : Hd) (d : D) : Bool := (asIns h d).isSome
def lenM (tb : MTab) (ds : List D) : M D := fun h => match ds with
  | [d] => if isObj h d = true then ownM tb "__len__" d h (fun r h' => match asI r with
      | some n => if 0 ≤ n ∧ n < 2 ^ 63 then .ok (.int n) h' else .fail
      | none => .fail)
    else lf false (lenD h ds) h
  | _ => .fail
def strM (tb : MTab) (ds : List D) : M D := fun h => match ds with
  | [d] => if isObj h d = true then ownM tb "__str__" d h (fun r h' => match asT r with
      | some x => .ok (.str x) h'
      | none => .fail)
    else lf false (strD h ds) h
  | _ => .fail
def rBm (G : Gx) (g : List D → M D) : List V → Hp → VK → Prop := fun vs H Q => ∃ (Z : Addr → Prop) (as : List Addr) (h : Hd) (ds : List D), Sim G Z as h H ∧ Reps G Z as H ds vs ∧ PostB G Z as H (g ds h) Q
def NoEx1 (g : List D → M D) : Prop := ∀ ds h c fs h', g ds h ≠ .ex c fs h'
section
variable {X : Cx} {W : WX}
theorem rd_bltM {G : Gx} {g : List D → M D} {f : SA} {s : L2.St} {H : Hp} {Q : VK} (ne : NoEx1 g) (z : rd G W (callX g f) s H Q) : tCB (rBm G g) (rdA G W f) s H Q := by
  obtain ⟨Z, as, e, h, S, E, P⟩ := z
  rw [post_px] at P
  refine ⟨Z, as, e, h, S, E, (PX.bind (R1 := Reps G Z) P).imp fun vs H1 z => ?_⟩
  obtain ⟨as1, ds, h1, _, x1, S1, r1, P1⟩ := z
  refine ⟨Z, as1, h1, ds, S1, r1, ?_⟩
  cases q : g ds h1 with
  | fail => rw [q] at P1; exact P1
  | ok d' h' => rw [q] at P1; exact P1
  | ex c fs h' => exact absurd q (ne _ _ _ _ _)
theorem de_bltBM {x : Str} {id : String} {g : List D → M D} {a : Expr} {es : List Expr} {f : SA} {p pos : Pos} (ne : NoEx1 g) (hc : CallR X (.builtin id) (rBm (gx X) g)) (hg : Gl X x) (hm : X.mg x = none) (hv : bootBuiltins x = some (.builtin id))
    (hn : x ≠ "__name__") (hd : (x == ("__debug__" : Str)) = false) (ns : (a :: es).all notStar = true) (ha : PA X (a :: es) (rdA (gx X) W f)) : PE X (.Call (.Name x p) (a :: es) [] pos) (rd (gx X) W (callX g f)) := by
  have n1 : notStar a = true ∧ es.all notStar = true := by simpa using ns
  exact (pe_callB hc hg hm hv ha hn hd (starEach_of n1.1) (back_all n1.2)).imp fun _ _ _ z => rd_bltM ne z
theorem de_bltTM {x : Str} {T : String} {g : List D → M D} {a : Expr} {es : List Expr} {f : SA} {p pos : Pos} (ne : NoEx1 g) (hc : CallR X (.type T) (rBm (gx X) g)) (hg : Gl X x) (hm : X.mg x = none) (hv : bootBuiltins x = some (.type T))
    (hn : x ≠ "__name__") (hd : (x == ("__debug__" : Str)) = false) (ns : (a :: es).all notStar = true) (ha : PA X (a :: es) (rdA (gx X) W f)) : PE X (.Call (.Name x p) (a :: es) [] pos) (rd (gx X) W (callX g f)) := by
  have n1 : notStar a = true ∧ es.all notStar = true := by simpa using ns
  exact (pe_callTy hc hg hm hv ha hn hd (starEach_of n1.1) (back_all n1.2)).imp fun _ _ _ z => rd_bltM ne z
theorem own_at {A : Around} {k : Nat} {g : Addr} {fd : FuncData} {ps : List Str} {n : Nat} {m : List D → M D} {pins : List (Addr × Obj)} {st : L2.St} {H : Hp} {s : Shared} {Q : VK} {a : Addr} (F : FnG X.prog X.w X.K X.mg X.base k g fd ps (spD (gx X) n m)) (hb : Binds X.K fd ps []) (hr : RG k A) (e0 : Env0 X.prog X.w X.K X.mg X.base A X.stack s H)
    (I : Inv X pins st H s) (h : spD (gx X) n m [.ref a] H Q (fun _ _ _ => False)) : wpAny (model X.prog X.w) A (call (.ref g) [.ref a]) (EP X pins st Q) X.xe s := by
  have r : Vals [V.ref a] [Value.ref a] := .cons rfl .nil
  have hl : [Value.ref a].length = ps.length := by rw [← r.length]; exact F.len _ _ _ _ h
  have b := hb s [.ref a] I.kIn (by rw [List.append_nil]; exact hl)
  rw [List.append_nil] at b
  refine wpAny_call (codeAny_mono (F.run A X.stack s H ⟨[.ref a], []⟩ [.ref a] [.ref a] Q (fun _ _ _ => False) hr e0 b r h) fun r s' hq => ?_)
  cases r with
  | error e =>
    obtain ⟨_, _, _, _, _, _, _, _, _, _, _, _, z⟩ := hq
    exact z.elim
  | ok fl =>
    cases fl with
    | ret u => exact I.after hq
    | next => exact False.elim hq
    | brk => exact False.elim hq
    | cont => exact False.elim hq
theorem own_post {tb : MTab} {nm : String} {k : Nat} {Z : Addr → Prop} {as : List Addr} {h : Hd} {H : Hp} {d : D} {v : V} {kk : D → Hd → Out D} {Q : VK} (F : ∀ c n m, tb c nm = some (n, m) → MethS X k n c nm m) (S : Sim (gx X) Z as h H) (r : Rep (gx X) Z as H d v) (p : PostB (gx X) Z as H (ownM tb nm d h kk) Q) :
    ∃ a c dx fv g fd ps m, v = .ref a ∧ H a = some (.ins (adr X.K c) dx fv) ∧ Cls X.K (adr X.K c) ∧ Meth X.K (adr X.K c) (Str.ofString nm) g ∧ FnG X.prog X.w X.K X.mg X.base k g fd ps (spD (gx X) 1 m) ∧ Binds X.K fd ps [] ∧
      ∀ Q' : VK, (∀ (d' : D) (h' : Hd) (as' : List Addr) (v' : V) (H' : Hp), Ext as H as' H' → Sim (gx X) Z as' h' H' → Rep (gx X) Z as' H' d' v' → PostB (gx X) Z as' H' (kk d' h') Q → Q' v' H') → spD (gx X) 1 m [v] H Q' (fun _ _ _ => False) := by
  unfold ownM at p
  cases q : asIns h d with
  | none => rw [q] at p; exact p.elim
  | some cf =>
    obtain ⟨c, fs⟩ := cf
    rw [q] at p
    dsimp only at p
    cases q2 : tb c nm with
    | none => rw [q2] at p; exact p.elim
    | some km =>
      obtain ⟨n, m⟩ := km
      rw [q2] at p
      cases n with
      | succ n => exact p.elim
      | zero =>
        replace p : PostB (gx X) Z as H (match m [d] h with | .ok r h' => kk r h' | _ => .fail) Q := p
        obtain ⟨cl, g, hm, ⟨fd, ps, hn, F1, hb⟩, kp⟩ := F c 0 m q2
        obtain ⟨a, dx, fv, rfl, h2, h3⟩ := asIns_rep S r q
        refine ⟨a, c, dx, fv, g, fd, ps, m, rfl, h2, cl, hm, F1, hb, fun Q' kq => ⟨Z, as, h, [d], S, .cons r .nil, rfl, ?_⟩⟩
        cases q3 : m [d] h with
        | fail => rw [q3] at p; exact p.elim
        | ex _ _ _ => rw [q3] at p; exact p.elim
        | ok d' h' =>
          rw [q3] at p
          dsimp only at p
          refine fun as' v' H' x' S' r' => kq d' h' as' v' H' x' S' r' ?_
          cases q4 : kk d' h' with
          | fail => rw [q4] at p; exact p
          | ex _ _ _ => rw [q4] at p; exact p
          | ok d2 h2 => rw [q4] at p; exact fun as2 v2 H2 x2 => p as2 v2 H2 (x'.trans x2)
theorem call_lenO {tb : MTab} {k : Nat} (hr : RG (k + 1) X.A) (F : ∀ c n m, tb c "__len__" = some (n, m) → MethS X k n c "__len__" m) : CallR X (.builtin "len") (rBm (gx X) (lenM tb)) := by
  intro pins s st H vs us Q I r z
  obtain ⟨Z, as, h, ds, S, rs, p⟩ := z
  unfold lenM at p
  split at p
  · next d =>
    obtain ⟨v, rfl, rv⟩ := one_of rs rfl
    by_cases ho : isObj h d = true
    · rw [if_pos ho] at p
      obtain ⟨a, c, dx, fv, g, fd, ps, m, rfl, h2, cl, hm, F1, hb, kq⟩ := own_post F S rv p
      obtain ⟨u, rfl, ru⟩ := vals1 r
      cases ru
      obtain ⟨mA, O, _⟩ := ins_get I.hok h2
      obtain ⟨od, J, _⟩ := O.look
      obtain ⟨m', hF⟩ := I.fr
      refine PySem.W.len_K hF I.ok.mod.kin J hm.at_ hm.fn (wpAny_mono (own_at (Q := fun z H' => ∃ n, z = .int n ∧ 0 ≤ n ∧ n < 2 ^ 63 ∧ Q z H') F1 hb hr.in1 I.env0.in1 I (kq _ fun d' h' as' v' H' x' S' r' P' => ?_)) (fun w s' z => ?_) fun _ _ x => x)
      · cases qi : asI d' with
        | none => simp only [qi] at P'; exact P'.elim
        | some n =>
          simp only [qi] at P'
          have := asI_some qi
          subst this
          cases r'
          by_cases hn : 0 ≤ n ∧ n < 2 ^ 63
          · rw [if_pos hn] at P'
            exact ⟨n, rfl, hn.1, hn.2, PostB.here P' S' (.int _)⟩
          · rw [if_neg hn] at P'; exact P'.elim
      · obtain ⟨z', H', I', rz, n, rfl, h0, h1, qz⟩ := z
        obtain ⟨t, rfl⟩ := rz
        exact ⟨⟨h0, h1⟩, .int n, H', I'.tok _, ⟨_, rfl⟩, qz⟩
    · rw [if_neg ho] at p
      exact call_lenN (mu := false) pins s st H _ us Q I r ⟨Z, as, h, [d], S, rs, PostB.of_lf p⟩
  · exact p.elim
theorem call_strO {tb : MTab} {k : Nat} (hr : RG (k + 2) X.A) (F : ∀ c n m, tb c "__str__" = some (n, m) → MethS X k n c "__str__" m) : CallR X (.type "str") (rBm (gx X) (strM tb)) := by
  intro pins s st H vs us Q I r z
  obtain ⟨Z, as, h, ds, S, rs, p⟩ := z
  unfold strM at p
  split at p
  · next d =>
    obtain ⟨v, rfl, rv⟩ := one_of rs rfl
    by_cases ho : isObj h d = true
    · rw [if_pos ho] at p
      obtain ⟨a, c, dx, fv, g, fd, ps, m, rfl, h2, cl, hm, F1, hb, kq⟩ := own_post F S rv p
      obtain ⟨u, rfl, ru⟩ := vals1 r
      cases ru
      obtain ⟨mA, O, _⟩ := ins_get I.hok h2
      obtain ⟨od, J, _⟩ := O.look
      have hr2 : RG k X.A.in1.in1 := (show RG (k + 1) X.A.in1 from RG.in1 hr).in1
      have hun := hr2.r.un
      refine PySem.W.kso_call (by omega) I.kIn J hm.at_ hm.fn (wpAny_mono (own_at (Q := fun z H' => ∃ n, z = .str n ∧ Q z H') F1 hb hr2 I.env0.in1.in1 I (kq _ fun d' h' as' v' H' x' S' r' P' => ?_)) (fun w s' z => ?_) fun _ _ x => x)
      · cases qi : asT d' with
        | none => simp only [qi] at P'; exact P'.elim
        | some n =>
          simp only [qi] at P'
          have := asT_some qi
          subst this
          cases r'
          exact ⟨n, rfl, PostB.here P' S' (.str _)⟩
      · obtain ⟨z', H', I', rz, n, rfl, qz⟩ := z
        obtain ⟨t, rfl⟩ := rz
        exact ⟨.str n, H', I', ⟨_, rfl⟩, qz⟩
    · rw [if_neg ho] at p
      exact call_strN (mu := false) pins s st H _ us Q I r ⟨Z, as, h, [d], S, rs, PostB.of_lf p⟩
  · exact p.elim
end
end Dk
end S_DkS
end
section
set_option Elab.async false
set_option linter.all false
set_option maxRecDepth 100000
set_option maxHeartbeats 4000000
/-! DkT: makers, f-strings, augmented assignments, empty dicts, enumerate. -/
noncomputable section S_DkT
namespace Dk
open PySem PySem.Spec PyProof.Rows L2
open Classical
/-! ### makers -/
structure MkS (X : Cx) (k n : Nat) (c : String) (dfl : List D) (m : List D → M D) : Prop where
  ex : ∃ (g : Addr) (fd : FuncData) (ps : List Str) (ds : List Value) (dvs : List V), Mk X.K (adr X.K c) g ∧ FnG X.prog X.w X.K X.mg X.base k g fd ps (spD (gx X) (n + 1 + dfl.length) m) ∧ Binds X.K fd ps ds ∧ Vals dvs ds ∧ ∀ Z as H, Reps (gx X) Z as H dfl dvs
  cls : Cls X.K (adr X.K c)
def mkM (c : String) (dfl : List D) (m : List D → M D) (ds : List D) : M D := fun h => match m (.ref h.length :: (ds ++ dfl)) (h ++ [.ins c []]) with
  | .ok .non h' => .ok (.ref h.length) h'
  | .ex c fs h' => .ex c fs h'
  | _ => .fail
section
variable {X : Cx} {W : WX}
theorem run_makeG {k : Nat} {f C : Addr} {fd : FuncData} {ps : List Str} {sp : Sp} {dvs : List V} {dz : List Value} {E : XK} {pins : List (Addr × Obj)} {s : Shared} {st : L2.St} {H : Hp} {Q : VK} {us : List Value} {vs : List V} (M : Mk X.K C f) (F : FnG X.prog X.w X.K X.mg X.base k f fd ps sp) (hr : RG (k + 1) X.A)
    (hb : Binds X.K fd ps dz) (hd : Vals dvs dz) (hx : PassesAt (L2.CX X.prog X.w) X st E) (I : Inv X pins st H s) (r : Vals vs us)
    (h : ∀ x dx, H x = none → H dx = none → dx ≠ x → sp (.ref x :: (vs ++ dvs)) (upd (upd H dx (.own x)) x (.ins C dx [])) (fun v H2 => v = .non ∧ Q (.ref x) H2) E) :
    wpAny (model X.prog X.w) X.A (call (.ref C) us) (EP X pins st Q) X.xe s := by
  have hq := h (s.heap.objs.size + 1) s.heap.objs.size (I.hok.fresh (Nat.le_succ _)) (I.hok.fresh (Nat.le_refl _)) (Nat.ne_of_lt (Nat.lt_succ_self _))
  have I2 := Inv.made (C := C) I
  have r2 : Vals (V.ref (s.heap.objs.size + 1) :: (vs ++ dvs)) (Value.ref (s.heap.objs.size + 1) :: (us ++ dz)) := .cons rfl (r.append hd)
  have hl : (Value.ref (s.heap.objs.size + 1) :: us ++ dz).length = ps.length := by
    have e := r2.length
    rw [F.len _ _ _ _ hq] at e
    exact e.symm
  refine wpAny_call (make_map (f := f) I.kIn M.makes M.init (beq_iff_eq.mp M.fn) (codeAny_mono (F.run _ X.stack _ _ ⟨Value.ref (s.heap.objs.size + 1) :: us, []⟩ (Value.ref (s.heap.objs.size + 1) :: (us ++ dz)) _ _ E (hr.make C us [])
    (I2.env0.make C us []) (hb _ (Value.ref (s.heap.objs.size + 1) :: us) I2.kIn hl) r2 hq) fun r s' hq' => ?_))
  cases r with
  | error e => exact hx pins _ _ e s' I2 hq'
  | ok fl =>
    cases fl with
    | ret u =>
      obtain ⟨v, H', I3, rv, ev, q3⟩ := I2.after hq'
      subst ev
      exact ⟨rv, ⟨V.ref (s.heap.objs.size + 1), H', I3, rfl, q3⟩⟩
    | next => exact False.elim hq'
    | brk => exact False.elim hq'
    | cont => exact False.elim hq'
/-- what a maker's __init__ is to do -/
theorem mk_post {c : String} {dfl : List D} {m : List D → M D} {n : Nat} {Z : Addr → Prop} {as : List Addr} {h : Hd} {H : Hp} {ds : List D} {vs dvs : List V} {Q : VK} {E : XK} (S : Sim (gx X) Z as h H) (r : Reps (gx X) Z as H ds vs) (hn : ds.length = n) (rd : ∀ Z as H, Reps (gx X) Z as H dfl dvs) (P : PostC (gx X) Z as H (mkM c dfl m ds h) Q E)
    {x dx : Addr} (h1 : H x = none) (h2 : H dx = none) (ne : dx ≠ x) : spD (gx X) (n + 1 + dfl.length) m (.ref x :: (vs ++ dvs)) (upd (upd H dx (.own x)) x (.ins (adr X.K c) dx [])) (fun v H2 => v = .non ∧ Q (.ref x) H2) E := by
  have x1 : Ext as H as (upd H dx (.own x)) := .new h2
  have S1 := S.new (o := .own x) h2
  have hx : upd H dx (.own x) x = none := by rw [upd_ne (Ne.symm ne)]; exact h1
  have x2 : Ext as (upd H dx (.own x)) (as ++ [x]) (upd (upd H dx (.own x)) x (.ins (adr X.K c) dx [])) := .own hx
  have S2 : Sim (gx X) Z (as ++ [x]) (h ++ [.ins c []]) (upd (upd H dx (.own x)) x (.ins (adr X.K c) dx [])) := S1.own hx (.ins upd_same .nil)
  have y := x1.trans x2
  have hself : ∀ {as' : List Addr} {H' : Hp}, Ext (as ++ [x]) (upd (upd H dx (.own x)) x (.ins (adr X.K c) dx [])) as' H' → Rep (gx X) Z as' H' (.ref h.length) (.ref x) := fun {as' H'} z => by
    refine .ref ?_
    obtain ⟨t, et⟩ := z.pre
    rw [et, List.append_assoc, ← S.len, List.getElem?_append_right (Nat.le_refl _), Nat.sub_self]
    rfl
  refine ⟨Z, as ++ [x], h ++ [.ins c []], .ref h.length :: (ds ++ dfl), S2, .cons (hself .refl) ((r.mono S y).append (rd _ _ _)), by rw [List.length_cons, List.length_append, hn]; omega, ?_⟩
  unfold mkM at P
  cases q : m (.ref h.length :: (ds ++ dfl)) (h ++ [.ins c []]) with
  | fail => rw [q] at P; exact P
  | ex c' fs h' =>
    rw [q] at P
    exact fun as' cv dx' H' z => P as' cv dx' H' (y.trans z)
  | ok d h' =>
    rw [q] at P
    intro as' v H' z S' r'
    cases r' with
    | non => exact ⟨rfl, P as' _ H' (y.trans z) S' (hself z)⟩
    | _ => exact P.elim
theorem de_make {x : Str} {k n : Nat} {c : String} {dfl : List D} {m : List D → M D} {es : List Expr} {fa : SA} {p pos : Pos} (F : MkS X k n c dfl m) (hr : RG (k + 1) X.A) (tk : Takes X W) (hg : Gl X x) (hm : X.mg x = some (.ref (adr X.K c))) (hd : (x == ("__debug__" : Str)) = false)
    (ns : es.all notStar = true) (ha : PA X es (rdA (gx X) W fa)) (hlen : ∀ e h ds h', fa e h = .ok ds h' → ds.length = n) (hnil : es = [] → fa = aNil) : PE X (.Call (.Name x p) es [] pos) (rd (gx X) W (callX (mkM c dfl m) fa)) := by
  obtain ⟨⟨g, fd, ps, dz, dvs, M, F1, hb, hv, rd'⟩, cl⟩ := F
  refine ⟨fun pins s st H Q I z => ?_⟩
  refine wpAny_Call_Name_kw (ld_glob I hg hm ?_ hd)
  obtain ⟨Z, as, e, h, S, E, P⟩ := z
  rw [post_px] at P
  cases es with
  | nil =>
    have hf := hnil rfl
    subst hf
    have P' : PX (Rep (gx X) Z) (gx X) W Z st as H (mkM c dfl m [] h) Q := P
    rw [post_c] at P'
    exact PySem.W.callWith_K0 I.kIn M.kp (run_makeG (us := []) (vs := []) (E := WE W st) M F1 hr hb hv (passAt tk st) I .nil fun x dx h1 h2 ne => mk_post S .nil (hlen e h [] h rfl) rd' P' h1 h2 ne)
  | cons e0 es =>
    have n1 : notStar e0 = true ∧ es.all notStar = true := by simpa using ns
    refine PySem.W.callWith_K (h₀ := X.base) I.ok.mod.kin M.kp (thn (ha.run pos pins s st H _ I ⟨Z, as, e, h, S, E, PX.bind (R1 := Reps (gx X) Z) P⟩) fun us s1 ⟨vs, H1, I1, r, z⟩ => ⟨I1.kIn, ?_⟩) (starEach_of n1.1) (back_all n1.2)
    obtain ⟨as1, ds, h1, eq, x1, S1, r1, P1⟩ := z
    rw [post_c] at P1
    exact run_makeG (E := WE W st) M F1 hr hb hv (passAt tk st) I1 r fun x dx h1 h2 ne => mk_post S1 r1 (hlen _ _ _ _ eq) rd' P1 h1 h2 ne
/-! ### f-strings -/
def fmtX (f : SE) : SE := fun e => bd (f e) fun d h => match d with
  | .str x => if x.length ≤ sizeLine then .ok (.str x) h else .fail
  | .int i => if i.natAbs.log2 < 1920 then .ok (.str (Str.ofString (toString i))) h else .fail
  | _ => .fail
theorem de_fmt {a : Expr} {f : SE} {pos : Pos} (ha : PE X a (rd (gx X) W f)) : PE X (.FormattedValue a (-1) none pos) (rd (gx X) W (fmtX f)) :=
  (pe_fmt ha).imp fun s H Q z => by
    obtain ⟨Z, as, e, h, S, E, P⟩ := z
    refine ⟨Z, as, e, h, S, E, (Post.bind P).imp fun x H1 z => ?_⟩
    obtain ⟨as1, d, h1, _, x1, S1, r1, P1⟩ := z
    cases r1 with
    | str y =>
      by_cases hz : y.length ≤ sizeLine
      · simp only [if_pos hz] at P1
        exact .inl ⟨y, rfl, hz, P1 as1 _ H1 .refl S1 (.str _)⟩
      · simp only [if_neg hz] at P1; exact P1.elim
    | int i =>
      by_cases hz : i.natAbs.log2 < 1920
      · simp only [if_pos hz] at P1
        exact .inr ⟨i, rfl, hz, P1 as1 _ H1 .refl S1 (.str _)⟩
      · simp only [if_neg hz] at P1; exact P1.elim
    | _ => exact P1.elim
def jsX : List SE → Str → SE
  | [], acc, _ => pu (.str acc)
  | f :: fs, acc, e => bd (f e) fun d h => match asT d with
    | some y => if (acc ++ y).length ≤ sizeLine then jsX fs (acc ++ y) e h else .fail
    | none => .fail
inductive PJd (X : Cx) (W : WX) : List Expr → List SE → Prop where
  | nil : PJd X W [] []
  | cons {e : Expr} {f : SE} {es : List Expr} {fs : List SE} : PE X e (rd (gx X) W f) → PJd X W es fs → PJd X W (e :: es) (f :: fs)
theorem PJd.pj : ∀ {es : List Expr} {fs : List SE}, PJd X W es fs → PJ X es (fs.map fun f => rd (gx X) W f)
  | _, _, .nil => .nil
  | _, _, .cons h r => .cons h (PJd.pj r)
theorem tJs_of {Z : Addr → Prop} {s : L2.St} {e : Env} {Q : VK} : ∀ {fs : List SE} {acc : Str} {as : List Addr} {h : Hd} {H : Hp}, Sim (gx X) Z as h H → SimE (gx X) Z as H e s → PX (Rep (gx X) Z) (gx X) W Z s as H (jsX fs acc e h) Q →
    tJs (fs.map fun f => rd (gx X) W f) acc s H fun out H1 => Q (.str out) H1
  | [], acc, as, h, H, S, E, P => P as _ H .refl S (.str _)
  | f :: fs, acc, as, h, H, S, E, P => by
    refine ⟨Z, as, e, h, S, E, ?_⟩
    rw [post_px]
    refine (PX.bind (R1 := Rep (gx X) Z) P).imp fun x H1 z => ?_
    obtain ⟨as1, d, h1, _, x1, S1, r1, P1⟩ := z
    cases q : asT d with
    | none => simp only [q] at P1; exact P1.elim
    | some y =>
      simp only [q] at P1
      have := asT_some q
      subst this
      cases r1
      by_cases hz : (acc ++ y).length ≤ sizeLine
      · rw [if_pos hz] at P1
        exact ⟨y, rfl, hz, tJs_of S1 (E.mono S x1) P1⟩
      · rw [if_neg hz] at P1; exact P1.elim
theorem de_joined {v1 v2 : Expr} {rest : List Expr} {fs : List SE} {pos : Pos} (h : PJd X W (v1 :: v2 :: rest) fs) : PE X (.JoinedStr (v1 :: v2 :: rest) pos) (rd (gx X) W (jsX fs Str.empty)) :=
  (pe_joined h.pj).imp fun s H Q z => by
    obtain ⟨Z, as, e, h, S, E, P⟩ := z
    rw [post_px] at P
    exact tJs_of S E P
/-! ### augmented assignments of numbers -/
def augN (i : Nat) (f : SE) : SS := fun e h => match e[i]? with
  | some (some (.int a)) => sE (f e) e (fun d h => match asI d with
    | some b => .ok (.nx (e.set i (some (.int (a + b))))) h
    | none => .fail) h
  | _ => .fail
theorem ds_augN {i : Nat} {x : Str} {a : Expr} {f : SE} {pos pos' : Pos} (hN : X.N.Nodup) (hi : X.N[i]? = some x) (hx : Loc X.env.scope x) (hf : X.fn x = true ∨ X.env.scope.names.lookup x = some .local) (ha : PE X a (rd (gx X) W f)) :
    PS X (.AugAssign (.Name x pos') .Add a pos) (rdS (gx X) W (augN i f)) :=
  (ps_aug hN hi hx ha (show PIp X .Add rAdd from in_add) hf).imp fun D s H z => by
    obtain ⟨Z, as, e, h, S, E, P⟩ := z
    unfold augN at P
    split at P
    · next a' q =>
      obtain ⟨v, hv, rv⟩ := E.at_ i _ q
      cases rv
      refine ⟨.int a', hv, Z, as, e, h, S, E, ?_⟩
      rw [post_px]
      refine (PostS.bind (R := Rep (gx X) Z) P S E).imp fun y H1 z => ?_
      obtain ⟨as1, d, h1, _, x1, S1, r1, P1⟩ := z
      cases q2 : asI d with
      | none => simp only [q2] at P1; exact P1.elim
      | some b =>
        simp only [q2] at P1
        have := asI_some q2
        subst this
        cases r1
        exact ⟨a', b, rfl, rfl, P1 as1 _ H1 .refl S1 ((E.mono S x1).set (.int _) i)⟩
    · exact P.elim
def augA (fld : String → String → Bool) (f : String) (fo fv : SE) : SS := fun e => sE (bd (fo e) fun o h => match o with
  | .ref n => (match h[n]? with
    | some (.ins c fs) => if fld c f = true then (match fs.lookup f with
      | some (.int a) => bd (fv e) (fun d h2 => match d, h2[n]? with
        | .int b, some (.ins c' fs') => if c' = c ∧ fs'.length < 1000 then .ok () (h2.set n (.ins c (putFs f (.int (a + b)) fs'))) else .fail
        | _, _ => .fail) h
      | _ => .fail) else .fail
    | _ => .fail)
  | _ => .fail) e fun _ h => .ok (.nx e) h
theorem ds_augA {fld : String → String → Bool} {f : String} {o value : Expr} {fo fv : SE} {pos tpos : Pos} (ok : FldOk X fld) (ho : PE X o (rd (gx X) W fo)) (hv : PE X value (rd (gx X) W fv)) :
    PS X (.AugAssign (.Attribute o (Str.ofString f) tpos) .Add value pos) (rdS (gx X) W (augA fld f fo fv)) :=
  (ps_fldaug ho hv in_add).imp fun D s H z => by
    obtain ⟨Z, as, e, h, S, E, P⟩ := z
    have P' := PostS.bind (R := fun _ _ (_ _ : Unit) => True) P S E
    refine ⟨Z, as, e, h, S, E, ?_⟩
    rw [post_px]
    refine (PX.bind (R1 := Rep (gx X) Z) P').imp fun x H1 z => ?_
    obtain ⟨as1, o', h1, e1, x1, S1, r1, P1⟩ := z
    cases r1 with
    | @ref a n ea =>
      dsimp only at P1
      cases q : h1[n]? with
      | none => rw [q] at P1; exact P1.elim
      | some ob =>
        rw [q] at P1
        cases ob with
        | lst _ => exact P1.elim
        | dct _ => exact P1.elim
        | ins c fs =>
          dsimp only at P1
          by_cases hf : fld c f = true
          case neg => rw [if_neg hf] at P1; exact P1.elim
          rw [if_pos hf] at P1
          obtain ⟨c1, c2⟩ := ok c f hf
          cases S1.ob n _ a q ea with
          | @ins _ dx _ fv' _ e3 q4 =>
            rcases q4.look (f := f) with ⟨l1, l2⟩ | ⟨d0, v0, l1, l2, r0⟩
            · rw [l1] at P1; exact P1.elim
            · rw [l1] at P1
              cases r0 with
              | int i =>
                dsimp only at P1
                refine ⟨a, _, dx, fv', .int i, rfl, e3, c1, c2, l2, Z, as1, e, h1, S1, E.mono S x1, ?_⟩
                rw [post_px]
                refine (PX.bind (R1 := Rep (gx X) Z) P1).imp fun y H2 z => ?_
                obtain ⟨as2, d, h2, e2, x2, S2, r2, P2⟩ := z
                cases r2 with
                | int j =>
                  refine ⟨i, j, rfl, rfl, ?_⟩
                  cases q5 : h2[n]? with
                  | none => simp only [q5] at P2; exact P2.elim
                  | some ob2 =>
                    cases ob2 with
                    | lst _ => simp only [q5] at P2; exact P2.elim
                    | dct _ => simp only [q5] at P2; exact P2.elim
                    | ins c' fs' =>
                      simp only [q5] at P2
                      by_cases hc : c' = c ∧ fs'.length < 1000
                      case neg => rw [if_neg hc] at P2; exact P2.elim
                      rw [if_pos hc] at P2
                      obtain ⟨rfl, hl⟩ := hc
                      have ea2 : as2[n]? = some a := by
                        obtain ⟨t, et⟩ := x2.pre
                        rw [et, List.getElem?_append_left (List.getElem?_eq_some_iff.mp ea).1]
                        exact ea
                      cases S2.ob n _ a q5 ea2 with
                      | @ins _ dx2 _ fv2 _ e5 q6 =>
                        obtain ⟨x3, S3⟩ := S2.putI (dx := dx2) (c := c') ea2 (q6.put (f := f) (.int (i + j)))
                        refine ⟨dx2, fv2, e5, by rw [← q6.length]; exact hl, ?_⟩
                        obtain ⟨as3, _, h3', e3', x3', S3', _, P3⟩ := P2 as2 () _ x3 S3 trivial
                        exact P3 as3 s _ .refl S3' (E.mono S x3')
                | _ => simp only at P2; exact P2.elim
              | _ => exact P1.elim
    | _ => exact P1.elim
/-! ### {} -/
def dct0 (mu : Bool) : SE := fun _ => fin mu (.d [])
theorem de_dct0 {mu : Bool} {pos : Pos} : PE X (.Dict [] [] pos) (rd (gx X) W (dct0 mu)) := pe_dnewK.imp fun s H Q z => by
  obtain ⟨Z, as, e, h, S, E, P⟩ := z
  exact fun p n => PR.newD (Post.pr (o := some (.d [])) P) S .nil n
end
end Dk
end S_DkT
end
section
set_option Elab.async false
set_option linter.all false
set_option maxRecDepth 100000
set_option maxHeartbeats 4000000
/-! DkU: enumerate of lists and tuples. -/
noncomputable section S_DkU
namespace Dk
open PySem PySem.Spec PyProof.Rows L2
open Classical
open AutoSeq1 (wpAny_loadPart') in
theorem meets_enumerate_newT (l : Addr) (items : Array Value) :
    Meets (Builtin.«enumerate.__new__» ⟨[.type "enumerate", .ref l], []⟩) (fun _ R s => s.heap.IsTuple l items ∧
      R (.ok (.ret (.ref (s.heap.push { cls := .type "tuple_iterator", data := .fields #[.ref l, .int 0 0] }).objs.size)))
        { s with heap := (s.heap.push { cls := .type "tuple_iterator", data := .fields #[.ref l, .int 0 0] }).push { cls := .type "enumerate", data := .fields #[.none, .bool false, .ref s.heap.objs.size, rawInt 0, .none, .none] } }) :=
  .of_wp fun prog w A R s h => by
    obtain ⟨hp, g, d, tk, os⟩ := s
    obtain ⟨hL, h⟩ := h
    have hsub := sub_enumerate
    obtain ⟨o, hl, _⟩ := id hL
    wp_walk using wpAny_loadPart' hl
    refine wpAny_stack_any fun st => wpAny_pure ?_
    split
    · rename_i c _ _ _ _ _
      cases (c == Value.type "enumerate")
      · wp_walk using wpAny_loadPart' hl, wpAny_pyIter_tuple hL
        exact ⟨_, rfl, h⟩
      · wp_walk using wpAny_loadPart' hl, wpAny_pyIter_tuple hL
        exact ⟨_, rfl, h⟩
    · wp_walk using wpAny_loadPart' hl, wpAny_pyIter_tuple hL
      exact ⟨_, rfl, h⟩
section
variable {prog : Program} {w : World} {A : Around} {E : Value → Shared → Prop} {s : Shared}
theorem call_enumerateT {l : Addr} {items : Array Value} {Q : Value → Shared → Prop} (hL : s.heap.IsTuple l items)
    (h : ∀ h', IsEnum h' (s.heap.objs.size + 1) s.heap.objs.size 0 .none → h'.IsTupleIter s.heap.objs.size l 0 → h'.objs.size = s.heap.objs.size + 2 →
      (∀ b o, s.heap.get? b = some o → h'.get? b = some o) → Q (.ref (s.heap.objs.size + 1)) { s with heap := h' }) : wpAny (model prog w) A (call (.type "enumerate") [.ref l]) Q E s := by
  refine callType_new F.called_enumerate (by decide) (F.typeCall_enumerate_1 _) (F.newCall_enumerate_1 _) (fun obj => F.args_object_init_2 obj _) F.entry_enumerate_new (meets_enumerate_newT l items) ⟨hL, ?_⟩
  have hz : (s.heap.push { cls := .type "tuple_iterator", data := .fields #[.ref l, .int 0 0] }).objs.size = s.heap.objs.size + 1 := Heap.size_push ..
  show _ ∧ _
  rw [hz]
  have he : IsEnum ((s.heap.push { cls := .type "tuple_iterator", data := .fields #[.ref l, .int 0 0] }).push { cls := .type "enumerate", data := .fields #[.none, .bool false, .ref s.heap.objs.size, rawInt 0, .none, .none] }) (s.heap.objs.size + 1) s.heap.objs.size 0 .none := by
    have := Heap.get?_push_size (s.heap.push { cls := .type "tuple_iterator", data := .fields #[.ref l, .int 0 0] }) (o := { cls := .type "enumerate", data := .fields #[.none, .bool false, .ref s.heap.objs.size, rawInt 0, .none, .none] }) rfl
    rw [hz] at this
    exact this
  exact ⟨⟨_, he, rfl⟩, h _ he ⟨_, Heap.get?_push_of_some _ (Heap.get?_push_size _ rfl), rfl, rfl⟩ (by rw [Heap.size_push, hz]) fun b o x => Heap.get?_push_of_some _ (Heap.get?_push_of_some _ x)⟩
end
/-- the tuple at a, each item in a new pair -/
def IteT (K : PySem.W.Frag) (a : Addr) : It :=
  ⟨fun i H => ∃ (xs : List V) (x : V), SqT K H a xs ∧ xs[i]? = some x, fun i H v H' => ∃ T x, v = .ref T ∧ H T = none ∧ H' = upd H T (.tup [.int (i : Nat), x]) ∧ ∀ xs, SqT K H a xs → xs[i]? = some x, fun i H => ∃ xs : List V, SqT K H a xs ∧ xs.length = i⟩
theorem ne_cls {h : Heap} {a b : Addr} {o o' : Obj} (e : h.get? a = some o) (e' : h.get? b = some o') (n : o.cls ≠ o'.cls) : a ≠ b := fun z => by
  subst z
  rw [e] at e'
  cases e'
  exact n rfl
theorem ty_ne {n m : String} (h : n ≠ m) : Value.type n ≠ Value.type m := fun z => h (Value.type.inj z)
theorem turn_enumT {P : Program} {w : World} {K : PySem.W.Frag} {elts : List Expr} {kk : Nat} {tpos : Pos} (a e it : Addr) :
    Turn P w K (.Tuple elts kk tpos) (IteT K a) [e, it] e (fun i h => (∃ old, IsEnum h e it ((i : Nat) : Int) old) ∧ h.IsTupleIter it a i ∧ e ≠ it) where
  mem := by simp
  obj := fun i h st b hb => by
    obtain ⟨⟨old, he⟩, ⟨o, ho, hc, hd⟩, _⟩ := st
    have e' : b = e ∨ b = it := by simpa using hb
    rcases e' with z | z
    · rw [z]; exact ⟨_, he, fun v q => nomatch q⟩
    · rw [z]; exact ⟨o, ho, fun v q => by rw [hd] at q; cases q⟩
  keep := fun i h h' st k => let ⟨⟨old, he⟩, hi, hne⟩ := st; ⟨⟨old, k e (by simp) _ he⟩, hi.at fun o q => k it (by simp) o q, hne⟩
  item := by
    intro X hP hw hK hc i pins s st0 H E I hf st hg
    subst hP hw hK
    obtain ⟨⟨old, he⟩, hit, hne⟩ := st
    obtain ⟨xs, x, hq, hx⟩ := hg
    obtain ⟨its, rv, p, hz⟩ := I.tuple hq
    obtain ⟨u, hu, ru⟩ := rv.get hx
    have p' : s.heap.IsTuple a its.toArray := p
    have hel : e < s.heap.objs.size := Heap.lt_size he
    have hil : it < s.heap.objs.size := by obtain ⟨_, q, _⟩ := hit; exact Heap.lt_size q
    obtain ⟨oa, ga, ca, _⟩ := id p'
    obtain ⟨oi, gi, ci, _⟩ := id hit
    have hai : a ≠ it := ne_cls ga gi (by rw [ca, ci]; exact ty_ne (by decide))
    have hae : a ≠ e := ne_cls ga he (by rw [ca]; exact ty_ne (by decide))
    have hlt : i < its.toArray.size := by
      have := (List.getElem?_eq_some_iff.mp hu).1
      simpa using this
    have D := PySem.Draws.tuple (prog := X.prog) (w := X.w) (A := X.A.in1) (I.ok.hd hc) it a hai its.toArray
    refine wpAny_pyNext_enum_itemD D he ⟨hit, p'⟩ hlt hne (by simp [hne, Ne.symm hae]) fun x' h' tk hP ho hst hT hsz hk => ?_
    have ex : x' = u := by
      have h1 : its.toArray[i]? = some x' := hP
      have h2 : its.toArray[i]? = some u := by simpa using hu
      rw [h2] at h1
      exact (Option.some.inj h1).symm
    subst ex
    refine ⟨_, rfl, wpAny_letOwnedTupleGo_enum (s := { s with heap := h', toks := tk + 1 }) ho fun h'' he' sb => ?_⟩
    have hT2 : h''.get? s.heap.objs.size = some { cls := .type "tuple", data := .seq #[.int i tk, x'] } := (sb.2 _ (Nat.ne_of_gt hel)).trans hT
    have new : ObjOk X.prog X.w (upd H s.heap.objs.size (.tup [.int (i : Nat), x])) h'' s.heap.objs.size (.tup [.int (i : Nat), x]) :=
      ⟨by show 2 ≤ sizeLine; decide, [.int i tk, x'], .cons ⟨_, rfl⟩ (.cons ru .nil), ⟨_, hT2, rfl, _, rfl⟩⟩
    have I1 : Inv X pins st0 (upd H s.heap.objs.size (.tup [.int (i : Nat), x])) { s with heap := h'', toks := tk + 1 } :=
      I.turnedNew (ch := [e, it]) (fun b ob hb q => (sb.2 b (fun z => hb (by simp [z]))).trans (hk b ob (fun z => hb (by simp [z])) (fun z => hb (by simp [z])) q)) hf (Nat.le_refl _) new
    refine ⟨.ref s.heap.objs.size, _, I1, rfl, ⟨_, x, rfl, I.hok.fresh (Nat.le_refl _), rfl, fun ys hy => by rw [I.tuple_inj hy hq]; exact hx⟩, ⟨⟨x', ?_⟩, hst.1.at fun o q => (sb.2 it (Ne.symm hne)).trans q, hne⟩, fun b hb => ?_⟩
    · have e1 : ((i + 1 : Nat) : Int) = (i : Int) + 1 := by omega
      rw [e1]; exact he'
    · have hb' : b < s.heap.objs.size := by
        have e' : b = e ∨ b = it := by simpa using hb
        rcases e' with z | z
        · rw [z]; exact hel
        · rw [z]; exact hil
      rw [upd_ne (Nat.ne_of_lt hb')]
      exact (hf b hb).1
  done := by
    intro X hP hw hK hc i pins s st0 H E I hf st hg
    subst hP hw hK
    obtain ⟨⟨old, he⟩, hit, hne⟩ := st
    obtain ⟨xs, hq, hx⟩ := hg
    obtain ⟨its, rv, p, hz⟩ := I.tuple hq
    have p' : s.heap.IsTuple a its.toArray := p
    obtain ⟨f0, f1, f2, f3, f4, f5⟩ := hf it (by simp)
    obtain ⟨oa, ga, ca, _⟩ := id p'
    obtain ⟨oi, gi, ci, _⟩ := id hit
    have hai : a ≠ it := ne_cls ga gi (by rw [ca, ci]; exact ty_ne (by decide))
    have hl := rv.length
    have D := PySem.Draws.tuple (prog := X.prog) (w := X.w) (A := X.A.in1) (I.ok.hd hc) it a hai its.toArray
    have ei : its.toArray.size = i := by rw [List.size_toArray, ← hl]; exact hx
    exact wpAny_pyNext_enum_endD D he ⟨by rw [ei]; exact hit, p'⟩ fun h' eb => ⟨rfl, I.turned (t' := s.toks) (fun b o hb q => eb b o hb q) f0 f1 f3 f4 f5⟩
  self := fun A i s Q E st h => let ⟨⟨_, he⟩, _⟩ := st; wpAny_pyIter_enum he h
def iEnumT (K : PySem.W.Frag) (ta : TA) : TI := fun s H R => ta s H fun vs H1 => ∃ a xs, vs = [.ref a] ∧ SqT K H1 a xs ∧ R (IteT K a) H1
theorem pi_enumT {X : Cx} {e : Expr} {ta : TA} {p pos tpos : Pos} {elts : List Expr} {kk : Nat} (hg : Gl X "enumerate") (hm : X.mg "enumerate" = none) (ha : PA X [e] ta) (hs : starEach [e] X.env = [(false, eval e X.env)]) :
    PI X (.Tuple elts kk tpos) (.Call (.Name "enumerate" p) [e] [] pos) (iEnumT X.K ta) := by
  refine ⟨fun pins s st H R I h => ?_⟩
  refine Call_ (ld_blt I hg hm boot_enumerate (PyProof.Rows.callWith_type1 (thn (ha.run pos pins s st H _ I h) fun us s1 ⟨vs, H1, I1, r1, q1⟩ => ?_) hs rfl))
  obtain ⟨a, xs, ex, hq, q⟩ := q1
  subst ex
  cases r1 with
  | cons r rr =>
    cases rr
    cases r
    obtain ⟨its, rv, p', hz⟩ := I1.tuple hq
    refine call_enumerateT (show s1.heap.IsTuple a its.toArray from p') fun h' he hit hsz hk => wpAny_pyIter_enum he ?_
    have I2 : Inv X pins st H1 { s1 with heap := h' } := I1.kept (t' := s1.toks) hk
    refine ⟨s1.heap.objs.size + 1, [s1.heap.objs.size + 1, s1.heap.objs.size], _, _, H1, rfl, I2, turn_enumT a (s1.heap.objs.size + 1) s1.heap.objs.size, ⟨⟨.none, he⟩, hit, Nat.succ_ne_self _⟩, fun b hb => ?_, q⟩
    have e' : b = s1.heap.objs.size + 1 ∨ b = s1.heap.objs.size := by simpa using hb
    have hle : s1.heap.objs.size ≤ b := by
      rcases e' with z | z
      · rw [z]; exact Nat.le_add_right _ _
      · rw [z]; exact Nat.le_refl _
    exact I1.fpOk hle (I1.hok.fresh hle)
section
variable {G : Gx} {Z : Addr → Prop} {as : List Addr} {h : Hd} {H : Hp}
theorem ItRel.enumT (S : Sim G Z as h H) {a : Addr} {xs : List D} {vs : List V} (e : TupA G.K H a vs) (r : Reps G Z as H xs vs) : ItRel G Z as H ⟨enumL 0 xs, [], true⟩ (IteT G.K a) := by
  intro Z' as' h' H' kz x S' ok i
  have q : SqT G.K H' a vs := (x.tupA S e).sq
  have e2 := (r.zup kz).mono S x
  refine ⟨fun dd hd => ?_, fun hl => ⟨vs, q, by rw [← e2.length]; simpa [enumL] using hl⟩⟩
  unfold enumL at hd
  rw [List.getElem?_mapIdx, Option.map_eq_some_iff] at hd
  obtain ⟨d0, hd0, rfl⟩ := hd
  obtain ⟨y, hy, ry⟩ := e2.get hd0
  refine ⟨⟨vs, y, q, hy⟩, fun v H'' z => ?_⟩
  obtain ⟨T, w, rfl, hn, rfl, z⟩ := z
  have hv := z vs q
  rw [hy] at hv
  cases hv
  refine ⟨.new hn, S'.new hn, .inr ⟨_, T, _, rfl, rfl, .inl (.inl upd_same), .cons ?_ (.cons (ry.mono S' (.new hn)) .nil)⟩⟩
  rw [Int.zero_add]
  exact .int _
end
def enumD (h : Hd) : List D → Option ItV
  | [.tup xs] => some ⟨enumL 0 xs, [], true⟩
  | [a] => match asL h a with
    | some xs => some ⟨enumL 0 xs, srcD h a, true⟩
    | none => none
  | _ => none
def enumX (f : SA) : SI := iA f enumD
theorem enumD_len {h : Hd} {ds : List D} {iv : ItV} (e : enumD h ds = some iv) : ∃ a, ds = [a] := by
  match ds with
  | [] => simp [enumD] at e
  | [a] => exact ⟨a, rfl⟩
  | _ :: _ :: _ => simp [enumD] at e
theorem di_enum {X : Cx} {W : WX} {a : Expr} {f : SA} {p pos tpos : Pos} {elts : List Expr} {kk : Nat} (n : notStar a = true) (hg : Gl X "enumerate") (hm : X.mg "enumerate" = none) (ha : PA X [a] (rdA (gx X) W f)) :
    PI X (.Tuple elts kk tpos) (.Call (.Name "enumerate" p) [a] [] pos) (rdI (gx X) W (enumX f)) :=
  ((pi_enum hg hm ha (starEach_of n)).or (pi_enumT hg hm ha (starEach_of n))).imp fun s H R z => by
    obtain ⟨Z, as, e, h, S, E, P⟩ := z
    have P' := iA_post P
    cases q : f e h with
    | fail => rw [q] at P'; exact P'.elim
    | ex c fs h1 =>
      refine .inl ⟨Z, as, e, h, S, E, ?_⟩
      rw [q] at P' ⊢
      exact P'
    | ok ds h1 =>
      by_cases t : ∃ xs, ds = [.tup xs]
      · obtain ⟨xs, rfl⟩ := t
        refine .inr ⟨Z, as, e, h, S, E, P'.imp fun vs H1 z => ?_⟩
        obtain ⟨as1, ds, h2, iv, e1, x1, S1, r1, q2, k⟩ := z
        rw [q] at e1
        cases e1
        cases q2
        obtain ⟨v, rfl, rv⟩ := one_of r1 rfl
        cases rv with
        | tup t1 q1 => exact ⟨_, _, rfl, t1.sq, k _ (ItRel.enumT S1 t1 q1)⟩
      · refine .inl ⟨Z, as, e, h, S, E, P'.imp fun vs H1 z => ?_⟩
        obtain ⟨as1, ds', h1', iv, e1, x1, S1, r1, q2, k⟩ := z
        rw [q] at e1
        cases e1
        obtain ⟨d, rfl⟩ := enumD_len q2
        obtain ⟨v, rfl, rv⟩ := one_of r1 rfl
        have q3 : (match asL h1 d with | some xs => some (⟨enumL 0 xs, srcD h1 d, true⟩ : ItV) | none => none) = some iv := by
          unfold enumD at q2
          split at q2
          · next xs eq => cases eq; exact absurd ⟨_, rfl⟩ t
          · next eq => cases eq; exact q2
          · cases q2
        cases e3 : asL h1 d with
        | none => rw [e3] at q3; cases q3
        | some xs =>
          rw [e3] at q3
          cases q3
          obtain ⟨a1, ws, rfl, f1, f2⟩ := asL_rep S1 rv e3
          exact ⟨a1, ws, rfl, SqL.of f1, k _ (ItRel.enum S1 rv e3)⟩
end Dk
end S_DkU
end
section
set_option Elab.async false
set_option linter.all false
set_option maxRecDepth 100000
noncomputable section S_Rp
namespace Dk
open PySem PySem.Spec PyProof.Rows L2
open Classical
/-! ### repr -/
mutual
theorem hasDict_toP : ∀ d : D, (toP d).hasDict = false
  | .non => by simp [toP, PyData.hasDict]
  | .bl _ => by simp [toP, PyData.hasDict]
  | .int _ => by simp [toP, PyData.hasDict]
  | .str _ => by simp [toP, PyData.hasDict]
  | .tup xs => by simp [toP, PyData.hasDict, hasDict_toPs xs]
  | .lst xs => by simp [toP, PyData.hasDict, hasDict_toPs xs]
  | .dct _ => by simp [toP, PyData.hasDict]
  | .set _ => by simp [toP, PyData.hasDict]
  | .scr _ => by simp [toP, PyData.hasDict]
  | .ins _ _ => by simp [toP, PyData.hasDict]
  | .ref _ => by simp [toP, PyData.hasDict]
  | .fn _ => by simp [toP, PyData.hasDict]
  | .ty _ => by simp [toP, PyData.hasDict]
  | .cls _ => by simp [toP, PyData.hasDict]
theorem hasDict_toPs : ∀ d : List D, PyData.hasDictAll (toPs d) = false
  | [] => by simp [toPs, PyData.hasDictAll]
  | x :: xs => by simp [toPs, PyData.hasDictAll, hasDict_toP x, hasDict_toPs xs]
end
def reprR (P : PyData) : Option Res := if P.showable = true ∧ P.depth ≤ 30 ∧ P.shown.length ≤ sizeLine then some (.v (.str P.shown)) else none
def reprD (h : Hd) : List D → Option Res
  | [.tup xs] => if plainL xs = true then reprR (.tuple (toPs xs)) else none
  | [.int i] => if i.natAbs.log2 < 1920 then some (.v (.str (Str.ofString (toString i)))) else none
  | [d] => (match asL h d with
    | some xs => if plainL xs = true then reprR (.list (toPs xs)) else none
    | none => none)
  | _ => none
section
variable {X : Cx}
theorem repr_end {mu : Bool} {Z : Addr → Prop} {as bs : List Addr} {h : Hd} {pins : List (Addr × Obj)} {st : L2.St} {H : Hp} {s : Shared} {a : Addr} {P : PyData} {Q : VK} (hg : X.A.guards = some []) (hu : X.A.units + 64 < cLine) (I : Inv X pins st H s) (S : Sim (gx X) Z as h H) (r : Reads s.heap (.ref a) P bs) (hd : P.hasDict = false)
    (p : PR (gx X) Z as h H mu (reprR P) Q) : wpAny (model X.prog X.w) X.A (call (.builtin "repr") [.ref a]) (EP X pins st Q) X.xe s := by
  unfold reprR at p
  obtain ⟨⟨h1, h2, h3⟩, p⟩ := p.ite
  refine repr_of_reads' r h1 (PyData.noDict_hsm hd) hg (by omega) (fun _ _ e => e) (fun h' u tk hk => ?_) h3
  exact ⟨.str P.shown, H, I.kept hk, ⟨_, rfl⟩, PR.here p S (.str _)⟩
theorem call_reprN {mu : Bool} (hg : X.A.guards = some []) (hu : X.A.units + 64 < cLine) : CallR X (.builtin "repr") (rBs (gx X) mu reprD) := by
  intro pins s st H vs us Q I r z
  obtain ⟨Z, as, h, ds, S, rs, p⟩ := z
  unfold reprD at p
  split at p
  · next xs =>
    obtain ⟨v, rfl, rv⟩ := one_of rs rfl
    obtain ⟨u, rfl, ru⟩ := vals1 r
    obtain ⟨hp, p⟩ := p.ite
    cases rv with
    | tup h1 h2 =>
      cases ru
      obtain ⟨its, q1, q2, q3⟩ := I.tuple h1.sq
      obtain ⟨o, g1, g2, n, g3⟩ := q2
      obtain ⟨bs, rr⟩ := Vws.reads xs _ hp (h2.vw I q1)
      exact repr_end hg hu I S (.tuple g1 g2 g3 (by simpa using rr)) (by simp [PyData.hasDict, hasDict_toPs]) p
  · next i =>
    obtain ⟨v, rfl, rv⟩ := one_of rs rfl
    cases rv
    obtain ⟨hz, p⟩ := p.ite
    exact SkE.call_repr_int pins s st H _ us Q I r ⟨i, rfl, hz, PR.here p S (.str _)⟩
  · next d _ _ =>
    obtain ⟨v, rfl, rv⟩ := one_of rs rfl
    obtain ⟨u, rfl, ru⟩ := vals1 r
    split at p
    · next xs e =>
      obtain ⟨hp, p⟩ := p.ite
      obtain ⟨a, ws, rfl, h1, h2⟩ := asL_rep S rv e
      cases ru
      obtain ⟨its, q1, q2, q3⟩ := I.list (SqL.of h1)
      obtain ⟨o, g1, g2, n, g3⟩ := q2.isList
      obtain ⟨bs, rr⟩ := Vws.reads xs _ hp (h2.vw I q1)
      exact repr_end hg hu I S (.list g1 g2 g3 (by simpa using rr)) (by simp [PyData.hasDict, hasDict_toPs]) p
    · exact PR.none_of p
  · exact PR.none_of p
end
end Dk
end S_Rp
end
section
set_option Elab.async false
set_option linter.all false
set_option maxRecDepth 100000
set_option maxHeartbeats 4000000
noncomputable section S_Sk
namespace Dk
open PySem PySem.Spec PyProof.Rows L2
open Classical
/-! ### set(t) of a tuple of keys -/
def addN (acc : List Key) (k : Key) : List Key := if k ∈ acc then acc else acc ++ [k]
def dd (ks : List Key) : List Key := ks.foldl addN []
theorem addN_mem {acc : List Key} {k j : Key} : j ∈ addN acc k ↔ j ∈ acc ∨ j = k := by
  unfold addN
  split
  · next h => exact ⟨.inl, fun z => z.elim id fun e => e ▸ h⟩
  · simp
theorem foldN_mem {j : Key} : ∀ {ks acc : List Key}, j ∈ ks.foldl addN acc ↔ j ∈ acc ∨ j ∈ ks
  | [], acc => by simp
  | k :: ks, acc => by
    rw [List.foldl_cons, foldN_mem, addN_mem, List.mem_cons, or_assoc]
theorem foldN_nodup : ∀ {ks acc : List Key}, acc.Nodup → (ks.foldl addN acc).Nodup
  | [], acc, h => h
  | k :: ks, acc, h => by
    rw [List.foldl_cons]
    refine foldN_nodup ?_
    unfold addN
    split
    · exact h
    · next q => exact List.nodup_append.mpr ⟨h, by simp, fun a ha b hb e => q (by rw [List.mem_singleton] at hb; rw [← hb, ← e]; exact ha)⟩
theorem foldN_len : ∀ {ks acc : List Key}, (ks.foldl addN acc).length ≤ acc.length + ks.length
  | [], acc => by simp
  | k :: ks, acc => by
    rw [List.foldl_cons]
    refine Nat.le_trans foldN_len ?_
    unfold addN
    split
    · simp
    · simp; omega
theorem dd_mem {ks : List Key} {j : Key} : j ∈ dd ks ↔ j ∈ ks := by
  unfold dd
  rw [foldN_mem]
  simp
theorem dd_nodup {ks : List Key} : (dd ks).Nodup := foldN_nodup List.nodup_nil
theorem dd_len {ks : List Key} : (dd ks).length ≤ ks.length := by
  have := foldN_len (ks := ks) (acc := [])
  unfold dd
  simpa using this
theorem dd_snoc {ks : List Key} {k : Key} : dd (ks ++ [k]) = addN (dd ks) k := by
  unfold dd
  rw [List.foldl_append]
  rfl
section
variable {P : Program} {w : World} {A : Around} {E : Value → Shared → Prop} {s : Shared}
theorem upd_keys {it : Addr} {fp wr : List Addr} {G : Array GenState → Array GenState → Prop} {n : Nat} {Pv : Nat → Value → Prop} {St : Nat → Shared → Prop} {R : Result → Shared → Prop}
    (W : WalksS P w A.in1 it fp wr G n Pv St) (c : Addr) (hc : c ∉ fp) (ks : List Key) (hn : n = ks.length) (hb : ks.length + 1 < scanBound) (hv : ∀ i v, Pv i v → ∃ k, ks[i]? = some k ∧ RelV (kV k) v) :
    ∀ (m i : Nat) (s : Shared), i + m = n → St i s → SetKR w s.heap c (dd (ks.take i)) →
      (∀ s', Moved (c :: wr) G s s' → SetKR w s'.heap c (dd ks) → R (.ok (.ret .none)) s') →
      codeAny (model P w) A (.builtin "set.update.loop" ⟨[.ref c, .ref it], []⟩) R s := by
  have hcw : c ∉ wr := fun z => hc (W.sub _ z)
  have sub : ∀ b ∈ wr, b ∈ c :: wr := fun b z => List.mem_cons_of_mem _ z
  intro m
  induction m with
  | zero =>
    intro i s him st S0 k
    refine codeAny_builtin PyProof.Rows.F.entry_set_update_loop ?_
    rw [Around.under_plainId PyProof.Rows.F.plain_set_update_loop _]
    show wpAny _ A.in1 (pyNext (.ref it) >>= _) _ _ s
    have hi : i = n := by omega
    subst hi
    refine wpAny_bind (W.done s _ _ st fun s' mv => ?_)
    show wpAny _ A.in1 (ret Value.none) _ _ s'
    rw [List.take_of_length_le (by omega)] at S0
    exact wpAny_pure (k s' (mv.mono sub) (S0.at_ fun o e => mv.heap c o hcw e))
  | succ m ih =>
    intro i s him st S0 k
    refine codeAny_builtin PyProof.Rows.F.entry_set_update_loop ?_
    rw [Around.under_plainId PyProof.Rows.F.plain_set_update_loop _]
    show wpAny _ A.in1 (pyNext (.ref it) >>= _) _ _ s
    refine wpAny_bind (W.item i s _ _ (by omega) st fun v s' pv st' mv => ?_)
    obtain ⟨y, hy, ry⟩ := hv i v pv
    have S1 := S0.at_ (h' := s'.heap) fun o e => mv.heap c o hcw e
    show wpAny _ A.in1 (holding [v] (setAdd c v) >>= _) _ _ s'
    refine wpAny_bind (wpAny_holding ?_)
    unfold setAdd
    refine wpAny_holding ?_
    refine wpAny_bind ((mixKind P w).pyHash (kV_is ry) ?_)
    have hl : (dd (ks.take i)).length ≤ i := Nat.le_trans dd_len (by rw [List.length_take]; omega)
    have tk : ks.take (i + 1) = ks.take i ++ [y] := by rw [List.take_succ, hy]; rfl
    obtain ⟨es, SE, hs, pm, zs⟩ := S1
    have ze : es.size + 1 < scanBound := by
      have := pm.length_eq
      rw [kys_len] at this
      omega
    have go : ∀ h', Heap.SameBut c s'.heap h' → SetKR w h' c (dd (ks.take (i + 1))) → codeAny (model P w) A (.builtin "set.update.loop" ⟨[.ref c, .ref it], []⟩) R { s' with heap := h', toks := s'.toks + 1 } := fun h' sb S3 => by
      refine ih (i + 1) _ (by omega) (W.frame _ s' _ _ st' (Nat.le_succ _) fun b hb o e => ?_) S3 fun s'' mv2 S4 => ?_
      · rw [sb.2 b fun z => hc (by rw [← z]; exact hb)]; exact e
      · refine k s'' (Moved.trans W.gtrans ((mv.mono sub).then_heap (Nat.le_succ _) fun b o hb e => ?_) mv2) S4
        rw [sb.2 b fun z => hb (by rw [z]; exact List.mem_cons_self)]; exact e
    refine add_key (s := { s' with toks := s'.toks + 1 }) ry hs SE ze (fun old => ?_) fun new h' es' sb SE' pm' => ?_
    · refine wpAny_pure ⟨plainId_quiet PyProof.Rows.F.plain_set_update_loop _, go s'.heap (Heap.SameBut.refl c _) ?_⟩
      rw [tk, dd_snoc, addN, if_pos (pm.mem_iff.mp old)]
      exact ⟨es, SE, hs, pm, zs⟩
    · refine wpAny_pure ⟨plainId_quiet PyProof.Rows.F.plain_set_update_loop _, go h' sb ?_⟩
      rw [tk, dd_snoc, addN, if_neg fun m => new (pm.mem_iff.mpr m)]
      refine ⟨es', SE', fun e m => ?_, ?_, ?_⟩
      · rcases List.mem_cons.mp (pm'.mem_iff.mp m) with z | z
        · rw [z]; exact ⟨y, ry, rfl⟩
        · exact hs e z
      · have := pm'.map fun e => kyV e.2
        rw [List.map_cons, kyV_of ry] at this
        exact (this.trans (pm.cons y)).trans (List.perm_append_singleton _ _).symm
      · have := pm'.length_eq
        rw [List.length_cons, Array.length_toList, Array.length_toList] at this
        omega
/-- a new set, with nothing in it -/
def sNew (w : World) : Obj := { cls := .type "set", dict := none, data := .set #[] 0 (.fresh 0 0 (!w.params.followText "set-order")) }
theorem sNew_of {h : Heap} {c : Addr} (e : h.get? c = some (sNew w)) : SetKR w h c (dd []) := by
  refine ⟨#[], ⟨_, 0, _, e, ⟨rfl, rfl, rfl⟩, rfl, rfl, List.Pairwise.nil, ?_⟩, (fun e m => by cases m), .rfl, by decide⟩
  show _ ∨ (!w.params.followText "set-order") = true
  cases w.params.followText "set-order"
  · exact .inr rfl
  · exact .inl rfl
theorem call_setK {t : Addr} {its : Array Value} (ks : List Key) {Q : Value → Shared → Prop} (hd : A.handled = none) (ht : s.heap.IsTuple t its) (rv : Vals (ks.map kV) its.toList) (hb : ks.length + 1 < scanBound)
    (q : ∀ (h' : Heap) (tk : Nat), SetKR w h' s.heap.objs.size (dd ks) → (∀ b o, s.heap.get? b = some o → h'.get? b = some o) → Q (.ref s.heap.objs.size) { s with heap := h', toks := tk }) :
    wpAny (model P w) A (call (.type "set") [.ref t]) Q E s := by
  have hsz : its.size = ks.length := by
    have z := rv.length
    rw [List.length_map, Array.length_toList] at z
    exact z.symm
  obtain ⟨c0, tl, em⟩ := PySem.F.called_set.mro
  have m1 := PySem.F.called_set.made
  have m2 := PySem.F.called_set.sub
  refine wpAny_call (codeAny_of_tree (show wpAny _ _ (callAny (.type "set") _) _ _ _ from ?_))
  refine wpAny_pure ⟨Code.quiet_builtin _ (by decide +kernel), codeAny_builtin PySem.F.entry_type_call ?_⟩
  rw [Around.under_plain (weight_type_call_type "set" [.ref t] []) rfl]
  have m3 := PySem.F.called_set.notType
  have m4 := PySem.F.called_set.canCreate
  have m5 := PySem.F.typeCall_set_1 (.ref t)
  repeat (any_goals (first | assumption | wp_step))
  refine codeAny_mono (L2.code_set_led1 (.ref t) (E := E) (Q₁ := fun ob s1 => ob = .ref s.heap.objs.size ∧ s1 = { s with heap := s.heap.push (sNew w) }) ⟨rfl, rfl⟩) fun r s1 hr => ?_
  cases r with
  | error e => exact hr
  | ok fl =>
    cases fl with
    | ret ob =>
      obtain ⟨rfl, rfl⟩ := hr
      have g0 : (s.heap.push (sNew w)).get? s.heap.objs.size = some (sNew w) := Heap.get?_push_size _ rfl
      have ty : Shared.TypeIs { s with heap := s.heap.push (sNew w) } (.ref s.heap.objs.size) "set" := ⟨_, g0, rfl⟩
      have n1 := PySem.F.called_set.init.lookup
      have n2 := PySem.F.called_set.init.bind (.ref s.heap.objs.size)
      repeat (any_goals (first | assumption | wp_step))
      refine codeAny_mono (codeAny_call_builtin (R := wants (fun r s2 => r = .none ∧ ∃ h' tk, s2 = { s with heap := h', toks := tk } ∧ SetKR w h' s.heap.objs.size (dd ks) ∧
          ∀ b o, s.heap.get? b = some o → h'.get? b = some o) E) PySem.F.called_set.init.plain PySem.F.entry_set_init (check_set_init_1 ty ?_)) fun r2 s2 hr2 => ?_
      · obtain ⟨o, go, oc, n, od⟩ := ht
        obtain ⟨k1, k2, k3, k4⟩ := o
        simp only at oc od
        subst oc; subst od
        have go' : (s.heap.push (sNew w)).get? t = some { cls := .type "tuple", dict := k2, data := .seq its n, slots := k4 } := Heap.get?_push_of_some _ go
        have u1 := PySem.F.sub_tuple_set
        have u2 := PySem.F.sub_tuple_frozenset
        have u3 : (Value.type "tuple" == Value.type "dict") = false := by decide
        have ht1 : (s.heap.push (sNew w)).IsTuple t its := ⟨_, go', rfl, n, rfl⟩
        unfold Builtin.«set.__init__» noKeywords Builtin.Frozenset.updateFrom
        generalize hI : pyIter = fI
        wp_walk
        subst hI
        refine wpAny_pyIter_tuple ht1 (wpAny_bind (wpAny_runValue ?_))
        have lt : t < s.heap.objs.size := Heap.lt_size go
        have hd3 : A.in1.in1.in1.handled = none := by simp [hd]
        have ne : t ≠ (s.heap.push (sNew w)).objs.size := by rw [Heap.size_push]; exact fun z => absurd (Nat.lt_succ_of_lt lt) (by rw [z]; exact Nat.lt_irrefl _)
        have nf : s.heap.objs.size ∉ [(s.heap.push (sNew w)).objs.size, t] := by
          rw [Heap.size_push]
          intro z
          rcases List.mem_cons.mp z with z | z
          · exact Nat.ne_of_lt (Nat.lt_succ_self _) z
          · exact Nat.ne_of_gt lt (List.mem_singleton.mp z)
        have hv : ∀ (i : Nat) (v : Value), its[i]? = some v → ∃ k, ks[i]? = some k ∧ RelV (kV k) v := fun i v e => by
          have hi : i < ks.length := by rw [← hsz]; exact (Array.getElem?_eq_some_iff.mp e).1
          have e1 : (ks.map kV)[i]? = some (kV ks[i]) := by rw [List.getElem?_map, List.getElem?_eq_getElem hi]; rfl
          obtain ⟨u, e2, ru⟩ := rv.get e1
          rw [Array.getElem?_toList, e] at e2
          cases e2
          exact ⟨_, List.getElem?_eq_getElem hi, ru⟩
        refine upd_keys ((Walks.tuple hd3 _ t ne its).toS) s.heap.objs.size nf ks hsz hb hv its.size 0 _ (by omega) ⟨⟨_, Heap.get?_push_size _ rfl, rfl, rfl⟩, ht1.push _⟩ (sNew_of (Heap.get?_push_of_some _ g0)) ?_
        intro s' mv S'
        obtain ⟨h', v1, v2, tk', v3⟩ := s'
        have w1 : v1 = s.gens := mv.gens
        have w2 : v2 = s.drawn := mv.drawn
        have w3 : v3 = s.os := mv.os
        subst w1; subst w2; subst w3
        show wpAny _ _ _ _ _ _
        refine wpAny_pure (show wpAny _ _ (ret Value.none) _ _ _ from wpAny_pure ⟨rfl, h', tk', rfl, S', fun b o e => ?_⟩)
        have b0 : b < s.heap.objs.size := Heap.lt_size e
        refine mv.heap b o ?_ (Heap.get?_push_of_some _ (Heap.get?_push_of_some _ e))
        rw [Heap.size_push]
        intro z
        rcases List.mem_cons.mp z with z | z
        · exact Nat.ne_of_lt b0 z
        · exact Nat.ne_of_lt (Nat.lt_succ_of_lt b0) (List.mem_singleton.mp z)
      · cases r2 with
        | error e => exact hr2
        | ok fl2 =>
          cases fl2 with
          | ret r =>
            obtain ⟨rfl, h', tk, rfl, S', kp⟩ := hr2
            have z := q h' tk S' kp
            repeat (any_goals (first | assumption | wp_step))
          | _ => exact hr2
    | _ => exact hr
end
end Dk
end S_Sk
end
section
set_option Elab.async false
set_option linter.all false
set_option maxRecDepth 100000
set_option maxHeartbeats 4000000
/-! set(xs), xs a list of numbers and texts -/
noncomputable section S_Sl
namespace Dk
open PySem PySem.Spec PyProof.Rows L2
open Classical
section
variable {P : Program} {w : World} {A : Around} {E : Value → Shared → Prop} {s : Shared}
theorem call_setL {t : Addr} {its : Array Value} (ks : List Key) {Q : Value → Shared → Prop} (hd : A.handled = none) (ht : s.heap.IsList t its) (rv : Vals (ks.map kV) its.toList) (hb : ks.length + 1 < scanBound)
    (q : ∀ (h' : Heap) (tk : Nat), SetKR w h' s.heap.objs.size (dd ks) → (∀ b o, s.heap.get? b = some o → h'.get? b = some o) → Q (.ref s.heap.objs.size) { s with heap := h', toks := tk }) :
    wpAny (model P w) A (call (.type "set") [.ref t]) Q E s := by
  have hsz : its.size = ks.length := by
    have z := rv.length
    rw [List.length_map, Array.length_toList] at z
    exact z.symm
  obtain ⟨c0, tl, em⟩ := PySem.F.called_set.mro
  have m1 := PySem.F.called_set.made
  have m2 := PySem.F.called_set.sub
  refine wpAny_call (codeAny_of_tree (show wpAny _ _ (callAny (.type "set") _) _ _ _ from ?_))
  refine wpAny_pure ⟨Code.quiet_builtin _ (by decide +kernel), codeAny_builtin PySem.F.entry_type_call ?_⟩
  rw [Around.under_plain (weight_type_call_type "set" [.ref t] []) rfl]
  have m3 := PySem.F.called_set.notType
  have m4 := PySem.F.called_set.canCreate
  have m5 := PySem.F.typeCall_set_1 (.ref t)
  repeat (any_goals (first | assumption | wp_step))
  refine codeAny_mono (L2.code_set_led1 (.ref t) (E := E) (Q₁ := fun ob s1 => ob = .ref s.heap.objs.size ∧ s1 = { s with heap := s.heap.push (sNew w) }) ⟨rfl, rfl⟩) fun r s1 hr => ?_
  cases r with
  | error e => exact hr
  | ok fl =>
    cases fl with
    | ret ob =>
      obtain ⟨rfl, rfl⟩ := hr
      have g0 : (s.heap.push (sNew w)).get? s.heap.objs.size = some (sNew w) := Heap.get?_push_size _ rfl
      have ty : Shared.TypeIs { s with heap := s.heap.push (sNew w) } (.ref s.heap.objs.size) "set" := ⟨_, g0, rfl⟩
      have n1 := PySem.F.called_set.init.lookup
      have n2 := PySem.F.called_set.init.bind (.ref s.heap.objs.size)
      repeat (any_goals (first | assumption | wp_step))
      refine codeAny_mono (codeAny_call_builtin (R := wants (fun r s2 => r = .none ∧ ∃ h' tk, s2 = { s with heap := h', toks := tk } ∧ SetKR w h' s.heap.objs.size (dd ks) ∧
          ∀ b o, s.heap.get? b = some o → h'.get? b = some o) E) PySem.F.called_set.init.plain PySem.F.entry_set_init (check_set_init_1 ty ?_)) fun r2 s2 hr2 => ?_
      · obtain ⟨o, go, oc, n, od⟩ := ht
        obtain ⟨k1, k2, k3, k4⟩ := o
        simp only at oc od
        subst oc; subst od
        have go' : (s.heap.push (sNew w)).get? t = some { cls := .type "list", dict := k2, data := .seq its n, slots := k4 } := Heap.get?_push_of_some _ go
        have u1 := PySem.F.sub_list_set
        have u2 := PySem.F.sub_list_frozenset
        have u3 : (Value.type "list" == Value.type "dict") = false := by decide
        have ht1 : (s.heap.push (sNew w)).IsList t its := ⟨_, go', rfl, n, rfl⟩
        unfold Builtin.«set.__init__» noKeywords Builtin.Frozenset.updateFrom
        generalize hI : pyIter = fI
        wp_walk
        subst hI
        refine wpAny_pyIter_list ht1 (wpAny_bind (wpAny_runValue ?_))
        have lt : t < s.heap.objs.size := Heap.lt_size go
        have hd3 : A.in1.in1.in1.handled = none := by simp [hd]
        have ne : t ≠ (s.heap.push (sNew w)).objs.size := by rw [Heap.size_push]; exact fun z => absurd (Nat.lt_succ_of_lt lt) (by rw [z]; exact Nat.lt_irrefl _)
        have nf : s.heap.objs.size ∉ [(s.heap.push (sNew w)).objs.size, t] := by
          rw [Heap.size_push]
          intro z
          rcases List.mem_cons.mp z with z | z
          · exact Nat.ne_of_lt (Nat.lt_succ_self _) z
          · exact Nat.ne_of_gt lt (List.mem_singleton.mp z)
        have hv : ∀ (i : Nat) (v : Value), its[i]? = some v → ∃ k, ks[i]? = some k ∧ RelV (kV k) v := fun i v e => by
          have hi : i < ks.length := by rw [← hsz]; exact (Array.getElem?_eq_some_iff.mp e).1
          have e1 : (ks.map kV)[i]? = some (kV ks[i]) := by rw [List.getElem?_map, List.getElem?_eq_getElem hi]; rfl
          obtain ⟨u, e2, ru⟩ := rv.get e1
          rw [Array.getElem?_toList, e] at e2
          cases e2
          exact ⟨_, List.getElem?_eq_getElem hi, ru⟩
        refine upd_keys ((Walks.list hd3 _ t ne its).toS) s.heap.objs.size nf ks hsz hb hv its.size 0 _ (by omega) ⟨⟨_, Heap.get?_push_size _ rfl, rfl, rfl⟩, ht1.push _⟩ (sNew_of (Heap.get?_push_of_some _ g0)) ?_
        intro s' mv S'
        obtain ⟨h', v1, v2, tk', v3⟩ := s'
        have w1 : v1 = s.gens := mv.gens
        have w2 : v2 = s.drawn := mv.drawn
        have w3 : v3 = s.os := mv.os
        subst w1; subst w2; subst w3
        show wpAny _ _ _ _ _ _
        refine wpAny_pure (show wpAny _ _ (ret Value.none) _ _ _ from wpAny_pure ⟨rfl, h', tk', rfl, S', fun b o e => ?_⟩)
        have b0 : b < s.heap.objs.size := Heap.lt_size e
        refine mv.heap b o ?_ (Heap.get?_push_of_some _ (Heap.get?_push_of_some _ e))
        rw [Heap.size_push]
        intro z
        rcases List.mem_cons.mp z with z | z
        · exact Nat.ne_of_lt b0 z
        · exact Nat.ne_of_lt (Nat.lt_succ_of_lt b0) (List.mem_singleton.mp z)
      · cases r2 with
        | error e => exact hr2
        | ok fl2 =>
          cases fl2 with
          | ret r =>
            obtain ⟨rfl, h', tk, rfl, S', kp⟩ := hr2
            have z := q h' tk S' kp
            repeat (any_goals (first | assumption | wp_step))
          | _ => exact hr2
    | _ => exact hr
end
end Dk
end S_Sl
end
section
set_option Elab.async false
set_option linter.all false
set_option maxRecDepth 100000
set_option maxHeartbeats 4000000
noncomputable section S_Sn
namespace Dk
open PySem PySem.Spec PyProof.Rows L2
open Classical
def keysOf : List D → Option (List Key)
  | [] => some []
  | x :: xs => match keyOf x, keysOf xs with
    | some k, some ks => some (k :: ks)
    | _, _ => none
theorem keysOf_eq : ∀ {xs : List D} {ks : List Key}, keysOf xs = some ks → xs = ks.map ofKey
  | [], ks, e => by cases e; rfl
  | x :: xs, ks, e => by
    unfold keysOf at e
    cases h1 : keyOf x with
    | none => rw [h1] at e; cases e
    | some k =>
      cases h2 : keysOf xs with
      | none => rw [h1, h2] at e; cases e
      | some l =>
        rw [h1, h2] at e
        cases e
        rw [List.map_cons, ← keysOf_eq h2]
        congr 1
        cases x <;> first | (cases h1; rfl) | (cases h1)
theorem reps_keys {G : Gx} {Z : Addr → Prop} {as : List Addr} {H : Hp} : ∀ {ks : List Key} {vs : List V}, Reps G Z as H (ks.map ofKey) vs → vs = ks.map kV
  | [], _, .nil => rfl
  | .inl i :: ks, _, .cons r q => by cases r; rw [reps_keys q]; rfl
  | .inr i :: ks, _, .cons r q => by cases r; rw [reps_keys q]; rfl
def setD (h : Hd) : List D → Option Res
  | [d] => (match asS h d with
    | some xs => (match keysOf xs with
      | some ks => if ks.length ≤ 1000 then some (.v (.set (dd ks))) else none
      | none => none)
    | none => none)
  | _ => none
theorem call_setN {X : Cx} {mu : Bool} (hc : X.calm = true) : CallR X (.type "set") (rBs (gx X) mu setD) := by
  intro pins s st H vs us Q I r z
  obtain ⟨Z, as, h, ds, S, rs, p⟩ := z
  unfold setD at p
  split at p
  · next d =>
    obtain ⟨v, rfl, rv⟩ := one_of rs rfl
    obtain ⟨u, rfl, ru⟩ := vals1 r
    split at p
    · next xs e0 =>
      split at p
      · next ks e =>
        obtain ⟨hz, p⟩ := p.ite
        have e1 := keysOf_eq e
        subst e1
        obtain ⟨a, ws, rfl, h1, h2⟩ := asS_rep S rv e0
        cases ru
        have n := I.hok.fresh (Nat.le_refl s.heap.objs.size)
        have fin : ∀ (h' : Heap) (tk : Nat), SetKR X.w h' s.heap.objs.size (dd ks) → (∀ b o, s.heap.get? b = some o → h'.get? b = some o) → EP X pins st Q (.ref s.heap.objs.size) { s with heap := h', toks := tk } := fun h' tk S' kp =>
          ⟨.ref s.heap.objs.size, upd H s.heap.objs.size (SetQ X.w s.heap.objs.size (dd ks)), I.laid (t' := tk) kp (Nat.le_refl _) (setQ_new S'), rfl,
            p.at_ (.new n) (S.new n) (.set upd_same dd_nodup (S.nin n) (S.nz n))⟩
        rcases h1 with h1 | h1
        · obtain ⟨its, q1, q2, q3⟩ := I.list (SqL.of h1)
          rw [reps_keys h2] at q1
          exact call_setL ks (I.ok.hd hc) q2.isList (by simpa using q1) (by unfold scanBound; omega) fin
        · obtain ⟨its, q1, q2, q3⟩ := I.tuple h1.sq
          rw [reps_keys h2] at q1
          exact call_setK ks (I.ok.hd hc) q2 (by simpa using q1) (by unfold scanBound; omega) fin
      · exact PR.none_of p
    · exact PR.none_of p
  · exact PR.none_of p
end Dk
end S_Sn
end
section
set_option Elab.async false
set_option linter.all false
set_option maxRecDepth 100000
set_option maxHeartbeats 4000000
/-! dict(pairs): a list or a tuple of pairs -/
noncomputable section S_Dp
namespace Dk
open PySem PySem.Spec PyProof.Rows L2
open Classical
def pairsD : List D → Option (List (Key × D))
  | [] => some []
  | .tup [x, y] :: r => (match keyOf x, pairsD r with
    | some k, some l => some ((k, y) :: l)
    | _, _ => none)
  | _ => none
def dctD (h : Hd) : List D → Option Res
  | [d] => (match asK h d with
    | some kvs => some (.d kvs)
    | none => match asS h d with
      | some xs => (match pairsD xs with
        | some l => some (.d (mergeD [] l))
        | none => none)
      | none => none)
  | _ => none
theorem pairs_rep {G : Gx} {Z : Addr → Prop} {as : List Addr} {H : Hp} : ∀ {xs : List D} {l : List (Key × D)} {vs : List V}, pairsD xs = some l → Reps G Z as H xs vs →
    ∃ (ps : List Addr) (ws : List (Key × V)), vs = ps.map V.ref ∧ Paired (fun p kv => SqT G.K H p [kV kv.1, kv.2]) ps ws ∧ RepK G Z as H l ws
  | [], l, _, e, .nil => by
    cases e
    exact ⟨[], [], rfl, .nil, .nil⟩
  | x :: xs, l, _, e, .cons (v := v) (vs := vs) r q => by
    unfold pairsD at e
    split at e
    · next h => cases h
    · next x1 y r' h =>
      cases h
      split at e
      · next k l' e1 e2 =>
        cases e
        obtain ⟨ps, ws, rfl, h1, h2⟩ := pairs_rep e2 q
        cases r with
        | tup t rr =>
          cases rr with
          | cons r1 rr =>
            cases rr with
            | cons r2 rr =>
              cases rr
              rw [key_rep e1 r1] at t
              exact ⟨_ :: ps, (k, _) :: ws, rfl, .cons t.sq h1, .cons r2 h2⟩
      · cases e
    · cases e
section
variable {X : Cx}
theorem tup_plain {pins : List (Addr × Obj)} {st : L2.St} {H : Hp} {s : Shared} {a : Addr} {vs : List V} (I : Inv X pins st H s) (t : TupA X.K H a vs) : ∃ its : List Value, Vals vs its ∧ PlainSeq "tuple" s.heap a its.toArray ∧ vs.length ≤ sizeLine := by
  obtain ⟨its, q1, ⟨o, g1, g2, n, g3⟩, q3⟩ := I.tuple t.sq
  refine ⟨its, q1, ⟨o, n, g1, g2, ?_, g3⟩, q3⟩
  rcases t with ⟨o', e, hd⟩ | ⟨o', its', n', e1, e2, hd, _⟩
  · have z := (I.hok a _ e).1
    rw [g1] at z
    cases z
    exact hd
  · have z := I.kIn a o' e1
    rw [g1] at z
    cases z
    exact hd
theorem call_dictT (hc : X.calm = true) : CallR X (.type "dict") (fun xs H Q => ∃ (a : Addr) (ps : List Addr) (kvs : List (Key × V)), xs = [.ref a] ∧ TupA X.K H a (ps.map V.ref) ∧ Paired (fun p kv => SqT X.K H p [kV kv.1, kv.2]) ps kvs ∧
    ∀ p, H p = none → Q (.ref p) (upd H p (.dK (mergeK [] kvs)))) := by
  rintro pins s st H _ us Q I r ⟨a, ps, kvs, rfl, hq, hp, q⟩
  obtain ⟨u, rfl, rx⟩ := vals1 r
  cases rx
  obtain ⟨its, rv, pl, hz⟩ := tup_plain I hq
  obtain rfl := refs_at rv
  rw [List.length_map] at hz
  obtain ⟨prs, rel, hl, hpr⟩ := pairs_of I hp
  have ex : ∀ j : Nat, ∃ (b : Addr) (k : Value), ∀ kv, prs[j]? = some kv → ps[j]? = some b ∧ IsTup s.heap b #[k, kv.2] ∧ keyIs kv.1 k = true := fun j => by
    cases e : prs[j]? with
    | none => exact ⟨a, .none, fun kv z => by cases z⟩
    | some kv =>
      obtain ⟨b, u, e1, e2, e3⟩ := hpr j kv e
      exact ⟨b, u, fun kv' z => by cases z; exact ⟨e1, e2, e3⟩⟩
  let Ts : Nat → Addr := fun j => Classical.choose (ex j)
  let us : Nat → Value := fun j => Classical.choose (Classical.choose_spec (ex j))
  have hT : ∀ (j : Nat) kv, prs[j]? = some kv → ps[j]? = some (Ts j) ∧ IsTup s.heap (Ts j) #[us j, kv.2] ∧ keyIs kv.1 (us j) = true := fun j => Classical.choose_spec (Classical.choose_spec (ex j))
  have hpv : ∀ j, ((List.range prs.length).map fun j => (us j, (prs[j]?.map (·.2)).getD .none))[j]? = (prs[j]?).map fun kv => (us j, kv.2) := fun j => by
    rw [List.getElem?_map]
    by_cases c : j < prs.length
    · rw [List.getElem?_range c, List.getElem?_eq_getElem c, Option.map_some, Option.map_some, List.getElem?_eq_getElem c]
      rfl
    · rw [List.getElem?_eq_none (by simpa using c), List.getElem?_eq_none (by simpa using c)]
      rfl
  generalize hpvs : ((List.range prs.length).map fun j => (us j, (prs[j]?.map (·.2)).getD .none)) = pvs at hpv
  have hpl : pvs.length = prs.length := by rw [← hpvs]; simp
  have P := PairArg.tuple (prog := X.prog) (w := X.w) a (ps.map Value.ref).toArray Ts pvs
  refine PySem.call_dict_pairs (knd := mixKind X.prog X.w) (kvs := prs) P (I.ok.hd hc) ⟨pl, by simp [hpl, hl], fun j k v e => ?_⟩ ⟨by rw [hpl], fun j k v e => ?_⟩ (by rw [hpl, hl]; exact hz) fun h' tk hd' kp => ?_
  · rw [hpv] at e
    cases e1 : prs[j]? with
    | none => rw [e1] at e; cases e
    | some kv =>
      rw [e1] at e
      cases e
      obtain ⟨g1, g2, g3⟩ := hT j kv e1
      exact ⟨by simp [g1], .inl g2⟩
  · have e' : pvs[j]? = some (k, v) := e
    rw [hpv] at e'
    cases e1 : prs[j]? with
    | none => rw [e1] at e'; cases e'
    | some kv =>
      rw [e1] at e'
      cases e'
      exact ⟨kv.1, rfl, (hT j kv e1).2.2⟩
  · have hm : (s.heap.objs.size == sysModules) = false := beq_eq_false_iff_ne.mpr (Nat.ne_of_gt I.big)
    have hlen : (mergeK [] kvs).length ≤ sizeLine := by
      have h1 := length_mergeK kvs []
      have h2 := rel.length
      simp only [List.length_nil, Nat.zero_add] at h1
      omega
    exact ⟨.ref s.heap.objs.size, upd H s.heap.objs.size (.dK (mergeK [] kvs)), I.laid (t' := tk) (fun b o e => kp b o (by simp) e) (Nat.le_refl _) ⟨hlen, hm, merged [] prs, KV.merge rel .nil, hd'⟩, rfl, q _ (I.hok.fresh (Nat.le_refl _))⟩
theorem call_dctN {mu : Bool} (hc : X.calm = true) : CallR X (.type "dict") (rBs (gx X) mu dctD) := by
  intro pins s st H vs us Q I r z
  obtain ⟨Z, as, h, ds, S, rs, p⟩ := z
  unfold dctD at p
  split at p
  · next d =>
    obtain ⟨v, rfl, rv⟩ := one_of rs rfl
    split at p
    · next kvs e =>
      obtain ⟨a, ws, rfl, h1, h2⟩ := asK_rep S rv e
      exact call_dictD pins s st H _ us Q I r ⟨a, ws, rfl, h1, fun l hl => p.newD S h2 hl⟩
    · split at p
      · next xs e =>
        split at p
        · next l e2 =>
          obtain ⟨a, ws, rfl, h1, h2⟩ := asS_rep S rv e
          obtain ⟨ps, kws, rfl, pd, rk⟩ := pairs_rep e2 h2
          rcases h1 with h1 | h1
          · exact call_dictP hc pins s st H _ us Q I r ⟨a, ps, kws, rfl, SqL.of h1, pd, fun b hb => p.newD S (RepK.merge rk .nil) hb⟩
          · exact call_dictT hc pins s st H _ us Q I r ⟨a, ps, kws, rfl, h1, pd, fun b hb => p.newD S (RepK.merge rk .nil) hb⟩
        · exact PR.none_of p
      · exact PR.none_of p
  · exact PR.none_of p
end
end Dk
end S_Dp
end
section
set_option Elab.async false
set_option linter.all false
set_option maxRecDepth 100000
set_option maxHeartbeats 4000000
/-! xs[::-1], xs a list -/
noncomputable section S_Rv
namespace Dk
open PySem PySem.Spec PyProof.Rows L2
open Classical
section
variable {X : Cx} {W : WX}
theorem pe_rev {e st : Expr} {te ts : TE} {p2 pos : Pos} (he : PE X e te) (hs : PE X st ts) : PE X (.Subscript e (.Slice none none (some st) p2) pos) (fun σ H Q => te σ H fun x H1 => ts σ H1 fun k H2 => k = .int (-1) ∧ ∃ a xs, x = .ref a ∧ H2 a = some (.lst xs) ∧ ∀ p, H2 p = none → Q (.ref p) (upd H2 p (.lst xs.reverse))) := by
  refine ⟨fun pins s σ H Q I h => ?_⟩
  refine Subscript_ (thn (he.run pins s σ H _ I h) fun v s1 ⟨x, H1, I1, r1, q1⟩ => ?_)
  refine wpAny_Slice ?_
  rw [evalPart_none]
  refine wpAny_pure ?_
  refine wpAny_pure ?_
  rw [evalPart_some]
  refine thn (hs.run pins s1 σ H1 _ I1 q1) fun vk s2 ⟨k, H2, I2, rk, q2⟩ => ?_
  obtain ⟨rfl, a, xs, rfl, hl, q⟩ := q2
  obtain ⟨t, rfl⟩ := rk
  cases r1
  have I3 : Inv X pins σ H2 { s2 with heap := s2.heap.push { cls := .type "slice", data := .fields #[.none, .none, .int (-1) t] } } := I2.kept (t' := s2.toks) fun b ob q => Heap.get?_push_of_some _ q
  obtain ⟨its, rv, pl, hz⟩ := I3.list (SqL.of hl)
  have hz' : its.toArray.size ≤ sizeLine := by rw [List.size_toArray, ← rv.length]; exact hz
  show wpAny (model X.prog X.w) X.A (subscriptTail e (.Slice none none (some st) p2) (.ref a) (.ref s2.heap.objs.size)) (EP X pins σ Q) X.xe { s2 with heap := s2.heap.push { cls := .type "slice", data := .fields #[.none, .none, .int (-1) t] } }
  refine tail_any (ops := [.ref a, .ref s2.heap.objs.size]) pl.isList.typeIs list_getitem_lookup ?_ (by with_unfolding_all rfl)
  refine wpAny_getItem_list_slice pl.isList (Heap.IsSliceOf.new ..) .none .none (.int (-1) t) (by decide) ?_ hz'
  rw [PySem.W.krv_pick]
  have lay := I3.laid (t' := s2.toks) (o := .lst xs.reverse) (h' := (s2.heap.push { cls := .type "slice", data := .fields #[.none, .none, .int (-1) t] }).push { cls := .type "list", data := .seq its.reverse.toArray }) (fun b ob q => Heap.get?_push_of_some _ q) (Nat.le_refl _) ?_
  · exact ⟨.ref _, _, lay, rfl, q _ (I3.hok.fresh (Nat.le_refl _))⟩
  · exact ⟨by rw [List.length_reverse]; exact hz, its.reverse, 0, Vals.reverse rv, Heap.get?_push_size _ rfl⟩
def revD (h : Hd) (d : D) : Option Res := (asL h d).map fun xs => .l xs.reverse
def revX (mu : Bool) (f g : SE) : SE := fun e => bd (f e) fun d => bd (g e) fun k => fun h => match k with
  | .int i => if i = -1 then lf mu (revD h d) h else .fail
  | _ => .fail
theorem de_rev {a st : Expr} {f g : SE} {mu : Bool} {p2 pos : Pos} (ha : PE X a (rd (gx X) W f)) (hs : PE X st (rd (gx X) W g)) : PE X (.Subscript a (.Slice none none (some st) p2) pos) (rd (gx X) W (revX mu f g)) :=
  (pe_rev ha hs).imp fun s H Q z => by
    obtain ⟨Z, as, e, h, S, E, P⟩ := z
    rw [post_px] at P
    refine ⟨Z, as, e, h, S, E, ?_⟩
    rw [post_px]
    refine (PX.bind (R1 := Rep (gx X) Z) P).imp fun x H1 z => ?_
    obtain ⟨as1, d, h1, _, x1, S1, r1, P1⟩ := z
    refine ⟨Z, as1, e, h1, S1, E.mono S x1, ?_⟩
    rw [post_px]
    refine (PX.bind (R1 := Rep (gx X) Z) P1).imp fun k H2 z => ?_
    obtain ⟨as2, k', h2, _, x2, S2, r2, P2⟩ := z
    cases r2 with
    | int i =>
      by_cases c : i = -1
      · subst c
        refine ⟨rfl, ?_⟩
        have P3 : PX (Rep (gx X) Z) (gx X) W Z s as2 H2 (lf mu (revD h2 d) h2) Q := P2
        rw [← post_px] at P3
        have p := Post.pr P3
        unfold revD at p
        cases e : asL h2 d with
        | none => rw [e] at p; exact PR.none_of p
        | some ys =>
          rw [e] at p
          obtain ⟨b, ws, rfl, q1, q2⟩ := asL_rep S2 (r1.mono S1 x2) e
          exact ⟨b, ws, rfl, q1, fun l hl => PR.newL p S2 q2.rev hl⟩
      · exact (show PX (Rep (gx X) Z) (gx X) W Z s as2 H2 Out.fail Q by simpa [if_neg c] using P2).elim
    | _ => exact P2.elim
end
end Dk
end S_Rv
end
section
set_option Elab.async false
set_option linter.all false
set_option maxRecDepth 100000
set_option maxHeartbeats 4000000
/-! list(range(..)) -/
noncomputable section S_Rg
namespace Dk
open PySem PySem.Spec PyProof.Rows L2
open Classical
def rgL (a b : Int) : List D := (List.range (b - a).toNat).map fun i => D.int (a + (i : Nat))
def lrg2X (mu : Bool) (f g : SE) : SE := fun e => bd (f e) fun x => bd (g e) fun y => fun h => match x, y with
  | .int a, .int b => if RgOk a b then fin mu (.l (rgL a b)) h else .fail
  | _, _ => .fail
def lrg1X (mu : Bool) (f : SE) : SE := fun e => bd (f e) fun x => fun h => match x with
  | .int b => if RgOk 0 b then fin mu (.l (rgL 0 b)) h else .fail
  | _ => .fail
theorem reps_rg {G : Gx} {Z : Addr → Prop} {as : List Addr} {H : Hp} {a b : Int} : Reps G Z as H (rgL a b) (rgV a b) := by
  unfold rgL rgV
  generalize (List.range (b - a).toNat) = l
  induction l with
  | nil => exact .nil
  | cons i l ih => exact .cons (.int _) ih
section
variable {X : Cx} {W : WX}
theorem de_lrg2 {a b : Expr} {f g : SE} {mu : Bool} {p p2 pos pos2 : Pos} (hc : X.calm = true) (hg : Gl X "list") (hm : X.mg "list" = none) (hg2 : Gl X "range") (hm2 : X.mg "range" = none) (n : notStar a = true) (n' : notStar b = true) (ha : PE X a (rd (gx X) W f)) (hb : PE X b (rd (gx X) W g)) :
    PE X (.Call (.Name "list" p) [.Call (.Name "range" p2) [a, b] [] pos2] [] pos) (rd (gx X) W (lrg2X mu f g)) :=
  (pe_listRg hc hg hm (prg_2 hg2 hm2 ha hb (starEach_of n) (starEach_of n') (back_all (by simp [n']))) (starEach_of rfl)).imp fun s H Q z => by
    obtain ⟨Z, as, e, h, S, E, P⟩ := z
    rw [post_px] at P
    refine ⟨Z, as, e, h, S, E, ?_⟩
    rw [post_px]
    refine (PX.bind (R1 := Rep (gx X) Z) P).imp fun x H1 z => ?_
    obtain ⟨as1, d, h1, _, x1, S1, r1, P1⟩ := z
    refine ⟨Z, as1, e, h1, S1, E.mono S x1, ?_⟩
    rw [post_px]
    refine (PX.bind (R1 := Rep (gx X) Z) P1).imp fun k H2 z => ?_
    obtain ⟨as2, k', h2, _, x2, S2, r2, P2⟩ := z
    have r1' := r1.mono S1 x2
    cases r1' with
    | int i =>
      cases r2 with
      | int j =>
        by_cases c : RgOk i j
        · refine ⟨i, j, rfl, rfl, c, fun q hq => ?_⟩
          have P3 : PX (Rep (gx X) Z) (gx X) W Z s as2 H2 (fin mu (.l (rgL i j)) h2) Q := by simpa [if_pos c] using P2
          rw [← post_px] at P3
          exact PR.newL (Post.pr (o := some (.l (rgL i j))) P3) S2 reps_rg hq
        · exact (show PX (Rep (gx X) Z) (gx X) W Z s as2 H2 Out.fail Q by simpa [if_neg c] using P2).elim
      | _ => exact P2.elim
    | _ => cases r2 <;> exact P2.elim
theorem de_lrg1 {b : Expr} {g : SE} {mu : Bool} {p p2 pos pos2 : Pos} (hc : X.calm = true) (hg : Gl X "list") (hm : X.mg "list" = none) (hg2 : Gl X "range") (hm2 : X.mg "range" = none) (n' : notStar b = true) (hb : PE X b (rd (gx X) W g)) :
    PE X (.Call (.Name "list" p) [.Call (.Name "range" p2) [b] [] pos2] [] pos) (rd (gx X) W (lrg1X mu g)) :=
  (pe_listRg hc hg hm (prg_1 hg2 hm2 hb (starEach_of n')) (starEach_of rfl)).imp fun s H Q z => by
    obtain ⟨Z, as, e, h, S, E, P⟩ := z
    rw [post_px] at P
    refine ⟨Z, as, e, h, S, E, ?_⟩
    rw [post_px]
    refine (PX.bind (R1 := Rep (gx X) Z) P).imp fun k H2 z => ?_
    obtain ⟨as2, k', h2, _, x2, S2, r2, P2⟩ := z
    cases r2 with
    | int j =>
      by_cases c : RgOk 0 j
      · refine ⟨j, rfl, c, fun q hq => ?_⟩
        have P3 : PX (Rep (gx X) Z) (gx X) W Z s as2 H2 (fin mu (.l (rgL 0 j)) h2) Q := by simpa [if_pos c] using P2
        rw [← post_px] at P3
        exact PR.newL (Post.pr (o := some (.l (rgL 0 j))) P3) S2 reps_rg hq
      · exact (show PX (Rep (gx X) Z) (gx X) W Z s as2 H2 Out.fail Q by simpa [if_neg c] using P2).elim
    | _ => exact P2.elim
end
end Dk
end S_Rg
end
section
set_option Elab.async false
set_option linter.all false
set_option maxRecDepth 100000
set_option maxHeartbeats 4000000
/-! sorted(d.values()) -/
noncomputable section S_Sv
namespace Dk
open PySem PySem.Spec PyProof.Rows L2
open Classical
theorem vals_at : ∀ {ws : List (Key × V)} {us : List Value}, us.length = ws.length → (∀ (j : Nat) (v : Value), us[j]? = some v → ∃ x : V, (ws.map (·.2))[j]? = some x ∧ RelV x v) → Vals (ws.map (·.2)) us
  | [], [], _, _ => .nil
  | [], _ :: _, e, _ => by cases e
  | _ :: _, [], e, _ => by cases e
  | w :: ws, u :: us, e, f => by
    refine .cons ?_ (vals_at (by simpa using e) fun j v q => f (j + 1) v (by simpa using q))
    obtain ⟨x, h1, h2⟩ := f 0 u rfl
    simp only [List.map_cons, List.getElem?_cons_zero, Option.some.injEq] at h1
    show L2.RelV w.2 u
    rw [h1]
    exact h2
theorem valsD_reps {G : Gx} {Z : Addr → Prop} {as : List Addr} {H : Hp} : ∀ {ds : List (Key × D)} {vs : List (Key × V)}, RepK G Z as H ds vs → Reps G Z as H (ds.map (·.2)) (vs.map (·.2))
  | _, _, .nil => .nil
  | _, _, .cons r q => .cons r (valsD_reps q)
def svD (h : Hd) (d : D) : Option Res := match asK h d with
  | some kvs => sortR (kvs.map (·.2))
  | none => none
def svX (mu : Bool) (f : SE) : SE := fun e => bd (f e) fun d => fun h => lf mu (svD h d) h
section
variable {X : Cx} {W : WX}
theorem de_sv {o : Expr} {f : SE} {mu : Bool} {p pos apos mpos : Pos} (hc : X.calm = true) (hu : X.A.units + 64 < cLine) (hg : Gl X "sorted") (hm : X.mg "sorted" = none) (hd : PE X o (rd (gx X) W f)) (n : noBase o = true) (hline : (apos.endLine == mpos.line) = true) :
    PE X (.Call (.Name "sorted" p) [.Call (.Attribute o "values" apos) [] [] mpos] [] pos) (rd (gx X) W (svX mu f)) := by
  refine ⟨fun pins s σ H Q I z => ?_⟩
  obtain ⟨Z, as, e, h, S, E, P⟩ := z
  rw [post_px] at P
  have P' := PX.bind (R1 := Rep (gx X) Z) P
  rw [← post_px] at P'
  have z2 : rd (gx X) W f σ H _ := ⟨Z, as, e, h, S, E, P'⟩
  have hse : starEach [Expr.Call (.Attribute o "values" apos) [] [] mpos] X.env = [(false, eval (Expr.Call (.Attribute o "values" apos) [] [] mpos) X.env)] := starEach_of rfl
  refine wpAny_Call_Name_kw (ld_blt I hg hm (u := .builtin "sorted") (by first | rfl | decide +kernel) ?_ (by first | decide +kernel | decide) (by first | decide +kernel | decide))
  rw [hse]
  refine PySem.callWith_builtin1 (wpAny_Call_method0_late (base_of n _ _) hline (thn (hd.run pins s σ H _ I z2) fun v s1 ⟨x, H1, I1, r1, as1, d, h1, _, x1, S1, r1', P1⟩ => ?_))
  have P3 : PX (Rep (gx X) Z) (gx X) W Z σ as1 H1 (lf mu (svD h1 d) h1) Q := P1
  rw [← post_px] at P3
  have p := Post.pr P3
  unfold svD at p
  cases ek : asK h1 d with
  | none => rw [ek] at p; exact (PR.none_of p)
  | some kvs =>
    rw [ek] at p
    obtain ⟨a, ws, rfl, g1, g2⟩ := asK_rep S1 r1' ek
    obtain rfl : v = Value.ref a := r1
    obtain ⟨_, hsys, vs, rel, dof⟩ := dk_rd I1.hok g1
    obtain ⟨ep, dat⟩ := dof.dictAt
    have dat' := dat
    obtain ⟨ob, es, ho, ex, hdat, hko, hpr, hnd⟩ := dat'
    refine ⟨"dict", "dict.values", F.plainAttrs_dict, F.slot_dict_values, F.type_dict_values, ⟨ob, ho, ex.1⟩, fun b e => ?_, Calls.callWith_builtin rfl (PySem.evalArgs_none ?_)⟩
    · cases e
      exact ⟨ob, ho, ex.2.1⟩
    refine call_meetsIn F.slot_dict_values ⟨ob, ho, ex.1⟩ F.entry_dict_values (F.args_dict_values_1 _) (meets_dict_values (mixKind X.prog X.w) a hsys) ⟨⟨vs, dof⟩, ?_⟩
    have k1 : ∀ b u, s1.heap.get? b = some u → (s1.heap.push { cls := .type "dict_values", data := .fields #[.ref a] }).get? b = some u := fun b u e => Heap.get?_push_of_some _ e
    have dat1 : (s1.heap.push { cls := .type "dict_values", data := .fields #[.ref a] }).DictAt (mixKind X.prog X.w) a vs ep := dat.keep k1
    have I2 : Inv X pins σ H1 { s1 with heap := s1.heap.push { cls := .type "dict_values", data := .fields #[.ref a] } } := I1.kept (t' := s1.toks) k1
    have hlen : vs.length = ws.length := (KV.length rel).symm
    have p0 := p
    unfold sortR at p0
    obtain ⟨⟨ok, hsz⟩, _⟩ := p0.ite
    have hl : vs.length ≤ sizeLine := by
      rw [hlen, ← g2.length]
      simpa using hsz
    refine sorted_end hu I2 S1 (valsD_reps g2) (fun E' R k => ?_) p
    refine PySem.W.kdu_collect (A := X.A.in1) (PySem.W.kdl_values (knd := mixKind X.prog X.w) (kvs := vs) (ep := ep)) (I.ok.hd hc) ⟨⟨_, Heap.get?_push_size _ rfl, rfl, rfl⟩, dat1⟩ hl fun h' tk acc hk2 hacc => ?_
    refine k _ h' tk hk2 (vals_at (by rw [Array.length_toList, hacc.1, hlen]) fun j v e => ?_)
    obtain ⟨kk, e1⟩ := hacc.2 j v (by rw [← Array.getElem?_toList]; exact e)
    obtain ⟨x, e2, e3⟩ := KV.at' rel e1
    exact ⟨x, by rw [List.getElem?_map, e2]; rfl, e3⟩
end
end Dk
end S_Sv
end
section
set_option Elab.async false
set_option linter.all false
set_option maxRecDepth 100000
set_option maxHeartbeats 4000000
/-! DkV: from the program's text to what it does: a translation, and that it is right. -/
noncomputable section S_DkV
namespace Dk
open PySem PySem.Spec PyProof.Rows L2
/-! ### what falls out -/
def failX : SE := fun _ => no
def failT : ST := fun _ => no
def failA : SA := fun _ => no
def failI : SI := fun _ => no
def failO : SO := fun _ => no
def failS : SS := fun _ _ => .fail
section
variable {X : Cx} {W : WX}
theorem de_fail {e : Expr} : PE X e (rd (gx X) W failX) := ⟨fun pins s st H Q I z => by obtain ⟨Z, as, e, h, S, E, P⟩ := z; exact P.elim⟩
theorem dt_fail {e : Expr} : PT X e (rdT (gx X) W failT) := ⟨fun pins s st H Q I z => by obtain ⟨Z, as, e, h, S, E, P⟩ := z; exact P.elim⟩
theorem da_fail {e : List Expr} : PA X e (rdA (gx X) W failA) := ⟨fun pos pins s st H Q I z => by obtain ⟨Z, as, e, h, S, E, P⟩ := z; exact P.elim⟩
theorem di_fail {tg e : Expr} : PI X tg e (rdI (gx X) W failI) := ⟨fun pins s st H Q I z => by obtain ⟨Z, as, e, h, S, E, P⟩ := z; exact P.elim⟩
theorem do_fail {e : Option Expr} : PO X e (rdO (gx X) W failO) := ⟨fun pins s st H Q I z => by obtain ⟨Z, as, e, h, S, E, P⟩ := z; exact P.elim⟩
theorem ds_fail {e : Stmt} : PS X e (rdS (gx X) W failS) := ⟨fun pins s st H Q I z => by obtain ⟨Z, as, e, h, S, E, P⟩ := z; exact P.elim⟩
end
/-! ### the text's setting -/
/-- what a module's name stands for -/
inductive Gb where
  | cst (d : D)
  | fn (n : Nat) (m : List D → M D)
  | mk (c : String) (n : Nat) (dfl : List D) (m : List D → M D)
structure TC where
  N : List Str
  sc : Scope
  cel : List Str
  mus : List (Nat × Nat × Nat)
  glo : List (Str × Gb)
  tb : MTab
  fld : String → String → Bool
  ats : List String
def isMu (c : TC) (p : Pos) : Bool := c.mus.any fun q => q.1 == p.line && (q.2.1 == p.col && q.2.2 == p.endCol)
def plainN (x : Str) : Bool := !(x == ("__debug__" : Str)) && (!(x == ("__classdict__" : Str)) && !(x == ("__name__" : Str)))
theorem plainN_ok {x : Str} (h : plainN x = true) : (x == ("__debug__" : Str)) = false ∧ (x == ("__classdict__" : Str)) = false ∧ x ≠ "__name__" := by
  unfold plainN at h
  simp only [Bool.and_eq_true, Bool.not_eq_true'] at h
  exact ⟨h.1, h.2.1, by simpa using h.2.2⟩
def slotL (x : Str) : List Str → Option Nat
  | [] => none
  | y :: ys => if y = x then some 0 else (slotL x ys).map (· + 1)
theorem slotL_ok {x : Str} : ∀ {l : List Str} {i : Nat}, slotL x l = some i → l[i]? = some x
  | [], _, e => by cases e
  | y :: ys, i, e => by
    unfold slotL at e
    by_cases c : y = x
    · rw [if_pos c] at e
      cases e
      rw [c]
      rfl
    · rw [if_neg c] at e
      obtain ⟨j, e1, rfl⟩ := Option.map_eq_some_iff.mp e
      simpa using slotL_ok e1
def atL (x : Str) : List String → Option String
  | [] => none
  | y :: ys => if Str.ofString y = x then some y else atL x ys
theorem atL_ok {x : Str} : ∀ {l : List String} {f : String}, atL x l = some f → Str.ofString f = x
  | [], _, e => by cases e
  | y :: ys, i, e => by
    unfold atL at e
    by_cases c : Str.ofString y = x
    · rw [if_pos c] at e
      cases e
      exact c
    · rw [if_neg c] at e
      exact atL_ok e
/-- built-ins that take data -/
inductive Bi where
  | abs | int | tup | lst | dct | max | min | sum | any | all | sorted | isi | repr | set
def Bi.nm : Bi → Str
  | .abs => "abs"
  | .int => "int"
  | .tup => "tuple"
  | .lst => "list"
  | .dct => "dict"
  | .max => "max"
  | .min => "min"
  | .sum => "sum"
  | .any => "any"
  | .all => "all"
  | .sorted => "sorted"
  | .isi => "isinstance"
  | .repr => "repr"
  | .set => "set"
def Bi.fn : Bi → Hd → List D → Option Res
  | .abs => absD
  | .int => intD
  | .tup => tupD
  | .lst => lstD
  | .dct => dctD
  | .max => maxD
  | .min => minD
  | .sum => sumD
  | .any => anyD
  | .all => allD
  | .sorted => sortedD
  | .isi => isiD
  | .repr => reprD
  | .set => setD
def Bi.every : List Bi := [.abs, .int, .tup, .lst, .dct, .max, .min, .sum, .any, .all, .sorted, .isi, .repr, .set]
def biOf (x : Str) : Option Bi := Bi.every.find? fun b => decide (b.nm = x)
theorem biOf_ok {x : Str} {b : Bi} (e : biOf x = some b) : b.nm = x := by
  unfold biOf at e
  have q := List.find?_some e
  exact of_decide_eq_true q
/-- names of built-in classes -/
def tyNames : List String := ["int", "str", "bool", "tuple", "list", "dict"]
def freeNames : List Str := ["abs", "int", "tuple", "list", "dict", "max", "min", "sum", "any", "all", "sorted", "isinstance", "len", "str", "range", "zip", "enumerate", "bool", "repr", "set"]
structure Good (k : Nat) (c : TC) (X : Cx) (W : WX) : Prop where
  N : X.N = c.N
  nd : c.N.Nodup
  sc : X.env.scope = c.sc
  kind : c.sc.kind = .function
  calm : X.calm = true
  cel : ∀ x ∈ c.cel, X.fn x = true
  tk : Takes X W
  hr : RG (k + 2) X.A
  fn : ∀ x n m, c.glo.lookup x = some (.fn n m) → ∃ f, FnS X k f n m ∧ X.mg x = some (.ref f)
  mkr : ∀ x cl n dfl m, c.glo.lookup x = some (.mk cl n dfl m) → MkS X k n cl dfl m ∧ X.mg x = some (.ref (adr X.K cl))
  cst : ∀ x d, c.glo.lookup x = some (.cst d) → ∃ (u : Value) (v : V), X.mg x = some u ∧ RelV v u ∧ ∀ Z as H, Rep (gx X) Z as H d v
  blt : ∀ x ∈ freeNames, X.mg x = none
  tb : ∀ c' name n m, c.tb c' name = some (n, m) → MethS X k n c' name m
  fld : FldOk X c.fld
section
variable {k : Nat} {c : TC} {X : Cx} {W : WX}
theorem Good.hu (G : Good k c X W) : X.A.units + 64 < cLine := by
  have := G.hr.r.un
  omega
theorem Good.ndX (G : Good k c X W) : X.N.Nodup := by rw [G.N]; exact G.nd
theorem Good.gl (G : Good k c X W) {x : Str} (h : c.sc.names.lookup x = some .globalImplicit) : Gl X x := by
  show X.env.scope.names.lookup x = _
  rw [G.sc]
  exact h
end
def relabS (scope sc : Scope) : Scope := { scope with names := scope.names.map fun (n, k) => if (k == .free && sc.kind == .function && sc.names.lookup n == some .cell) then (n, .cell) else (n, k) }
theorem relabS_eq (scope : Scope) (env : PySem.Env) : relabel scope env = relabS scope env.scope := rfl
def celOf (scope : Scope) : List Str := scope.names.filterMap fun y => if scope.names.lookup y.1 == some .cell then some y.1 else none
def TC.blk (c : TC) (scope : Scope) : TC := { c with sc := relabS scope c.sc, cel := celOf scope }
theorem Good.blk {k : Nat} {c : TC} {X : Cx} {W : WX} (G : Good k c X W) {scope : Scope} (hk : scope.kind = .function) (s : Shared) (H : Hp) (C : Addr) (cl : List (Str × Addr)) (fp : List Addr) :
    Good k (c.blk scope) (X.blk s H scope (compEnvC scope cl C X.env) fp) WN where
  N := G.N
  nd := G.nd
  sc := by
    show relabel scope X.env = relabS scope c.sc
    rw [relabS_eq, G.sc]
  kind := hk
  calm := G.calm
  cel := fun x hx => by
    obtain ⟨y, _, e⟩ := List.mem_filterMap.mp (show x ∈ celOf scope from hx)
    by_cases q : (scope.names.lookup y.1 == some .cell) = true
    · rw [if_pos q] at e
      cases e
      exact q
    · rw [if_neg q] at e
      cases e
  tk := fun u s' x => by
    obtain ⟨_, _, _, _, _, _, _, _, _, _, _, _, _, _, _, _, z⟩ := x
    exact z.elim
  hr := G.hr
  fn := fun x n m e => by
    obtain ⟨f, ⟨F1, F2⟩, hm⟩ := G.fn x n m e
    exact ⟨f, ⟨F1, F2⟩, hm⟩
  mkr := fun x cl n dfl m e => by
    obtain ⟨⟨F1, F2⟩, hm⟩ := G.mkr x cl n dfl m e
    exact ⟨⟨F1, F2⟩, hm⟩
  cst := G.cst
  blt := G.blt
  tb := fun c' name n m e => by
    obtain ⟨F1, g, F2, ⟨F3, F4⟩⟩ := G.tb c' name n m e
    exact ⟨F1, g, F2, ⟨F3, F4⟩⟩
  fld := G.fld
/-! ### names -/
def gloX (c : TC) (x : Str) : SE := match c.glo.lookup x with
  | some (.cst d) => cX d
  | some _ => failX
  | none => match atL x tyNames with
    | some n => cX (.ty n)
    | none => failX
def nameX (c : TC) (x : Str) : SE := if plainN x then (match c.sc.names.lookup x with
  | some .globalImplicit => gloX c x
  | some .local => (match slotL x c.N with | some i => vX i | none => failX)
  | some .cell => (match slotL x c.N with | some i => vX i | none => failX)
  | some .free => (match slotL x c.N with | some i => vX i | none => failX)
  | _ => failX) else failX
theorem boot_ty {n : String} (h : n ∈ tyNames) : bootBuiltins (Str.ofString n) = some (.type n) := by
  unfold tyNames at h
  simp only [List.mem_cons, List.not_mem_nil, or_false] at h
  rcases h with rfl | rfl | rfl | rfl | rfl | rfl <;> decide +kernel
theorem atL_mem {x : Str} : ∀ {l : List String} {f : String}, atL x l = some f → f ∈ l
  | [], _, e => by cases e
  | y :: ys, i, e => by
    unfold atL at e
    by_cases c : Str.ofString y = x
    · rw [if_pos c] at e
      cases e
      exact List.mem_cons_self ..
    · rw [if_neg c] at e
      exact List.mem_cons_of_mem _ (atL_mem e)
theorem ty_free {n : String} (h : n ∈ tyNames) : Str.ofString n ∈ freeNames := by
  unfold tyNames at h
  simp only [List.mem_cons, List.not_mem_nil, or_false] at h
  rcases h with rfl | rfl | rfl | rfl | rfl | rfl <;> decide +kernel
section
variable {k : Nat} {c : TC} {X : Cx} {W : WX}
theorem nameX_ok (G : Good k c X W) {x : Str} {pos : Pos} : PE X (.Name x pos) (rd (gx X) W (nameX c x)) := by
  unfold nameX
  by_cases hp : plainN x = true
  case neg => rw [if_neg hp]; exact de_fail
  rw [if_pos hp]
  obtain ⟨p1, p2, p3⟩ := plainN_ok hp
  have slot : ∀ (hv : Vis X.env.scope x), PE X (.Name x pos) (rd (gx X) W (match slotL x c.N with | some i => vX i | none => failX)) := fun hv => by
    cases q : slotL x c.N with
    | none => exact de_fail
    | some i => exact de_var (by rw [G.N]; exact slotL_ok q) hv p1 p2
  split
  · next h =>
    unfold gloX
    split
    · next d e =>
      obtain ⟨u, v, h1, h2, h3⟩ := G.cst x d e
      exact de_cst h3 (pe_glob (G.gl h) h1 h2 p1)
    · exact de_fail
    · split
      · next n e =>
        have hn := atL_mem e
        have ex := atL_ok e
        subst ex
        exact de_cst (fun _ _ _ => .ty n) (pe_bltn (G.gl h) (G.blt _ (ty_free hn)) (boot_ty hn) rfl p3 p1)
      · exact de_fail
  · next h => exact slot (by rw [G.sc]; exact .inl h)
  · next h => exact slot (by rw [G.sc]; exact .inr (.inl h))
  · next h => exact slot (by rw [G.sc]; exact .inr (.inr h))
  · exact de_fail
end
/-! ### arguments -/
def argsX (fE : Expr → SE) (es : List Expr) : SA := if es.all notStar then aList (es.map fE) else failA
theorem aList_len : ∀ {fs : List SE} {e : Env} {h : Hd} {ds : List D} {h' : Hd}, aList fs e h = .ok ds h' → ds.length = fs.length
  | [], e, h, ds, h', q => by cases q; rfl
  | f :: fs, e, h, ds, h', q => by
    unfold aList aCons at q
    rw [bd_eq] at q
    cases q1 : f e h with
    | fail => rw [q1] at q; cases q
    | ex _ _ _ => rw [q1] at q; cases q
    | ok d h1 =>
      rw [q1] at q
      dsimp only at q
      rw [bd_eq] at q
      cases q2 : aList fs e h1 with
      | fail => rw [q2] at q; cases q
      | ex _ _ _ => rw [q2] at q; cases q
      | ok ds' h2 =>
        rw [q2] at q
        cases q
        rw [List.length_cons, List.length_cons, aList_len q2]
theorem argsX_len {fE : Expr → SE} {es : List Expr} {e : Env} {h : Hd} {ds : List D} {h' : Hd} (q : argsX fE es e h = .ok ds h') : ds.length = es.length := by
  unfold argsX at q
  split at q
  · have := aList_len q
    rwa [List.length_map] at this
  · cases q
section
variable {X : Cx} {W : WX}
theorem argsX_ok {fE : Expr → SE} {es : List Expr} (h : ∀ e, PE X e (rd (gx X) W (fE e))) : PA X es (rdA (gx X) W (argsX fE es)) := by
  unfold argsX
  split
  · next n =>
    induction es with
    | nil => exact da_nil
    | cons e es ih =>
      have n1 : notStar e = true ∧ es.all notStar = true := by simpa using n
      exact da_cons n1.1 (h e) (ih n1.2)
  · exact da_fail
theorem argsX_nil {fE : Expr → SE} : argsX fE [] = aNil := rfl
end
/-! ### truths in a row -/
def bAndX : List SE → SE
  | [] => failX
  | [f] => f
  | f :: g :: r => andX f (bAndX (g :: r))
def bOrX : List SE → SE
  | [] => failX
  | [f] => f
  | f :: g :: r => orX f (bOrX (g :: r))
def bAndT : List ST → ST
  | [] => failT
  | [f] => f
  | f :: g :: r => andT f (bAndT (g :: r))
def bOrT : List ST → ST
  | [] => failT
  | [f] => f
  | f :: g :: r => orT f (bOrT (g :: r))
section
variable {X : Cx} {W : WX}
theorem bAndX_ok {fE : Expr → SE} (h : ∀ e, PE X e (rd (gx X) W (fE e))) {pos : Pos} : ∀ (vs : List Expr), PE X (.BoolOp .And vs pos) (rd (gx X) W (bAndX (vs.map fE)))
  | [] => de_fail
  | [a] => de_one (h a)
  | a :: b :: r => de_and (h a) (bAndX_ok h (b :: r))
theorem bOrX_ok {fE : Expr → SE} (h : ∀ e, PE X e (rd (gx X) W (fE e))) {pos : Pos} : ∀ (vs : List Expr), PE X (.BoolOp .Or vs pos) (rd (gx X) W (bOrX (vs.map fE)))
  | [] => de_fail
  | [a] => de_one (h a)
  | a :: b :: r => de_or (h a) (bOrX_ok h (b :: r))
theorem bAndT_ok {fT : Expr → ST} (h : ∀ e, PT X e (rdT (gx X) W (fT e))) {pos : Pos} : ∀ (a : Expr) (vs : List Expr), PW X (.BoolOp .And (a :: vs) pos) (rdT (gx X) W (bAndT ((a :: vs).map fT)))
  | a, [] => dw_and1 (h a)
  | a, b :: r => dw_and (h a) (bAndT_ok h b r)
theorem bOrT_ok {fT : Expr → ST} (h : ∀ e, PT X e (rdT (gx X) W (fT e))) {pos : Pos} : ∀ (a : Expr) (vs : List Expr), PW X (.BoolOp .Or (a :: vs) pos) (rdT (gx X) W (bOrT ((a :: vs).map fT)))
  | a, [] => dw_or1 (h a)
  | a, b :: r => dw_or (h a) (bOrT_ok h b r)
end
end Dk
end S_DkV
end
section
set_option Elab.async false
set_option linter.all false
set_option maxRecDepth 100000
set_option maxHeartbeats 4000000
/-! DkW: calls, targets, loops, comprehensions, translated. -/
noncomputable section S_DkW
namespace Dk
open PySem PySem.Spec PyProof.Rows L2
/-! ### calls -/
theorem lf_ne {mu : Bool} {o : Option Res} {h : Hd} {c : String} {fs : Fs} {h' : Hd} (q : lf mu o h = .ex c fs h') : False := by
  cases o with
  | none => cases q
  | some r => cases r <;> cases mu <;> cases q
theorem ownM_ne {tb : MTab} {nm : String} {d : D} {h : Hd} {k : D → Hd → Out D} (hk : ∀ r h1 c fs h', k r h1 ≠ .ex c fs h') {c : String} {fs : Fs} {h' : Hd} (q : ownM tb nm d h k = .ex c fs h') : False := by
  unfold ownM at q
  split at q
  · split at q
    · split at q
      · exact hk _ _ _ _ _ q
      · cases q
    · cases q
  · cases q
theorem lenM_ne (tb : MTab) : NoEx1 (lenM tb) := by
  intro ds h c fs h' q
  unfold lenM at q
  split at q
  · split at q
    · refine ownM_ne (fun r h1 c fs h' => ?_) q
      split
      · split <;> exact fun z => nomatch z
      · exact fun z => nomatch z
    · exact lf_ne q
  · cases q
theorem strM_ne (tb : MTab) : NoEx1 (strM tb) := by
  intro ds h c fs h' q
  unfold strM at q
  split at q
  · split at q
    · refine ownM_ne (fun r h1 c fs h' => ?_) q
      split <;> exact fun z => nomatch z
    · exact lf_ne q
  · cases q
def callN (c : TC) (mu : Bool) (fA : SA) (na : Nat) (x : Str) : SE :=
  if plainN x = true ∧ c.sc.names.lookup x = some .globalImplicit then (match c.glo.lookup x with
    | some (.fn n m) => if na = n then callX m fA else failX
    | some (.mk cl n dfl m) => if na = n then callX (mkM cl dfl m) fA else failX
    | some (.cst _) => failX
    | none => if na = 0 then failX else if x = "len" then callX (lenM c.tb) fA else if x = "str" then callX (strM c.tb) fA else (match biOf x with
      | some b => bltX mu b.fn fA
      | none => failX)) else failX
section
variable {k : Nat} {c : TC} {X : Cx} {W : WX}
theorem bi_call (G : Good k c X W) (b : Bi) {mu : Bool} {a : Expr} {es : List Expr} {f : SA} {p pos : Pos} (hg : Gl X b.nm) (hd : (b.nm == ("__debug__" : Str)) = false) (hn : b.nm ≠ "__name__") (ns : (a :: es).all notStar = true) (ha : PA X (a :: es) (rdA (gx X) W f)) :
    PE X (.Call (.Name b.nm p) (a :: es) [] pos) (rd (gx X) W (bltX mu b.fn f)) := by
  have hu := G.hu
  have hm : X.mg b.nm = none := G.blt _ (by cases b <;> decide +kernel)
  cases b with
  | abs => exact de_bltB call_absN hg hm (by decide +kernel) hn hd ns ha
  | int => exact de_bltT call_intN hg hm (by decide +kernel) hn hd ns ha
  | tup => exact de_bltT call_tupN hg hm (by decide +kernel) hn hd ns ha
  | lst => exact de_bltT (call_lstN G.calm) hg hm (by decide +kernel) hn hd ns ha
  | dct => exact de_bltT (call_dctN G.calm) hg hm (by decide +kernel) hn hd ns ha
  | max => exact de_bltB (call_maxN G.calm) hg hm (by decide +kernel) hn hd ns ha
  | min => exact de_bltB (call_minN G.calm) hg hm (by decide +kernel) hn hd ns ha
  | sum => exact de_bltB (call_sumN G.calm) hg hm (by decide +kernel) hn hd ns ha
  | any => exact de_bltB (call_anyN G.calm) hg hm (by decide +kernel) hn hd ns ha
  | all => exact de_bltB (call_allN G.calm) hg hm (by decide +kernel) hn hd ns ha
  | sorted => exact de_bltB (call_sortedN G.calm hu) hg hm (by decide +kernel) hn hd ns ha
  | isi => exact de_bltB call_isiN hg hm (by decide +kernel) hn hd ns ha
  | repr => exact de_bltB (call_reprN G.hr.g hu) hg hm (by decide +kernel) hn hd ns ha
  | set => exact de_bltT (call_setN G.calm) hg hm (by decide +kernel) hn hd ns ha
theorem callN_ok (G : Good k c X W) {mu : Bool} {fE : Expr → SE} (h : ∀ e, PE X e (rd (gx X) W (fE e))) {x : Str} {es : List Expr} {p pos : Pos} : PE X (.Call (.Name x p) es [] pos) (rd (gx X) W (callN c mu (argsX fE es) es.length x)) := by
  unfold callN
  by_cases hp : plainN x = true ∧ c.sc.names.lookup x = some .globalImplicit
  case neg => rw [if_neg hp]; exact de_fail
  rw [if_pos hp]
  obtain ⟨hp, hl⟩ := hp
  obtain ⟨p1, p2, p3⟩ := plainN_ok hp
  have hg := G.gl hl
  by_cases ns : es.all notStar = true
  case neg =>
    have ef : argsX fE es = failA := by unfold argsX; rw [if_neg ns]
    rw [ef]
    refine ⟨fun pins s st H Q I z => ?_⟩
    obtain ⟨Z, as, e, h, S, E, P⟩ := z
    have z : ∀ f : SE, (f = failX ∨ (∃ m, f = callX m failA) ∨ ∃ mu g, f = bltX mu g failA) → f e h = .fail := fun f hf => by
      rcases hf with rfl | ⟨m, rfl⟩ | ⟨mu, g, rfl⟩ <;> rfl
    refine False.elim (cast (congrArg (fun o => Post (gx X) W Z st as H o Q) (z _ ?_)) P)
    · repeat' split
      all_goals first | exact .inl rfl | exact .inr (.inl ⟨_, rfl⟩) | exact .inr (.inr ⟨_, _, rfl⟩)
  have ha : PA X es (rdA (gx X) W (argsX fE es)) := argsX_ok h
  split
  · next n m e =>
    by_cases hn : es.length = n
    case neg => rw [if_neg hn]; exact de_fail
    rw [if_pos hn]
    obtain ⟨f, F, hm⟩ := G.fn x n m e
    subst hn
    cases es with
    | nil => exact de_call0 F (G.hr.mono (by omega)) G.tk hg hm p1
    | cons a es => exact de_call F (G.hr.mono (by omega)) G.tk hg hm p1 ns rfl ha fun e h ds h' q => argsX_len q
  · next cl n dfl m e =>
    by_cases hn : es.length = n
    case neg => rw [if_neg hn]; exact de_fail
    rw [if_pos hn]
    obtain ⟨F, hm⟩ := G.mkr x cl n dfl m e
    subst hn
    exact de_make F (G.hr.mono (by omega)) G.tk hg hm p1 ns ha (fun e h ds h' q => argsX_len q) fun z => by subst z; rfl
  · exact de_fail
  · cases es with
    | nil => exact de_fail
    | cons a es =>
      rw [if_neg (by simp)]
      by_cases h1 : x = "len"
      · rw [if_pos h1]
        subst h1
        exact de_bltBM (lenM_ne _) (call_lenO (k := k) (G.hr.mono (by omega)) fun c' n m e => G.tb c' _ n m e) hg (G.blt _ (by decide +kernel)) (by decide +kernel) p3 p1 ns ha
      rw [if_neg h1]
      by_cases h2 : x = "str"
      · rw [if_pos h2]
        subst h2
        exact de_bltTM (strM_ne _) (call_strO (k := k) G.hr fun c' n m e => G.tb c' _ n m e) hg (G.blt _ (by decide +kernel)) (by decide +kernel) p3 p1 ns ha
      rw [if_neg h2]
      split
      · next b e =>
        have eb := biOf_ok e
        subst eb
        exact bi_call G b hg p1 p3 ns ha
      · exact de_fail
end
/-! ### targets -/
def tgAll (f : Expr → Option (TgF × List Nat)) : List Expr → Option (List TgF × List Nat)
  | [] => some ([], [])
  | e :: es => match f e, tgAll f es with
    | some (g, w), some (gs, ws) => some (g :: gs, w ++ ws)
    | _, _ => none
def canSet (c : TC) (x : Str) : Bool := match c.sc.names.lookup x with
  | some .local => true
  | some .cell => c.cel.any fun y => decide (y = x)
  | _ => false
def tgX (c : TC) : Nat → Expr → Option (TgF × List Nat)
  | 0, _ => none
  | n + 1, e => match e with
    | .Name x _ => if canSet c x then (match slotL x c.N with
      | some i => some (gN i, [i])
      | none => none) else none
    | .Tuple ts _ _ => if ts.all notStar then (match tgAll (tgX c n) ts with
      | some (gs, ws) => some (gT gs, ws)
      | none => none) else none
    | _ => none
def isTupE : Expr → Bool
  | .Tuple _ _ _ => true
  | _ => false
section
variable {k : Nat} {c : TC} {X : Cx} {W : WX}
theorem canSet_ok (G : Good k c X W) {x : Str} (h : canSet c x = true) : Loc X.env.scope x ∧ (X.fn x = true ∨ X.env.scope.names.lookup x = some .local) := by
  unfold canSet at h
  split at h
  · next e => exact ⟨.inl (by rw [G.sc]; exact e), .inr (by rw [G.sc]; exact e)⟩
  · next e =>
    obtain ⟨y, hy, q⟩ := List.any_eq_true.mp h
    have := of_decide_eq_true q
    subst this
    exact ⟨.inr (by rw [G.sc]; exact e), .inl (G.cel _ hy)⟩
  · cases h
theorem tgAll_ok {f : Expr → Option (TgF × List Nat)} (h : ∀ e g ws, f e = some (g, ws) → PG X e (rdG (gx X) ws false g)) : ∀ {ts : List Expr} {gs : List TgF} {ws : List Nat}, ts.all notStar = true → tgAll f ts = some (gs, ws) → PGs X ts (rdGs (gx X) ws (gAll gs)) ∧ gs.length = ts.length
  | [], gs, ws, _, e => by
    cases e
    exact ⟨dgs_nil, rfl⟩
  | t :: ts, gs, ws, ns, e => by
    have n1 : notStar t = true ∧ ts.all notStar = true := by simpa using ns
    unfold tgAll at e
    cases q1 : f t with
    | none => simp only [q1] at e; cases e
    | some p =>
      cases q2 : tgAll f ts with
      | none => simp only [q1, q2] at e; cases e
      | some p2 =>
        simp only [q1, q2] at e
        cases e
        obtain ⟨h1, h2⟩ := tgAll_ok h n1.2 q2
        exact ⟨dgs_cons n1.1 (h t _ _ q1) h1, by rw [List.length_cons, List.length_cons, h2]⟩
theorem tgX_ok (G : Good k c X W) : ∀ (n : Nat) (e : Expr) (g : TgF) (ws : List Nat) (wk : Bool), tgX c n e = some (g, ws) → (wk = true → isTupE e = true) → PG X e (rdG (gx X) ws wk g)
  | 0, _, _, _, _, e, _ => by cases e
  | n + 1, ex, g, ws, wk, e, ht => by
    unfold tgX at e
    split at e
    · next x pos =>
      split at e
      · next hc =>
        split at e
        · next i q =>
          cases e
          obtain ⟨h1, h2⟩ := canSet_ok G hc
          cases wk with
          | true => cases ht rfl
          | false => exact dg_name G.ndX (by rw [G.N]; exact slotL_ok q) h1 h2
        · cases e
      · cases e
    · next ts _ _ =>
      split at e
      · next ns =>
        split at e
        · next gs ws' q =>
          cases e
          obtain ⟨h1, h2⟩ := tgAll_ok (fun e g ws q => tgX_ok G n e g ws false q (fun z => by cases z)) ns q
          exact dg_tup G.calm ns h2 h1
        · cases e
      · cases e
    · cases e
end
/-! ### what loops walk -/
def rngN (x : Str) (es : List Expr) : Bool := decide (x = "range") && (es.length == 1 || es.length == 2 || es.length == 3)
def iterX (c : TC) (fE : Expr → SE) (tg iter : Expr) : SI := match iter with
  | .Call (.Name x p) es [] pos => if plainN x = true ∧ c.sc.names.lookup x = some .globalImplicit ∧ (c.glo.lookup x).isNone = true ∧ es.all notStar = true then
      (if x = "range" then (match es with
        | [a] => rngX 1 (argsX fE [a])
        | [a, b] => rngX 2 (argsX fE [a, b])
        | [a, b, d] => rngX 3 (argsX fE [a, b, d])
        | _ => failI)
      else if x = "zip" then (match es with
        | [a, b] => if isTupE tg then zipX (argsX fE [a, b]) else failI
        | _ => failI)
      else if x = "enumerate" then (match es with
        | [a] => if isTupE tg then enumX (argsX fE [a]) else failI
        | _ => failI)
      else itX (fE (.Call (.Name x p) es [] pos)))
    else itX (fE (.Call (.Name x p) es [] pos))
  | e => itX (fE e)
section
variable {k : Nat} {c : TC} {X : Cx} {W : WX}
theorem iterX_ok (G : Good k c X W) {fE : Expr → SE} (h : ∀ e, PE X e (rd (gx X) W (fE e))) (tg iter : Expr) : PI X tg iter (rdI (gx X) W (iterX c fE tg iter)) := by
  unfold iterX
  split
  · next x p es pos =>
    by_cases hc : plainN x = true ∧ c.sc.names.lookup x = some .globalImplicit ∧ (c.glo.lookup x).isNone = true ∧ es.all notStar = true
    case neg => rw [if_neg hc]; exact di_val (h _)
    rw [if_pos hc]
    obtain ⟨hp, hl, _, ns⟩ := hc
    have hg := G.gl hl
    by_cases h1 : x = "range"
    · rw [if_pos h1]
      subst h1
      have hm : X.mg "range" = none := G.blt _ (by decide +kernel)
      split
      · next a =>
        have n1 : notStar a = true := by simpa using ns
        exact di_rng1 n1 hg hm (argsX_ok h)
      · next a b =>
        have n1 : notStar a = true ∧ notStar b = true := by simpa using ns
        exact di_rng2 n1.1 n1.2 hg hm (argsX_ok h)
      · next a b d =>
        have n1 : notStar a = true ∧ notStar b = true ∧ notStar d = true := by simpa using ns
        exact di_rng3 n1.1 (by simp [n1.2.1, n1.2.2]) hg hm (argsX_ok h)
      · exact di_fail
    rw [if_neg h1]
    by_cases h2 : x = "zip"
    · rw [if_pos h2]
      subst h2
      have hm : X.mg "zip" = none := G.blt _ (by decide +kernel)
      split
      · next a b =>
        have n1 : notStar a = true ∧ notStar b = true := by simpa using ns
        by_cases ht : isTupE tg = true
        · rw [if_pos ht]
          cases tg <;> first | (cases ht; done) | exact di_zip n1.1 (by simp [n1.2]) hg hm (argsX_ok h)
        · rw [if_neg ht]; exact di_fail
      · exact di_fail
    rw [if_neg h2]
    by_cases h3 : x = "enumerate"
    · rw [if_pos h3]
      subst h3
      have hm : X.mg "enumerate" = none := G.blt _ (by decide +kernel)
      split
      · next a =>
        have n1 : notStar a = true := by simpa using ns
        by_cases ht : isTupE tg = true
        · rw [if_pos ht]
          cases tg <;> first | (cases ht; done) | exact di_enum n1 hg hm (argsX_ok h)
        · rw [if_neg ht]; exact di_fail
      · exact di_fail
    rw [if_neg h3]
    exact di_val (h _)
  · exact di_val (h _)
theorem noFold {iter : Expr} (n : noSet iter = true) (env : PySem.Env) : ∀ x, foldedSetIterable iter env x = pure x := by
  intro x
  cases iter <;> first | rfl | cases n
end
/-! ### comprehensions -/
def ownOf (c : TC) (scope : Scope) : List (Str × Nat) := scope.names.filterMap fun y => match y.2 with
  | .local => (slotL y.1 c.N).map fun i => (y.1, i)
  | .cell => (slotL y.1 c.N).map fun i => (y.1, i)
  | _ => none
/-- the parts of one generator -/
def genX (c : TC) (fT : TC → Expr → ST) (scope : Scope) (tg iter : Expr) (ifs : List Expr) : Option (TgF × List Nat × ST) :=
  if blkC c.N c.sc scope (ownOf c scope) = true ∧ noSet iter = true then (match tgX (c.blk scope) 3 tg with
    | some (g, ws) => if (ws.all fun i => ((ownOf c scope).map (·.2)).contains i) = true then (match ifs with
      | [] => some (g, ws, fun _ => pu true)
      | [t] => some (g, ws, fT (c.blk scope) t)
      | _ => none) else none
    | none => none) else none
def lcT (c : TC) (fE : TC → Expr → SE) (fT : TC → Expr → ST) (mu : Bool) (elt : Expr) (gs : List Comprehension) (scope : Scope) : SE := match gs with
  | [⟨tg, iter, ifs, 0⟩] => (match genX c fT scope tg iter ifs with
    | some (g, ws, t) => lcX mu (isTupE tg) ((ownOf c scope).map (·.2)) (iterX c (fE c) tg iter) g t (fE (c.blk scope) elt)
    | none => failX)
  | _ => failX
def dcT (c : TC) (fE : TC → Expr → SE) (fT : TC → Expr → ST) (mu : Bool) (kx vx : Expr) (gs : List Comprehension) (scope : Scope) : SE := match gs with
  | [⟨tg, iter, ifs, 0⟩] => (match genX c fT scope tg iter ifs with
    | some (g, ws, t) => dcX mu (isTupE tg) ((ownOf c scope).map (·.2)) (iterX c (fE c) tg iter) g t (fE (c.blk scope) kx) (fE (c.blk scope) vx)
    | none => failX)
  | _ => failX
section
variable {k : Nat} {c : TC} {X : Cx} {W : WX}
/-- what genX promises -/
theorem genX_ok (G : Good k c X W) {fT : TC → Expr → ST} (hT : ∀ {c : TC} {X : Cx} {W : WX}, Good k c X W → ∀ e, PT X e (rdT (gx X) W (fT c e))) {scope : Scope} {tg iter : Expr} {ifs : List Expr} {g : TgF} {ws : List Nat} {t : ST} (e : genX c fT scope tg iter ifs = some (g, ws, t)) :
    (∀ j ∈ ws, j ∈ (ownOf c scope).map (·.2)) ∧ BlkOk X.N X.env.scope scope (ownOf c scope) ∧ noSet iter = true ∧ scope.kind = .function ∧
    (∀ (s : Shared) (H : Hp) (C : Addr) (cl : List (Str × Addr)) (fp : List Addr), PG (X.blk s H scope (compEnvC scope cl C X.env) fp) tg (rdG (gx X) ws (isTupE tg) g)) ∧ ∀ (s : Shared) (H : Hp) (C : Addr) (cl : List (Str × Addr)) (fp : List Addr), PTs (X.blk s H scope (compEnvC scope cl C X.env) fp) ifs (rdT (gx X) WN t) := by
  unfold genX at e
  split at e
  · next hb =>
    have bo := blkOk_by hb.1
    have bo' : BlkOk X.N X.env.scope scope (ownOf c scope) := by rw [G.N, G.sc]; exact bo
    split at e
    · next g' ws' q =>
      split at e
      · next hw =>
        have hws : ∀ j ∈ ws', j ∈ (ownOf c scope).map (·.2) := fun j hj => by
          have := List.all_eq_true.mp hw j hj
          simpa using this
        have hpg : ∀ (s : Shared) (H : Hp) (C : Addr) (cl : List (Str × Addr)) (fp : List Addr), PG (X.blk s H scope (compEnvC scope cl C X.env) fp) tg (rdG (gx X) ws' (isTupE tg) g') := fun s H C cl fp =>
          tgX_ok (G.blk bo.kind s H C cl fp) 3 tg g' ws' _ q (fun z => z)
        split at e
        · cases e
          exact ⟨hws, bo', hb.2, bo.kind, hpg, fun s H C cl fp => dts_nil⟩
        · cases e
          exact ⟨hws, bo', hb.2, bo.kind, hpg, fun s H C cl fp => dts_one (hT (G.blk bo.kind s H C cl fp) _)⟩
        · cases e
      · cases e
    · cases e
  · cases e
theorem lcT_ok (G : Good k c X W) {fE : TC → Expr → SE} {fT : TC → Expr → ST} (hE : ∀ {c : TC} {X : Cx} {W : WX}, Good k c X W → ∀ e, PE X e (rd (gx X) W (fE c e))) (hT : ∀ {c : TC} {X : Cx} {W : WX}, Good k c X W → ∀ e, PT X e (rdT (gx X) W (fT c e)))
    {mu : Bool} {elt : Expr} {gs : List Comprehension} {scope : Scope} {pos : Pos} : PE X (.ListComp elt gs scope pos) (rd (gx X) W (lcT c fE fT mu elt gs scope)) := by
  unfold lcT
  split
  · next tg iter ifs =>
    split
    · next g ws t e =>
      obtain ⟨h1, h2, h3, h4, h5, h6⟩ := genX_ok G hT e
      exact de_lc h1 G.calm G.ndX (iterX_ok G (hE G) tg iter) h2 h5 h6 (fun s H C cl fp => hE (G.blk h4 s H C cl fp) elt) (noFold h3 _)
    · exact de_fail
  · exact de_fail
theorem dcT_ok (G : Good k c X W) {fE : TC → Expr → SE} {fT : TC → Expr → ST} (hE : ∀ {c : TC} {X : Cx} {W : WX}, Good k c X W → ∀ e, PE X e (rd (gx X) W (fE c e))) (hT : ∀ {c : TC} {X : Cx} {W : WX}, Good k c X W → ∀ e, PT X e (rdT (gx X) W (fT c e)))
    {mu : Bool} {kx vx : Expr} {gs : List Comprehension} {scope : Scope} {pos : Pos} : PE X (.DictComp kx vx gs scope pos) (rd (gx X) W (dcT c fE fT mu kx vx gs scope)) := by
  unfold dcT
  split
  · next tg iter ifs =>
    split
    · next g ws t e =>
      obtain ⟨h1, h2, h3, h4, h5, h6⟩ := genX_ok G hT e
      exact de_dc h1 G.calm G.ndX (iterX_ok G (hE G) tg iter) h2 h5 h6 (fun s H C cl fp => hE (G.blk h4 s H C cl fp) kx) (fun s H C cl fp => hE (G.blk h4 s H C cl fp) vx) (noFold h3 _)
    · exact de_fail
  · exact de_fail
end
end Dk
end S_DkW
end
section
set_option Elab.async false
set_option linter.all false
set_option maxRecDepth 100000
set_option maxHeartbeats 4000000
/-! DkX: expressions, statements, defs, translated. -/
noncomputable section S_DkX
namespace Dk
open PySem PySem.Spec PyProof.Rows L2
/-! ### dict displays -/
def allSome : List (Option Expr) → Option (List Expr)
  | [] => some []
  | some e :: r => (match allSome r with
    | some es => some (e :: es)
    | none => none)
  | none :: _ => none
theorem allSome_eq : ∀ {ks : List (Option Expr)} {es : List Expr}, allSome ks = some es → ks = es.map some
  | [], es, h => by cases h; rfl
  | none :: _, es, h => by cases h
  | some e :: r, es, h => by
    unfold allSome at h
    cases q : allSome r with
    | none => rw [q] at h; cases h
    | some l =>
      rw [q] at h
      cases h
      rw [List.map_cons, ← allSome_eq q]
def dispT (fE : Expr → SE) (mu : Bool) (ks : List (Option Expr)) (vs : List Expr) : SE := match allSome ks with
  | some es => if es.length = vs.length ∧ es.isEmpty = false ∧ es.length ≤ 15 then dispX mu ((es.zip vs).map fun p => (fE p.1, fE p.2)) else failX
  | none => failX
theorem dispT_ok {X : Cx} {W : WX} {fE : Expr → SE} (hE : ∀ e, PE X e (rd (gx X) W (fE e))) {mu : Bool} {ks : List (Option Expr)} {vs : List Expr} {pos : Pos} : PE X (.Dict ks vs pos) (rd (gx X) W (dispT fE mu ks vs)) := by
  unfold dispT
  split
  · next es q =>
    split
    · next h =>
      rw [allSome_eq q]
      exact de_disp hE h.1 (fun z => by rw [z] at h; exact absurd h.2.1 (by simp)) h.2.2
    · exact de_fail
  · exact de_fail
/-! ### one step of an expression -/
def cstX : Const → SE
  | .int i => cX (.int i)
  | .bool b => cX (.bl b)
  | .none => cX .non
  | .str x => cX (.str x)
  | _ => failX
def optX (fE : Expr → SE) : Option Expr → SO
  | none => oNone
  | some e => oSome (fE e)
def partX (fE : Expr → SE) : Expr → SE
  | .FormattedValue a conv none _ => if conv = -1 then fmtX (fE a) else failX
  | .Constant v _ _ => cstX v
  | _ => failX
def joinX (fE : Expr → SE) : List Expr → SE
  | a :: b :: r => jsX ((a :: b :: r).map (partX fE)) Str.empty
  | _ => failX
/-- list(range(..)) -/
def isLrg (x : Str) : List Expr → Bool
  | [.Call (.Name y _) _ [] _] => decide (x = "list") && decide (y = "range")
  | _ => false
def lrgT (c : TC) (fE : Expr → SE) (mu : Bool) : List Expr → SE
  | [.Call _ [a] [] _] => if c.sc.names.lookup ("list" : Str) = some .globalImplicit ∧ c.sc.names.lookup ("range" : Str) = some .globalImplicit ∧ notStar a = true then lrg1X mu (fE a) else failX
  | [.Call _ [a, b] [] _] => if c.sc.names.lookup ("list" : Str) = some .globalImplicit ∧ c.sc.names.lookup ("range" : Str) = some .globalImplicit ∧ notStar a = true ∧ notStar b = true then lrg2X mu (fE a) (fE b) else failX
  | _ => failX
theorem lrgT_ok {k : Nat} {c : TC} {X : Cx} {W : WX} (G : Good k c X W) {mu : Bool} {fE : Expr → SE} (h : ∀ e, PE X e (rd (gx X) W (fE e))) {x : Str} {es : List Expr} {p pos : Pos} (q : isLrg x es = true) : PE X (.Call (.Name x p) es [] pos) (rd (gx X) W (lrgT c fE mu es)) := by
  have m1 : X.mg "list" = none := G.blt _ (by decide +kernel)
  have m2 : X.mg "range" = none := G.blt _ (by decide +kernel)
  unfold isLrg at q
  split at q
  · next y p2 as pos2 =>
    simp only [Bool.and_eq_true, decide_eq_true_eq] at q
    obtain ⟨rfl, rfl⟩ := q
    unfold lrgT
    split
    · next a _ hh =>
      cases hh
      split
      · next c => exact de_lrg1 G.calm (G.gl c.1) m1 (G.gl c.2.1) m2 c.2.2 (h _)
      · exact de_fail
    · next a b _ hh =>
      cases hh
      split
      · next c => exact de_lrg2 G.calm (G.gl c.1) m1 (G.gl c.2.1) m2 c.2.2.1 c.2.2.2 (h _) (h _)
      · exact de_fail
    · exact de_fail
  · cases q
/-- sorted(o.values()) -/
def isSv (x : Str) : List Expr → Bool
  | [.Call (.Attribute _ a _) [] [] _] => decide (x = "sorted") && decide (a = "values")
  | _ => false
def svT (c : TC) (fE : Expr → SE) (mu : Bool) : List Expr → SE
  | [.Call (.Attribute o _ ap) [] [] mp] => if c.sc.names.lookup ("sorted" : Str) = some .globalImplicit ∧ noBase o = true ∧ (ap.endLine == mp.line) = true then svX mu (fE o) else failX
  | _ => failX
theorem svT_ok {k : Nat} {c : TC} {X : Cx} {W : WX} (G : Good k c X W) {mu : Bool} {fE : Expr → SE} (h : ∀ e, PE X e (rd (gx X) W (fE e))) {x : Str} {es : List Expr} {p pos : Pos} (q : isSv x es = true) : PE X (.Call (.Name x p) es [] pos) (rd (gx X) W (svT c fE mu es)) := by
  have m1 : X.mg "sorted" = none := G.blt _ (by decide +kernel)
  unfold isSv at q
  split at q
  · next o a ap mp =>
    simp only [Bool.and_eq_true, decide_eq_true_eq] at q
    obtain ⟨rfl, rfl⟩ := q
    unfold svT
    dsimp only
    split
    · next c => exact de_sv G.calm G.hu (G.gl c.1) m1 (h _) c.2.1 c.2.2
    · exact de_fail
  · cases q
def stE (fE : TC → Expr → SE) (fT : TC → Expr → ST) (c : TC) (e : Expr) : SE := match e with
  | .Constant v _ _ => cstX v
  | .Name x _ => nameX c x
  | .BinOp a op b pos => binX op (isMu c pos) (fE c a) (fE c b)
  | .UnaryOp op a _ => (match op with
    | .USub => negX (fE c a)
    | .Not => notX (fE c a)
    | _ => failX)
  | .BoolOp op vs _ => (match op with
    | .And => bAndX (vs.map (fE c))
    | .Or => bOrX (vs.map (fE c)))
  | .Compare a ops cs _ => (match ops, cs with
    | [op], [b] => if noSet b then cmpX op (fE c a) (fE c b) else failX
    | [op, op'], [b, d] => if noSet d then chnX op op' (fE c a) (fE c b) (fE c d) else failX
    | _, _ => failX)
  | .IfExp t a b _ => ifX (fT c t) (fE c a) (fE c b)
  | .Tuple es _ _ => tupX (argsX (fE c) es)
  | .List es pos => lstX (isMu c pos) (argsX (fE c) es)
  | .Dict ks vs pos => (match ks, vs with
    | [], [] => dct0 (isMu c pos)
    | ks, vs => dispT (fE c) (isMu c pos) ks vs)
  | .Subscript a i pos => (match i with
    | .Slice lo hi none _ => slcX (isMu c pos) (fE c a) (optX (fE c) lo) (optX (fE c) hi)
    | .Slice none none (some st) _ => revX (isMu c pos) (fE c a) (fE c st)
    | i => if isSl i then failX else idxX (fE c a) (fE c i))
  | .Attribute o a _ => if noBase o then (match atL a c.ats with
    | some f => attX c.fld f (fE c o)
    | none => failX) else failX
  | .Call f es kws pos => (match kws with
    | [] => (match f with
      | .Name x _ => if isLrg x es then lrgT c (fE c) (isMu c pos) es else if isSv x es then svT c (fE c) (isMu c pos) es else callN c (isMu c pos) (argsX (fE c) es) es.length x
      | .Attribute o a apos => if noBase o = true ∧ es.all notStar = true ∧ es.length < 30 ∧ (apos.endLine == pos.line) = true then (match atL a c.ats with
        | some nm => mthX c.tb nm es.length (fE c o) (argsX (fE c) es)
        | none => failX) else failX
      | _ => failX)
    | _ => failX)
  | .ListComp elt gs scope pos => lcT c fE fT (isMu c pos) elt gs scope
  | .DictComp kx vx gs scope pos => dcT c fE fT (isMu c pos) kx vx gs scope
  | .JoinedStr vs _ => joinX (fE c) vs
  | _ => failX
def stT (fE : TC → Expr → SE) (fT : TC → Expr → ST) (c : TC) (e : Expr) : ST := match e with
  | .UnaryOp op a _ => (match op with
    | .Not => notT (fT c a)
    | _ => failT)
  | .BoolOp op vs _ => (match op with
    | .And => bAndT (vs.map (fT c))
    | .Or => bOrT (vs.map (fT c)))
  | .Compare a ops cs _ => (match ops, cs with
    | [op], [b] => if noSet b then tru (cmpX op (fE c a) (fE c b)) else failT
    | [op, op'], [b, d] => if noSet d then tru (chnX op op' (fE c a) (fE c b) (fE c d)) else failT
    | _, _ => failT)
  | .IfExp _ _ _ _ => failT
  | e => tru (fE c e)
def tET : Nat → (TC → Expr → SE) × (TC → Expr → ST)
  | 0 => (fun _ _ => failX, fun _ _ => failT)
  | n + 1 => (stE (tET n).1 (tET n).2, stT (tET n).1 (tET n).2)
section
variable {k : Nat} {c : TC} {X : Cx} {W : WX}
theorem cstX_ok {v : Const} {j : Nat} {pos : Pos} : PE X (.Constant v j pos) (rd (gx X) W (cstX v)) := by
  cases v with
  | int i => exact de_int
  | bool b => exact de_bl
  | none => exact de_non
  | str x => exact de_str
  | _ => exact de_fail
theorem optX_ok {fE : Expr → SE} (h : ∀ e, PE X e (rd (gx X) W (fE e))) (o : Option Expr) : PO X o (rdO (gx X) W (optX fE o)) := by
  cases o with
  | none => exact do_none
  | some e => exact do_some (h e)
theorem partX_ok {fE : Expr → SE} (h : ∀ e, PE X e (rd (gx X) W (fE e))) (e : Expr) : PE X e (rd (gx X) W (partX fE e)) := by
  unfold partX
  split
  · split
    · next hc => subst hc; exact de_fmt (h _)
    · exact de_fail
  · exact cstX_ok
  · exact de_fail
theorem joinX_ok {fE : Expr → SE} (h : ∀ e, PE X e (rd (gx X) W (fE e))) {vs : List Expr} {pos : Pos} : PE X (.JoinedStr vs pos) (rd (gx X) W (joinX fE vs)) := by
  have key : ∀ l : List Expr, PJd X W l (l.map (partX fE)) := fun l => by
    induction l with
    | nil => exact .nil
    | cons e l ih => exact .cons (partX_ok h e) ih
  unfold joinX
  split
  · exact de_joined (key _)
  · exact de_fail
theorem stE_ok (G : Good k c X W) {fE : TC → Expr → SE} {fT : TC → Expr → ST} (hE : ∀ {c : TC} {X : Cx} {W : WX}, Good k c X W → ∀ e, PE X e (rd (gx X) W (fE c e))) (hT : ∀ {c : TC} {X : Cx} {W : WX}, Good k c X W → ∀ e, PT X e (rdT (gx X) W (fT c e))) (e : Expr) : PE X e (rd (gx X) W (stE fE fT c e)) := by
  have hu := G.hu
  unfold stE
  split
  · exact cstX_ok
  · exact nameX_ok G
  · exact de_bin (hE G _) (hE G _)
  · split
    · exact de_neg (hE G _)
    · exact de_not (hE G _)
    · exact de_fail
  · split
    · exact bAndX_ok (hE G) _
    · exact bOrX_ok (hE G) _
  · split
    · split
      · next n => exact de_cmp hu n (hE G _) (hE G _)
      · exact de_fail
    · split
      · next n => exact de_chn hu n (hE G _) (hE G _) (hE G _)
      · exact de_fail
    · exact de_fail
  · exact de_if (hT G _) (hE G _) (hE G _)
  · exact de_tup (argsX_ok (hE G))
  · exact de_lst (argsX_ok (hE G))
  · split
    · exact de_dct0
    · exact dispT_ok (hE G)
  · split
    · exact de_slc (hE G _) (optX_ok (hE G) _) (optX_ok (hE G) _)
    · exact de_rev (hE G _) (hE G _)
    · split
      · exact de_fail
      · next n => exact de_idx hu (by simpa using n) (hE G _) (hE G _)
  · split
    · next n =>
      split
      · next f q =>
        have := atL_ok q
        subst this
        exact de_att G.fld n (hE G _)
      · exact de_fail
    · exact de_fail
  · split
    · split
      · split
        · next q => exact lrgT_ok G (hE G) q
        · split
          · next q => exact svT_ok G (hE G) q
          · exact callN_ok G (hE G)
      · split
        · next n =>
          split
          · next nm q =>
            have := atL_ok q
            subst this
            exact de_mth hu (fun c' n m e => G.tb c' _ n m e) (G.hr.mono (by omega)) G.tk n.1 n.2.1 n.2.2.1 n.2.2.2 (hE G _) (argsX_ok (hE G)) (fun e h ds h' q => argsX_len q) fun z => by subst z; rfl
          · exact de_fail
        · exact de_fail
      · exact de_fail
    · exact de_fail
  · exact lcT_ok G hE hT
  · exact dcT_ok G hE hT
  · exact joinX_ok (hE G)
  · exact de_fail
theorem stT_ok (G : Good k c X W) {fE : TC → Expr → SE} {fT : TC → Expr → ST} (hE : ∀ {c : TC} {X : Cx} {W : WX}, Good k c X W → ∀ e, PE X e (rd (gx X) W (fE c e))) (hT : ∀ {c : TC} {X : Cx} {W : WX}, Good k c X W → ∀ e, PT X e (rdT (gx X) W (fT c e))) (e : Expr) : PT X e (rdT (gx X) W (stT fE fT c e)) := by
  have hu := G.hu
  unfold stT
  split
  · split
    · exact dt_not (hT G _)
    · exact dt_fail
  · next vs _ =>
    split
    · cases vs with
      | nil => exact dt_fail
      | cons a vs => exact (bAndT_ok (hT G) a vs).pt
    · cases vs with
      | nil => exact dt_fail
      | cons a vs => exact (bOrT_ok (hT G) a vs).pt
  · split
    · split
      · next n => exact dt_cmp hu n (hE G _) (hE G _)
      · exact dt_fail
    · split
      · next n => exact dt_chn hu n (hE G _) (hE G _) (hE G _)
      · exact dt_fail
    · exact dt_fail
  · exact dt_fail
  · next h1 h2 h3 h4 =>
    refine dt_val (fun whole => ?_) (hE G _)
    cases e <;> first | rfl | exact absurd rfl (h1 _ _ _) | exact absurd rfl (h2 _ _ _) | exact absurd rfl (h3 _ _ _ _) | exact absurd rfl (h4 _ _ _ _)
theorem tET_ok : ∀ (n : Nat), (∀ {c : TC} {X : Cx} {W : WX}, Good k c X W → ∀ e, PE X e (rd (gx X) W ((tET n).1 c e))) ∧ (∀ {c : TC} {X : Cx} {W : WX}, Good k c X W → ∀ e, PT X e (rdT (gx X) W ((tET n).2 c e)))
  | 0 => ⟨fun _ _ => de_fail, fun _ _ => dt_fail⟩
  | n + 1 => ⟨fun G e => stE_ok G (tET_ok n).1 (tET_ok n).2 e, fun G e => stT_ok G (tET_ok n).1 (tET_ok n).2 e⟩
end
/-! ### statements -/
def isComp : Expr → Bool
  | .ListComp _ _ _ _ => true
  | .SetComp _ _ _ _ => true
  | .DictComp _ _ _ _ _ => true
  | _ => false
theorem swaps_att {v o : Expr} {f : Str} {p : Pos} (l : Nat) (env : PySem.Env) : swapsWith v (some (.Attribute o f p)) l env = pure false := by
  cases v <;> rfl
theorem swaps_sub {v o i : Expr} {p : Pos} (l : Nat) (env : PySem.Env) : swapsWith v (some (.Subscript o i p)) l env = pure false := by
  cases v <;> rfl
theorem sole_of {v t : Expr} {l : Nat} {env : PySem.Env} (h : swapsWith v (some t) l env = pure false) : swapsWithSole [t] v l env = pure false := by
  unfold swapsWithSole
  exact h
theorem swaps_no {v : Expr} (h : isComp v = false) (t : Option Expr) (l : Nat) (env : PySem.Env) : swapsWith v t l env = pure false := by
  cases v <;> first | rfl | cases h
def isTupV : Expr → Bool
  | .Tuple _ _ _ => true
  | .List _ _ => true
  | _ => false
/-- fuel of expressions -/
abbrev FU : Nat := 40
abbrev tE (c : TC) (e : Expr) : SE := (tET FU).1 c e
abbrev tT (c : TC) (e : Expr) : ST := (tET FU).2 c e
/-- y = [..] in one line -/
def setsLc (c : TC) (y : Str) (py pos : Pos) (scope : Scope) : Bool := (match c.sc.names.lookup y with | some .local => true | _ => false) && ((py.line == pos.line) && !(scope.names.any fun (n, k) => n == y && (k == .local || k == .cell)))
/-- a, b = x, y: not stored the other way about -/
def inOrder (c : TC) (ts vs : List Expr) : Bool := !(ts.length == 2 || ts.length == 3) || (ts.any fun t => match t with
  | .Name x _ => !(c.sc.names.lookup x == some .local)
  | _ => true) || vs.all (foldedForSure 8)
/-- a name that inner blocks see -/
def isCel (c : TC) (y : Str) : Bool := match c.sc.names.lookup y with
  | some .cell => true
  | _ => false
theorem isCel_ok {c : TC} {y : Str} (h : isCel c y = true) : c.sc.names.lookup y = some .cell := by
  unfold isCel at h
  split at h
  · assumption
  · cases h
theorem swaps_cel {v : Expr} {y : Str} {py : Pos} (l : Nat) {env : PySem.Env} (h : env.scope.names.lookup y = some .cell) : swapsWith v (some (.Name y py)) l env = pure false := by
  have k : (env.kindOf y == some .local) = false := by
    have : env.kindOf y = some .cell := h
    rw [this]
    rfl
  unfold swapsWith
  cases v <;> first | rfl | (simp only [k, Bool.and_false, Bool.false_and])
def asgX (c : TC) (tg v : Expr) : SS := match tg with
  | .Attribute o a _ => (match atL a c.ats with
    | some f => sAtt c.fld f (tE c o) (tE c v)
    | none => failS)
  | .Subscript o i _ => if noSlc i = false then failS else sAsg (gI (tE c o) (tE c i)) (tE c v)
  | .Name y py => (match slotL y c.N with
    | some j => if canSet c y then (match v with
      | .ListComp elt gs scope pos => if setsLc c y py pos scope = true then sAsg (gN j) (lcT c (tET FU).1 (tET FU).2 (isMu c pos) elt gs scope) else if isCel c y = true then sAsg (gN j) (tE c (.ListComp elt gs scope pos)) else failS
      | v => if isComp v && !isCel c y then failS else sAsg (gN j) (tE c v)) else failS
    | none => failS)
  | .Tuple ts _ _ => (match v with
    | .Tuple vs _ _ => if inOrder c ts vs = true then (match tgX c 3 tg with
        | some (g, _) => sAsg g (tE c v)
        | none => failS) else (match ts, vs with
      | [.Name x px, .Name y py], [a, b] => (match slotL x c.N, slotL y c.N with
        | some i, some j => if i ≠ j ∧ c.sc.names.lookup x = some .local ∧ c.sc.names.lookup y = some .local ∧ px.line = py.line ∧ ([a, b].all notStar) = true ∧ ([a, b].all (foldedForSure 8)) = false ∧ ([a, b].all (constantsAlone 8)) = false then sPar i j (argsX (tE c) [a, b]) else failS
        | _, _ => failS)
      | [.Name x px, .Name y py, .Name z pz], [a, b, d] => (match slotL x c.N, slotL y c.N, slotL z c.N with
        | some i, some j, some l => if i ≠ j ∧ i ≠ l ∧ j ≠ l ∧ c.sc.names.lookup x = some .local ∧ c.sc.names.lookup y = some .local ∧ c.sc.names.lookup z = some .local ∧ px.line = py.line ∧ px.line = pz.line ∧ ([a, b, d].all notStar) = true ∧ ([a, b, d].all (foldedForSure 8)) = false ∧ ([a, b, d].all (constantsAlone 8)) = false then sPar3 i j l (argsX (tE c) [a, b, d]) else failS
        | _, _, _ => failS)
      | _, _ => failS)
    | v => if isComp v then failS else (match tgX c 3 tg with
      | some (g, _) => sAsg g (tE c v)
      | none => failS))
  | _ => failS
/-- a dict walked that is data: its name is marked -/
def dctIt (c : TC) (iter : Expr) : Option Nat := match iter with
  | .Name x p => if isMu c p = true ∧ plainN x = true ∧ (c.sc.names.lookup x = some .local ∨ c.sc.names.lookup x = some .cell) then slotL x c.N else none
  | _ => none
def tS (c : TC) : Nat → Stmt → SS
  | 0, _ => failS
  | n + 1, st => match st with
    | .Pass _ => sPass
    | .Break _ => sBrk
    | .Continue _ => sCnt
    | .Return none _ => sRetN
    | .Return (some e) _ => sRet (tE c e)
    | .Expr e _ => if isComp e then failS else sExp (tE c e)
    | .If t a b _ => sIf (tT c t) (sList (a.map (tS c n))) (sList (b.map (tS c n)))
    | .While t b [] _ => sWhl (tT c t) (sList (b.map (tS c n)))
    | .For tg iter b [] _ => if noSet iter then (match tgX c 3 tg with
      | some (g, _) => (match dctIt c iter with
        | some i => sForK i g (sList (b.map (tS c n)))
        | none => sFor (isTupE tg) (iterX c (tE c) tg iter) g (sList (b.map (tS c n))))
      | none => failS) else failS
    | .Assign [tg] v _ => asgX c tg v
    | .AugAssign (.Name x _) .Add v _ => (match slotL x c.N with
      | some i => if canSet c x then augN i (tE c v) else failS
      | none => failS)
    | .AugAssign (.Attribute o a _) .Add v _ => (match atL a c.ats with
      | some f => augA c.fld f (tE c o) (tE c v)
      | none => failS)
    | _ => failS
section
variable {k : Nat} {c : TC} {X : Cx} {W : WX}
theorem tE_ok (G : Good k c X W) (e : Expr) : PE X e (rd (gx X) W (tE c e)) := (tET_ok FU).1 G e
theorem tT_ok (G : Good k c X W) (e : Expr) : PT X e (rdT (gx X) W (tT c e)) := (tET_ok FU).2 G e
theorem swapped_none {tg v : Expr} (h : isTupV v = false) (env : PySem.Env) : swappedStores [tg] v env = pure none := by
  cases tg <;> cases v <;> first | rfl | cases h
theorem swapped_name {x : Str} {p : Pos} {v : Expr} (env : PySem.Env) : swappedStores [.Name x p] v env = pure none := by
  cases v <;> rfl
theorem swapped_sub {o i : Expr} {p : Pos} {v : Expr} (env : PySem.Env) : swappedStores [.Subscript o i p] v env = pure none := by
  cases v <;> rfl
theorem swapped_tup {ts : List Expr} {k : Nat} {p : Pos} {v : Expr} (h : ∀ vs k p, v ≠ .Tuple vs k p) (env : PySem.Env) : swappedStores [.Tuple ts k p] v env = pure none := by
  cases v <;> first | rfl | exact absurd rfl (h _ _ _)
theorem nstar_any {vs : List Expr} {f : Expr → Bool} (h : vs.all notStar = true) (hf : ∀ e, notStar e = true → f e = false) : ¬ (vs.any f = true) := fun hh => by
  obtain ⟨e, he, q⟩ := List.any_eq_true.mp hh
  rw [hf e (List.all_eq_true.mp h e he)] at q
  cases q
theorem kindX (G : Good k c X W) : X.env.blockKind = .function := by
  unfold Env.blockKind
  rw [G.sc, G.kind]
  rfl
theorem fm_short {α β : Type} {f : α → Option β} : ∀ {l : List α}, (l.any fun a => (f a).isNone) = true → (l.filterMap f).length < l.length
  | [], h => by cases h
  | a :: l, h => by
    have le : (l.filterMap f).length ≤ l.length := List.length_filterMap_le _ _
    cases q : f a with
    | none =>
      rw [List.filterMap_cons, q, List.length_cons]
      exact Nat.lt_succ_of_le le
    | some b =>
      rw [List.any_cons, q] at h
      have h' : (l.any fun a => (f a).isNone) = true := by simpa using h
      rw [List.filterMap_cons, q, List.length_cons, List.length_cons]
      exact Nat.succ_lt_succ (fm_short h')
theorem swapped_inOrder (G : Good k c X W) {ts vs : List Expr} {kt k2 : Nat} {pt p2 : Pos} (h : inOrder c ts vs = true) : swappedStores [.Tuple ts kt pt] (.Tuple vs k2 p2) X.env = pure none := by
  unfold swappedStores
  dsimp only
  by_cases c1 : (!(ts.length == 2 || ts.length == 3) || vs.length != ts.length || X.env.blockKind != .function) = true
  · exact if_pos c1
  refine Eq.trans (if_neg c1) ?_
  split
  · rfl
  split
  · rfl
  · next c3 =>
    split
    · rfl
    · next c4 =>
      exfalso
      unfold inOrder at h
      have hl : (!(ts.length == 2 || ts.length == 3)) = false := by
        cases q : (!(ts.length == 2 || ts.length == 3)) with
        | false => rfl
        | true => exact absurd (by rw [q]; rfl) c1
      rw [hl, Bool.false_or, Bool.or_eq_true] at h
      rcases h with h | h
      · refine c3 ?_
        rw [Bool.or_eq_true]
        refine .inl ?_
        rw [bne_iff_ne]
        refine Nat.ne_of_lt (fm_short ?_)
        rw [List.any_eq_true] at h ⊢
        obtain ⟨t, ht, q⟩ := h
        refine ⟨t, ht, ?_⟩
        cases t with
        | Name x p =>
          have e : X.env.kindOf x = c.sc.names.lookup x := by show X.env.scope.names.lookup x = _; rw [G.sc]
          have q' : (c.sc.names.lookup x == some .local) = false := by simpa using q
          dsimp only
          rw [e, q']
          simp
        | _ => rfl
      · exact c4 h
theorem idx_ne {N : List Str} {i j : Nat} {x y : Str} (hi : N[i]? = some x) (hj : N[j]? = some y) (n : i ≠ j) (nd : N.Nodup) : x ≠ y := fun e => by
  subst e
  obtain ⟨l1, g1⟩ := List.getElem?_eq_some_iff.mp hi
  obtain ⟨l2, g2⟩ := List.getElem?_eq_some_iff.mp hj
  exact n ((List.getElem_inj nd).mp (g1.trans g2.symm))
theorem swapped_two (G : Good k c X W) {x y : Str} {px py : Pos} {kt k2 : Nat} {pt pt2 : Pos} {a b : Expr} (hne : x ≠ y) (hx : c.sc.names.lookup x = some .local) (hy : c.sc.names.lookup y = some .local) (hl : px.line = py.line) (ns : [a, b].all notStar = true) (h1 : [a, b].all (foldedForSure 8) = false) (h2 : [a, b].all (constantsAlone 8) = false) :
    swappedStores [.Tuple [.Name x px, .Name y py] kt pt] (.Tuple [a, b] k2 pt2) X.env = pure (some [x, y]) := by
  have ex : X.env.kindOf x = some .local := by show X.env.scope.names.lookup x = _; rw [G.sc]; exact hx
  have ey : X.env.kindOf y = some .local := by show X.env.scope.names.lookup y = _; rw [G.sc]; exact hy
  unfold swappedStores
  refine Eq.trans (if_neg (by simp [kindX G])) ?_
  refine Eq.trans (if_neg (nstar_any ns fun e he => by cases e <;> first | rfl | cases he)) ?_
  refine Eq.trans (if_neg (by simp [ex, ey, hl, hne, Ne.symm hne, Expr.pos, List.eraseDups_cons])) ?_
  refine Eq.trans (if_neg (by rw [h1]; simp)) ?_
  refine Eq.trans (if_neg (by rw [h2]; simp)) ?_
  simp [ex, ey, hl, Expr.pos]
theorem swapped_three (G : Good k c X W) {x y z : Str} {px py pz : Pos} {kt k2 : Nat} {pt pt2 : Pos} {a b d : Expr} (hne : x ≠ y) (hne2 : x ≠ z) (hne3 : y ≠ z) (hx : c.sc.names.lookup x = some .local) (hy : c.sc.names.lookup y = some .local) (hz : c.sc.names.lookup z = some .local) (hl : px.line = py.line) (hl2 : px.line = pz.line) (ns : [a, b, d].all notStar = true) (h1 : [a, b, d].all (foldedForSure 8) = false) (h2 : [a, b, d].all (constantsAlone 8) = false) :
    swappedStores [.Tuple [.Name x px, .Name y py, .Name z pz] kt pt] (.Tuple [a, b, d] k2 pt2) X.env = pure (some [x, y, z]) := by
  have ex : X.env.kindOf x = some .local := by show X.env.scope.names.lookup x = _; rw [G.sc]; exact hx
  have ey : X.env.kindOf y = some .local := by show X.env.scope.names.lookup y = _; rw [G.sc]; exact hy
  have ez : X.env.kindOf z = some .local := by show X.env.scope.names.lookup z = _; rw [G.sc]; exact hz
  unfold swappedStores
  refine Eq.trans (if_neg (by simp [kindX G])) ?_
  refine Eq.trans (if_neg (nstar_any ns fun e he => by cases e <;> first | rfl | cases he)) ?_
  refine Eq.trans (if_neg (by simp [ex, ey, ez, ← hl, ← hl2, hne, hne2, hne3, Ne.symm hne, Ne.symm hne2, Ne.symm hne3, Expr.pos, List.eraseDups_cons])) ?_
  refine Eq.trans (if_neg (by rw [h1]; simp)) ?_
  refine Eq.trans (if_neg (by rw [h2]; simp)) ?_
  simp [ex, ey, ez, ← hl, ← hl2, Expr.pos]
theorem asgX_ok (G : Good k c X W) {tg v : Expr} {pos : Pos} : PS X (.Assign [tg] v pos) (rdS (gx X) W (asgX c tg v)) := by
  have hu := G.hu
  unfold asgX
  split
  · next o a p =>
    split
    · next f q =>
      have := atL_ok q
      subst this
      exact ds_att G.fld (swaps_att _ _) (tE_ok G _) (tE_ok G _)
    · exact ds_fail
  · next o i p =>
    split
    · exact ds_fail
    · next hc =>
      have c2 : noSlc i = true := by
        cases q : noSlc i with
        | true => rfl
        | false => exact absurd q hc
      exact ds_asg (sole_of (swaps_sub _ _)) (swapped_sub _) rfl (tE_ok G _) (dg_sub (W := W) hu c2 (tE_ok G _) (tE_ok G _))
  · next y py =>
    split
    · next j q =>
      split
      · next hcs =>
        obtain ⟨h1, h2⟩ := canSet_ok G hcs
        have hN : X.N[j]? = some y := by rw [G.N]; exact slotL_ok q
        split
        · next elt gs scope pos' =>
          split
          · next hs =>
            unfold setsLc at hs
            simp only [Bool.and_eq_true, Bool.not_eq_true'] at hs
            have hy : c.sc.names.lookup y = some .local := by
              have := hs.1
              split at this
              · assumption
              · cases this
            have hyX : X.env.scope.names.lookup y = some .local := by rw [G.sc]; exact hy
            unfold lcT
            split
            · next tg iter ifs =>
              split
              · next g ws t e =>
                obtain ⟨g1, g2, g3, g4, g5, g6⟩ := genX_ok G (tET_ok FU).2 e
                exact ds_setLc g1 G.calm G.ndX hN hyX (sw_true (by rw [G.sc]; exact G.kind) hyX hs.2.1 hs.2.2) (iterX_ok G (tE_ok G) tg iter) g2 g5 g6 (fun s H C cl fp => tE_ok (G.blk g4 s H C cl fp) elt) (noFold g3 _)
              · exact ⟨fun pins s st H Q I z => by obtain ⟨Z, as, e, h, S, E, P⟩ := z; exact P.elim⟩
            · exact ⟨fun pins s st H Q I z => by obtain ⟨Z, as, e, h, S, E, P⟩ := z; exact P.elim⟩
          · split
            · next hc => exact ds_asg (sole_of (swaps_cel _ (by rw [G.sc]; exact isCel_ok hc))) (swapped_name _) rfl (tE_ok G _) (dg_name G.ndX hN h1 h2)
            · exact ds_fail
        · split
          · exact ds_fail
          · next hc =>
            refine ds_asg (sole_of ?_) (swapped_name _) rfl (tE_ok G _) (dg_name G.ndX hN h1 h2)
            cases hv : isComp v with
            | false => exact swaps_no hv _ _ _
            | true =>
              rw [hv] at hc
              exact swaps_cel _ (by rw [G.sc]; exact isCel_ok (by simpa using hc))
      · exact ds_fail
    · exact ds_fail
  · next ts kt p =>
    split
    · next vs k2 p2 =>
      split
      · next hio =>
        split
        · next g ws q => exact ds_asg (sole_of (swaps_no rfl _ _ _)) (swapped_inOrder G hio) rfl (tE_ok G _) (tgX_ok G 3 _ g ws false q (fun z => by cases z))
        · exact ds_fail
      split
      · next x px y py a b =>
        split
        · next i j q1 q2 =>
          split
          · next hc =>
            obtain ⟨c1, c2, c3, c4, c5, c6, c7⟩ := hc
            have n1 := slotL_ok q1
            have n2 := slotL_ok q2
            exact ds_par G.calm G.ndX (by rw [G.N]; exact n1) (by rw [G.N]; exact n2) c1 (by rw [G.sc]; exact c2) (by rw [G.sc]; exact c3) (swapped_two G (idx_ne n1 n2 c1 G.nd) c2 c3 c4 c5 c6 c7) (argsX_ok (tE_ok G))
          · exact ds_fail
        · exact ds_fail
      · next x px y py z pz a b d =>
        split
        · next i j l q1 q2 q3 =>
          split
          · next hc =>
            obtain ⟨c1, c1b, c1c, c2, c3, c3b, c4, c4b, c5, c6, c7⟩ := hc
            have n1 := slotL_ok q1
            have n2 := slotL_ok q2
            have n3 := slotL_ok q3
            exact ds_par3 G.calm G.ndX (by rw [G.N]; exact n1) (by rw [G.N]; exact n2) (by rw [G.N]; exact n3) c1 c1b c1c (by rw [G.sc]; exact c2) (by rw [G.sc]; exact c3) (by rw [G.sc]; exact c3b) (swapped_three G (idx_ne n1 n2 c1 G.nd) (idx_ne n1 n3 c1b G.nd) (idx_ne n2 n3 c1c G.nd) c2 c3 c3b c4 c4b c5 c6 c7) (argsX_ok (tE_ok G))
          · exact ds_fail
        · exact ds_fail
      · exact ds_fail
    · next hv =>
      split
      · exact ds_fail
      · next hc =>
        split
        · next g ws q => exact ds_asg (sole_of (swaps_no (by simpa using hc) _ _ _)) (swapped_tup (fun vs k p z => hv vs k p z) _) rfl (tE_ok G _) (tgX_ok G 3 _ g ws false q (fun z => by cases z))
        · exact ds_fail
  · exact ds_fail
theorem dctIt_ok (G : Good k c X W) {iter : Expr} {i : Nat} (e : dctIt c iter = some i) : PE X iter (tVar i) := by
  unfold dctIt at e
  split at e
  · next x p =>
    by_cases hc : isMu c p = true ∧ plainN x = true ∧ (c.sc.names.lookup x = some .local ∨ c.sc.names.lookup x = some .cell)
    · rw [if_pos hc] at e
      obtain ⟨_, h1, h2⟩ := hc
      obtain ⟨p1, p2, _⟩ := plainN_ok h1
      exact pe_var (by rw [G.N]; exact slotL_ok e) (by rw [G.sc]; exact h2.elim .inl (fun z => .inr (.inl z))) p1 p2
    · rw [if_neg hc] at e; cases e
  · cases e
theorem tS_ok (G : Good k c X W) (hp : PassesOwn (model X.prog X.w) X.A X.env X.xe) : ∀ (n : Nat) (st : Stmt), PS X st (rdS (gx X) W (tS c n st))
  | 0, _ => ds_fail
  | n + 1, st => by
    have blk : ∀ l : List Stmt, PSs X l (rdS (gx X) W (sList (l.map (tS c n)))) := fun l => by
      induction l with
      | nil => exact ds_nil
      | cons a l ih => exact ds_cons (tS_ok G hp n a) ih
    unfold tS
    split
    · exact ds_pass
    · exact ds_brk
    · exact ds_cnt
    · exact ds_retN
    · exact ds_ret (tE_ok G _)
    · split
      · exact ds_fail
      · next hc => exact ds_exp (swaps_no (by simpa using hc) _ _ _) (tE_ok G _)
    · exact ds_if (tT_ok G _) (blk _) (blk _)
    · exact ds_whl hp (tT_ok G _) (blk _)
    · split
      · next hs =>
        split
        · next g ws q =>
          split
          · next i qi => exact ds_forK hp G.calm (noFold hs _) (dctIt_ok G qi) (tgX_ok G 3 _ g ws _ q (fun z => z)) (blk _)
          · exact ds_for hp G.calm (noFold hs _) (iterX_ok G (tE_ok G) _ _) (tgX_ok G 3 _ g ws _ q (fun z => z)) (blk _)
        · exact ds_fail
      · exact ds_fail
    · exact asgX_ok G
    · split
      · next i q =>
        split
        · next hc =>
          obtain ⟨h1, h2⟩ := canSet_ok G hc
          exact ds_augN G.ndX (by rw [G.N]; exact slotL_ok q) h1 h2 (tE_ok G _)
        · exact ds_fail
      · exact ds_fail
    · split
      · next f q =>
        have := atL_ok q
        subst this
        exact ds_augA G.fld (tE_ok G _) (tE_ok G _)
      · exact ds_fail
    · exact ds_fail
abbrev FS : Nat := 12
def tBody (c : TC) (body : List Stmt) : SS := sList (body.map (tS c FS))
theorem tBody_ok (G : Good k c X W) (hp : PassesOwn (model X.prog X.w) X.A X.env X.xe) (body : List Stmt) : PSs X body (rdS (gx X) W (tBody c body)) := by
  unfold tBody
  induction body with
  | nil => exact ds_nil
  | cons a l ih => exact ds_cons (tS_ok G hp FS a) ih
end
end Dk
end S_DkX
end
section
set_option Elab.async false
set_option linter.all false
set_option maxRecDepth 100000
set_option maxHeartbeats 4000000
/-! DkY: defs, methods, makers: from their texts to what they do; tables of them. -/
noncomputable section S_DkY
namespace Dk
open PySem PySem.Spec PyProof.Rows L2
/-- a def's run: len names, n parameters -/
def mF (len n : Nat) (f : SS) : List D → M D := fun ds h => if ds.length = n then (match f (ds.map some ++ List.replicate (len - n) none) h with
  | .ok (.nx _) h' => .ok .non h'
  | .ok (.rt d) h' => .ok d h'
  | .ok (.ex c fs _) h' => .ex c fs h'
  | _ => .fail) else .fail
/-- what the tables say of the text -/
structure Tb (k : Nat) (glo : List (Str × Gb)) (tb : MTab) (fld : String → String → Bool) (P : Program) (w : World) (K : PySem.W.Frag) (mg : Str → Option Value) (base : Heap) : Prop where
  fn : ∀ x n m, glo.lookup x = some (.fn n m) → ∃ (f : Addr) (fd : FuncData) (ps : List Str), ps.length = n ∧ FnG P w K mg base k f fd ps (spD ⟨K, P, w⟩ n m) ∧ Binds K fd ps [] ∧ PySem.W.keepIn K (.ref f) = true ∧ mg x = some (.ref f)
  mkr : ∀ x cl n dfl m, glo.lookup x = some (.mk cl n dfl m) → (∃ (g : Addr) (fd : FuncData) (ps : List Str) (ds : List Value) (dvs : List V), Mk K (adr K cl) g ∧ FnG P w K mg base k g fd ps (spD ⟨K, P, w⟩ (n + 1 + dfl.length) m) ∧ Binds K fd ps ds ∧ Vals dvs ds ∧ ∀ Z as H, Reps ⟨K, P, w⟩ Z as H dfl dvs) ∧ Cls K (adr K cl) ∧ mg x = some (.ref (adr K cl))
  cst : ∀ x d, glo.lookup x = some (.cst d) → ∃ (u : Value) (v : V), mg x = some u ∧ RelV v u ∧ ∀ Z as H, Rep ⟨K, P, w⟩ Z as H d v
  blt : ∀ x ∈ freeNames, mg x = none
  tbl : ∀ c' name n m, tb c' name = some (n, m) → Cls K (adr K c') ∧ ∃ g, Meth K (adr K c') (Str.ofString name) g ∧ ∃ (fd : FuncData) (ps : List Str), ps.length = n + 1 ∧ FnG P w K mg base k g fd ps (spD ⟨K, P, w⟩ (n + 1) m) ∧ Binds K fd ps [] ∧ PySem.W.keepIn K (.ref g) = true
  fld : ∀ c f, fld c f = true → Cls K (adr K c) ∧ NoAttr K (adr K c) (Str.ofString f)
section
variable {k j : Nat} {glo : List (Str × Gb)} {tb : MTab} {fld : String → String → Bool} {P : Program} {w : World} {K : PySem.W.Frag} {mg : Str → Option Value} {base : Heap}
theorem Tb.mono (T : Tb k glo tb fld P w K mg base) (h : k ≤ j) : Tb j glo tb fld P w K mg base where
  fn := fun x n m e => by
    obtain ⟨f, fd, ps, h1, h2, h3⟩ := T.fn x n m e
    exact ⟨f, fd, ps, h1, h2.mono h, h3⟩
  mkr := fun x cl n dfl m e => by
    obtain ⟨⟨g, fd, ps, ds, dvs, h1, h2, h3⟩, h4⟩ := T.mkr x cl n dfl m e
    exact ⟨⟨g, fd, ps, ds, dvs, h1, h2.mono h, h3⟩, h4⟩
  cst := T.cst
  blt := T.blt
  tbl := fun c' name n m e => by
    obtain ⟨h1, g, h2, fd, ps, h3, h4, h5⟩ := T.tbl c' name n m e
    exact ⟨h1, g, h2, fd, ps, h3, h4.mono h, h5⟩
  fld := T.fld
theorem Tb.good (T : Tb k glo tb fld P w K mg base) {N : List Str} {sc : Scope} {cel : List Str} {mus : List (Nat × Nat × Nat)} {ats : List String} {X : Cx} {W : WX} (hN : X.N = N) (nd : N.Nodup) (hsc : X.env.scope = sc) (hk : sc.kind = .function) (calm : X.calm = true) (hc : ∀ x ∈ cel, X.fn x = true) (tk : Takes X W) (hr : RG (k + 2) X.A)
    (e1 : X.prog = P) (e2 : X.w = w) (e3 : X.K = K) (e4 : X.mg = mg) (e5 : X.base = base) : Good k ⟨N, sc, cel, mus, glo, tb, fld, ats⟩ X W := by
  subst e1 e2 e3 e4 e5
  exact {
    N := hN
    nd := nd
    sc := hsc
    kind := hk
    calm := calm
    cel := hc
    tk := tk
    hr := hr
    fn := fun x n m e => by
      obtain ⟨f, fd, ps, h1, h2, h3, h4, h5⟩ := T.fn x n m e
      exact ⟨f, ⟨⟨fd, ps, h1, h2, h3⟩, h4⟩, h5⟩
    mkr := fun x cl n dfl m e => by
      obtain ⟨h1, h2, h3⟩ := T.mkr x cl n dfl m e
      exact ⟨⟨h1, h2⟩, h3⟩
    cst := T.cst
    blt := T.blt
    tb := fun c' name n m e => by
      obtain ⟨h1, g, h2, fd, ps, h3, h4, h5, h6⟩ := T.tbl c' name n m e
      exact ⟨h1, g, h2, ⟨⟨fd, ps, h3, h4, h5⟩, h6⟩⟩
    fld := T.fld }
/-- a def's text does what the translation says -/
theorem fn_step (T : Tb k glo tb fld P w K mg base) {N ps : List Str} {mus : List (Nat × Nat × Nat)} {ats : List String} {x qual : Str} {params : Arguments} {body : List Stmt} {scope : Scope} {dvs : List V} {kws : List (Str × V)} {f : Addr} {fd : FuncData} {cel : List Str}
    (F : FunD K x qual params body scope dvs kws f fd) (S : FnScope N ps scope) (hl : ps.length ≤ N.length) {n : Nat} (hn : ps.length = n) :
    FnG P w K mg base (k + 3) f fd ps (spD ⟨K, P, w⟩ n (mF N.length n (tBody ⟨N, scope, cel, mus, glo, tb, fld, ats⟩ body))) := by
  subst hn
  refine FnG.of F S (fun vs H Q E h => ?_) fun cdv A outer s H vs Q E hr h => ?_
  · obtain ⟨Z, as, h, ds, S, r, hl, P⟩ := h
    rw [← r.length, hl]
  · obtain ⟨Z, as, h, ds, Si, r, hl', Pz⟩ := h
    have G : Good k ⟨N, scope, cel, mus, glo, tb, fld, ats⟩ (cxOf (L2.CX P w) P w K mg base N qual scope f cdv A outer s H E) (fun cls d _ H => E cls d H) :=
      T.good rfl S.nd rfl S.kind rfl (fun _ _ => rfl) (takes_of rfl rfl rfl rfl) hr rfl rfl rfl rfl rfl
    refine ⟨_, tBody_ok G (passes_of rfl) body, Z, as, ds.map some ++ List.replicate (N.length - ps.length) none, h, Si, ?_, ?_⟩
    · have lv : vs.length = ps.length := by rw [← r.length, hl']
      refine ⟨by unfold L2.start; simp [r.length, lv], fun i d e => ?_⟩
      unfold L2.start
      by_cases hi : i < ds.length
      · rw [List.getElem?_append_left (by simpa using hi), List.getElem?_map] at e
        obtain ⟨d', e1, e2⟩ := Option.map_eq_some_iff.mp e
        cases e2
        obtain ⟨v, v1, v2⟩ := r.get e1
        refine ⟨v, ?_, v2⟩
        rw [List.getElem?_append_left (by rw [List.length_map, ← r.length]; exact hi), List.getElem?_map, v1]
        rfl
      · rw [List.getElem?_append_right (by simpa using hi)] at e
        rw [List.getElem?_replicate] at e
        split at e
        · cases e
        · cases e
    · unfold mF at Pz
      rw [if_pos hl'] at Pz
      cases q : tBody ⟨N, scope, cel, mus, glo, tb, fld, ats⟩ body (ds.map some ++ List.replicate (N.length - ps.length) none) h with
      | fail => rw [q] at Pz; exact Pz
      | ok fl h' =>
        rw [q] at Pz
        cases fl with
        | nx e' => exact fun as' s' H' x S' E' => Pz as' .non H' x S' .non
        | rt d => exact Pz
        | bk e' => exact Pz.elim
        | ct e' => exact Pz.elim
        | ex c fs e' => exact fun as' cv dx s' H' x S' E' z => Pz as' cv dx H' x S' z
/-! ### entries of the tables -/
structure FnE (k : Nat) (P : Program) (w : World) (K : PySem.W.Frag) (mg : Str → Option Value) (base : Heap) (x : Str) (n : Nat) (m : List D → M D) : Prop where
  ex : ∃ (f : Addr) (fd : FuncData) (ps : List Str), ps.length = n ∧ FnG P w K mg base k f fd ps (spD ⟨K, P, w⟩ n m) ∧ Binds K fd ps [] ∧ PySem.W.keepIn K (.ref f) = true ∧ mg x = some (.ref f)
structure MtE (k : Nat) (P : Program) (w : World) (K : PySem.W.Frag) (mg : Str → Option Value) (base : Heap) (c name : String) (n : Nat) (m : List D → M D) : Prop where
  ex : Cls K (adr K c) ∧ ∃ g, Meth K (adr K c) (Str.ofString name) g ∧ ∃ (fd : FuncData) (ps : List Str), ps.length = n + 1 ∧ FnG P w K mg base k g fd ps (spD ⟨K, P, w⟩ (n + 1) m) ∧ Binds K fd ps [] ∧ PySem.W.keepIn K (.ref g) = true
structure MkE (k : Nat) (P : Program) (w : World) (K : PySem.W.Frag) (mg : Str → Option Value) (base : Heap) (x : Str) (cl : String) (n : Nat) (dfl : List D) (m : List D → M D) : Prop where
  ex : (∃ (g : Addr) (fd : FuncData) (ps : List Str) (ds : List Value) (dvs : List V), Mk K (adr K cl) g ∧ FnG P w K mg base k g fd ps (spD ⟨K, P, w⟩ (n + 1 + dfl.length) m) ∧ Binds K fd ps ds ∧ Vals dvs ds ∧ ∀ Z as H, Reps ⟨K, P, w⟩ Z as H dfl dvs) ∧ Cls K (adr K cl) ∧ mg x = some (.ref (adr K cl))
def addM (tb : MTab) (c name : String) (n : Nat) (m : List D → M D) : MTab := fun c' name' => if c' = c ∧ name' = name then some (n, m) else tb c' name'
theorem FnE.mono {x : Str} {n : Nat} {m : List D → M D} (F : FnE k P w K mg base x n m) (h : k ≤ j) : FnE j P w K mg base x n m := by
  obtain ⟨f, fd, ps, h1, h2, h3⟩ := F.ex
  exact ⟨f, fd, ps, h1, h2.mono h, h3⟩
theorem MtE.mono {c name : String} {n : Nat} {m : List D → M D} (F : MtE k P w K mg base c name n m) (h : k ≤ j) : MtE j P w K mg base c name n m := by
  obtain ⟨h1, g, h2, fd, ps, h3, h4, h5⟩ := F.ex
  exact ⟨h1, g, h2, fd, ps, h3, h4.mono h, h5⟩
theorem MkE.mono {x : Str} {cl : String} {n : Nat} {dfl : List D} {m : List D → M D} (F : MkE k P w K mg base x cl n dfl m) (h : k ≤ j) : MkE j P w K mg base x cl n dfl m := by
  obtain ⟨⟨g, fd, ps, ds, dvs, h1, h2, h3⟩, h4⟩ := F.ex
  exact ⟨⟨g, fd, ps, ds, dvs, h1, h2.mono h, h3⟩, h4⟩
theorem Tb.addF (T : Tb k glo tb fld P w K mg base) {x : Str} {n : Nat} {m : List D → M D} (F : FnE k P w K mg base x n m) : Tb k ((x, .fn n m) :: glo) tb fld P w K mg base where
  fn := fun y n' m' e => by
    rw [List.lookup_cons] at e
    by_cases q : (y == x) = true
    · rw [q] at e
      cases e
      have := eq_of_beq q
      subst this
      exact F.ex
    · rw [Bool.not_eq_true] at q
      rw [q] at e
      exact T.fn y n' m' e
  mkr := fun y cl n' dfl m' e => by
    rw [List.lookup_cons] at e
    by_cases q : (y == x) = true
    · rw [q] at e
      cases e
    · rw [Bool.not_eq_true] at q
      rw [q] at e
      exact T.mkr y cl n' dfl m' e
  cst := fun y d e => by
    rw [List.lookup_cons] at e
    by_cases q : (y == x) = true
    · rw [q] at e
      cases e
    · rw [Bool.not_eq_true] at q
      rw [q] at e
      exact T.cst y d e
  blt := T.blt
  tbl := T.tbl
  fld := T.fld
theorem Tb.addK (T : Tb k glo tb fld P w K mg base) {x : Str} {cl : String} {n : Nat} {dfl : List D} {m : List D → M D} (F : MkE k P w K mg base x cl n dfl m) : Tb k ((x, .mk cl n dfl m) :: glo) tb fld P w K mg base where
  fn := fun y n' m' e => by
    rw [List.lookup_cons] at e
    by_cases q : (y == x) = true
    · rw [q] at e
      cases e
    · rw [Bool.not_eq_true] at q
      rw [q] at e
      exact T.fn y n' m' e
  mkr := fun y cl' n' dfl' m' e => by
    rw [List.lookup_cons] at e
    by_cases q : (y == x) = true
    · rw [q] at e
      cases e
      have := eq_of_beq q
      subst this
      exact F.ex
    · rw [Bool.not_eq_true] at q
      rw [q] at e
      exact T.mkr y cl' n' dfl' m' e
  cst := fun y d e => by
    rw [List.lookup_cons] at e
    by_cases q : (y == x) = true
    · rw [q] at e
      cases e
    · rw [Bool.not_eq_true] at q
      rw [q] at e
      exact T.cst y d e
  blt := T.blt
  tbl := T.tbl
  fld := T.fld
theorem Tb.addT (T : Tb k glo tb fld P w K mg base) {c name : String} {n : Nat} {m : List D → M D} (F : MtE k P w K mg base c name n m) : Tb k glo (addM tb c name n m) fld P w K mg base where
  fn := T.fn
  mkr := T.mkr
  cst := T.cst
  blt := T.blt
  tbl := fun c' name' n' m' e => by
    unfold addM at e
    by_cases q : c' = c ∧ name' = name
    · rw [if_pos q] at e
      cases e
      obtain ⟨rfl, rfl⟩ := q
      exact F.ex
    · rw [if_neg q] at e
      exact T.tbl c' name' n' m' e
  fld := T.fld
/-- a constant of the module -/
inductive CsOk (mg : Str → Option Value) (x : Str) : D → Prop where
  | int {i : Int} {t : Tok} : mg x = some (.int i t) → CsOk mg x (.int i)
  | str {z : Str} {t : Tok} : mg x = some (.str z t) → CsOk mg x (.str z)
theorem Tb.start (blt : ∀ x ∈ freeNames, mg x = none) (hf : ∀ c f, fld c f = true → Cls K (adr K c) ∧ NoAttr K (adr K c) (Str.ofString f)) : Tb 0 [] (fun _ _ => none) fld P w K mg base :=
  { fn := fun _ _ _ e => nomatch e
    mkr := fun _ _ _ _ _ e => nomatch e
    cst := fun _ _ e => nomatch e
    blt := blt
    tbl := fun _ _ _ _ e => nomatch e
    fld := hf }
theorem Tb.addC (T : Tb k glo tb fld P w K mg base) {x : Str} {d : D} (F : CsOk mg x d) : Tb k ((x, .cst d) :: glo) tb fld P w K mg base where
  fn := fun y n' m' e => by
    rw [List.lookup_cons] at e
    by_cases q : (y == x) = true
    · rw [q] at e
      cases e
    · rw [Bool.not_eq_true] at q
      rw [q] at e
      exact T.fn y n' m' e
  mkr := fun y cl' n' dfl' m' e => by
    rw [List.lookup_cons] at e
    by_cases q : (y == x) = true
    · rw [q] at e
      cases e
    · rw [Bool.not_eq_true] at q
      rw [q] at e
      exact T.mkr y cl' n' dfl' m' e
  cst := fun y d' e => by
    rw [List.lookup_cons] at e
    by_cases q : (y == x) = true
    · rw [q] at e
      cases e
      have := eq_of_beq q
      subst this
      cases F with
      | int h => exact ⟨_, .int _, h, ⟨_, rfl⟩, fun _ _ _ => .int _⟩
      | str h => exact ⟨_, .str _, h, ⟨_, rfl⟩, fun _ _ _ => .str _⟩
    · rw [Bool.not_eq_true] at q
      rw [q] at e
      exact T.cst y d' e
  blt := T.blt
  tbl := T.tbl
  fld := T.fld
end
end Dk
end S_DkY
end
section
set_option Elab.async false
set_option linter.all false
set_option maxRecDepth 100000
set_option maxHeartbeats 4000000
/-! DkZ: the head's facts with a look of one's own; the law's end. -/
noncomputable section S_DkZ
namespace Dk
open PySem PySem.Spec PyProof.Rows L2
/-! ### a Hook with a look of one's own -/
def obsO (n : Nat) (ck : PySem.W.Frag → Bool) (fa : List He.Fa) (fn : List He.DefD) (g : Addr → Option Obj) : Bool × He.AlD := (ck (He.frG g (He.asD g n)), He.obsDG n fa fn g)
def hookO (n : Nat) (ck : PySem.W.Frag → Bool) (fa : List He.Fa) (fn : List He.DefD) : PySem.W.Hook where
  α := Bool × He.AlD
  obs := fun s => obsO n ck fa fn s.heap.get?
  val := fun _ => (true, He.valD fn)
  says := fun _ h => ∃ K : PySem.W.Frag, K.In h ∧ ck K = true ∧ He.SaysD fa fn K
  of := fun _ s e => ⟨_, He.frG_in, congrArg Prod.fst e, congrArg Prod.snd e⟩
  keeps := fun _ _ _ ⟨K, hK, c⟩ kp => ⟨K, PySem.W.Frag.In.keeps hK kp, c⟩
theorem obsO_eq {n : Nat} {ck : PySem.W.Frag → Bool} {fa : List He.Fa} {fn : List He.DefD} {g : Addr → Option Obj} {s : Shared} (h : ∀ a, g a = s.heap.get? a) : obsO n ck fa fn g = (hookO n ck fa fn).obs s := by
  have e : g = s.heap.get? := funext h
  subst e
  rfl
/-! ### the law's end -/
theorem ints_vals : ∀ {vs : List Value} {ns : List Int}, IntsAre vs ns → Vals (ns.map V.int) vs
  | _, _, .nil => .nil
  | _, _, .cons _ t h => .cons ⟨t, rfl⟩ (ints_vals h)
section
variable {P : Program} {w : World} {K : PySem.W.Frag} {mg mb : Str → Option Value} {k : Nat} {fa a : Addr} {fd : FuncData} {x : Str} {m : List D → M D} {s1 : Shared} {vs : List Value} {ns : List Int}
/-- the law called at the script, the own heap empty -/
theorem law_go (inK : K.In s1.heap) (glob : s1.heap.Ns mainGlobals mg) (blt : s1.heap.Ns builtinsNs mb) (bltB : ∀ x : Str, x ≠ "__name__" → mb x = bootBuiltins x) (lim : s1.heap.NoLimit) (gens : s1.gens = #[])
    (ha : s1.heap.get? a = some { cls := .type "list", data := .seq vs.toArray }) (hints : IntsAre vs ns) (hl : ns.length ≤ sizeLine) (hr : RG k callerA)
    (F : ∀ base : Heap, K.In base → base.Ns mainGlobals mg → FnG P w K mg base k fa fd [x] (spD ⟨K, P, w⟩ 1 m)) (bind : ∀ (s : Shared) (u : Value), BindsTo s fd ⟨[u], []⟩ [(x, u)])
    (law : ∃ h', m [.scr ns] [] = .ok (.bl true) h') :
    codeAny (model P w) callerA (.call (.ref fa) ⟨[.ref a], []⟩) (fun r s' => r = .ok (.ret (.bool true)) ∧ OldK s1.heap s'.heap ∧ s'.os = s1.os ∧ AllBare s'.gens) s1 := by
  have rel := ints_vals hints
  have len := hints.length
  obtain ⟨H, own, inside⟩ : ∃ H : Hp, (∀ b, H b = none ∨ (b = a ∧ K.lookup a = none ∧ H b = some (.frz { cls := .type "list", data := .seq vs.toArray } (.lst (ns.map V.int))))) ∧ ScrA K H a ns := by
    cases q : K.lookup a with
    | some o =>
      have e := inK a o q
      rw [ha] at e
      cases e
      exact ⟨fun _ => none, fun _ => .inl rfl, .inr ⟨_, vs.toArray, _, q, rfl, rfl, rfl, by rw [List.size_toArray, len]; exact hl, by simpa using rel⟩⟩
    | none =>
      refine ⟨fun b => if b = a then some (.frz { cls := .type "list", data := .seq vs.toArray } (.lst (ns.map V.int))) else none, fun b => ?_, .inl ⟨_, if_pos rfl⟩⟩
      by_cases e : b = a
      · exact .inr ⟨e, rfl, if_pos e⟩
      · exact .inl (if_neg e)
  have hok : HOk P w H s1.heap := fun b o e => by
    rcases own b with z | ⟨rfl, _, z⟩
    · rw [z] at e; cases e
    · rw [z] at e
      cases e
      exact ⟨ha, by rw [List.length_map]; exact hl, vs, _, rel, ha⟩
  have hid : ∀ {b : Addr} {o : Obj}, s1.heap.get? b = some o → H b = none → (hidT s1.heap H).get? b = some o := fun e n => hidT_get e n
  have nsH : ∀ {b : Addr} {m : Str → Option Value}, s1.heap.Ns b m → (hidT s1.heap H).Ns b m := fun {b m} z => by
    obtain ⟨o, es, ep, e, d, r⟩ := z
    refine ⟨o, es, ep, hid e ?_, d, r⟩
    rcases own b with z | ⟨rfl, _, _⟩
    · exact z
    · rw [ha] at e
      cases e
      cases d
  have inH : K.In (hidT s1.heap H) := fun b o e => hid (inK b o e) (by
    rcases own b with z | ⟨rfl, z, _⟩
    · exact z
    · rw [z] at e; cases e)
  have e0 : Env0 P w K mg (hidT s1.heap H) callerA [] s1 H :=
    ⟨rfl, ⟨inH, nsH glob, ⟨mb, nsH blt, bltB⟩, by obtain ⟨mc, h1, h2⟩ := lim; exact ⟨mc, nsH h1, h2⟩⟩, fun b o e => of_hidT e, Nat.le_of_eq (hidT_size _ _), trivial, fun b z => (by cases z), hok, .of_eq gens⟩
  obtain ⟨h', law⟩ := law
  have sp : spD ⟨K, P, w⟩ 1 m [.ref a] H (fun v _ => v = .bl true) (fun _ _ _ => False) := by
    refine ⟨fun _ => False, [], [], [.scr ns], ⟨rfl, .nil, fun n o b e => (by cases e), fun b z => z.elim⟩, .cons (.scr inside) .nil, rfl, ?_⟩
    rw [law]
    intro as' v H' _ _ r
    cases r
    rfl
  refine codeAny_mono ((F _ inH (nsH glob)).run callerA [] s1 H ⟨[.ref a], []⟩ [.ref a] [.ref a] _ _ hr e0 (bind s1 (.ref a)) (.cons rfl .nil) sp) fun r s' z => ?_
  cases r with
  | error e =>
    obtain ⟨_, _, _, _, _, _, _, _, _, _, _, _, z⟩ := z
    exact z.elim
  | ok fl =>
    cases fl with
    | next => exact False.elim z
    | brk => exact False.elim z
    | cont => exact False.elim z
    | ret u =>
      obtain ⟨v, H', os, bare, un, hok', rv, q⟩ := z
      cases q
      cases rv
      refine ⟨rfl, OldK.of_keep fun b o e => ?_, os, bare⟩
      rcases own b with n | ⟨rfl, _, n⟩
      · exact un.keep b o e n (fun z => by cases z) (by simp)
      · obtain ⟨e2, _⟩ := hok' b _ (un.frzs b _ _ n)
        rw [ha] at e
        cases e
        exact e2
end
theorem walk_go {l : PySem.W.OpenLaw} {n k : Nat} {q : Program} {loose : List Str} {XP : (Str → Option Value) → Heap → Prop} {YP : World → Heap → Prop} {d : DefRec} {x : Str} {m : List D → M D}
    (hn : l.most = some n) (hn2 : n ≤ sizeLine) (hdf : d.params.defaults = []) (hr : RG k callerA)
    (F : ∀ (w : World) (mg : Str → Option Value) (fa : Addr) (h : Heap), YP w h → h.Ns mainGlobals mg → mg d.name = some (.ref fa) →
      ∃ (K : PySem.W.Frag) (fd : FuncData), K.In h ∧ (∀ (s : Shared) (u : Value), BindsTo s fd ⟨[u], []⟩ [(x, u)]) ∧ ∀ base : Heap, K.In base → base.Ns mainGlobals mg → FnG l.prog w K mg base k fa fd [x] (spD ⟨K, l.prog, w⟩ 1 m))
    (law : ∀ ns : List Int, ns.length ≤ n → ∃ h', m [.scr ns] [] = .ok (.bl true) h') :
    PySem.W.WalkO q loose XP YP l.row.toRowW d [] (fun f vs => PySem.call f vs) := by
  refine Att.attach_call hn hdf fun w _ s1 mg mb fa _ _ _ _ a vs ns G Y _ _ _ hmg hobj hints hlen hg => ?_
  obtain ⟨K, fd, inK, bind, FF⟩ := F w mg fa _ Y G.T.g hmg
  exact law_go inK G.T.g G.T.b G.T.builtins G.T.nolimit hg hobj hints (Nat.le_trans hlen hn2) hr FF bind (law ns hlen)
end Dk
end S_DkZ
end
section
set_option Elab.async false
set_option linter.all false
set_option maxRecDepth 100000
set_option maxHeartbeats 4000000
/-! Wp: what must hold ahead, construct by construct. -/
noncomputable section S_Wp
namespace Dk
open PySem PySem.Spec PyProof.Rows L2
def wp {α : Type} (o : Out α) (Q : α → Hd → Prop) : Prop := match o with
  | .ok d h => Q d h
  | _ => False
def wpS (o : OS) (Q : Fl → Hd → Prop) : Prop := match o with
  | .ok (.ex _ _ _) _ => False
  | .ok fl h => Q fl h
  | .fail => False
section
variable {α β : Type} {e : Env} {h : Hd}
@[simp] theorem wp_ok {d : α} {Q : α → Hd → Prop} : wp (.ok d h) Q = Q d h := rfl
@[simp] theorem wp_fail {Q : α → Hd → Prop} : wp .fail Q = False := rfl
@[simp] theorem wp_ex {c : String} {fs : Fs} {Q : α → Hd → Prop} : wp (.ex c fs h) Q = False := rfl
@[simp] theorem wpS_nx {Q : Fl → Hd → Prop} : wpS (.ok (.nx e) h) Q = Q (.nx e) h := rfl
@[simp] theorem wpS_rt {d : D} {Q : Fl → Hd → Prop} : wpS (.ok (.rt d) h) Q = Q (.rt d) h := rfl
@[simp] theorem wpS_fail {Q : Fl → Hd → Prop} : wpS .fail Q = False := rfl
theorem wp_bd {m : M α} {f : α → M β} {Q : β → Hd → Prop} : wp (bd m f h) Q = wp (m h) fun x h1 => wp (f x h1) Q := by
  rw [bd_eq]
  cases m h <;> rfl
theorem wp_eq {o : Out α} {d : α} {h' : Hd} {Q : α → Hd → Prop} (q : o = .ok d h') : wp o Q = Q d h' := by rw [q]; rfl
theorem wp_imp {o : Out α} {Q Q' : α → Hd → Prop} (p : wp o Q) (k : ∀ d h', Q d h' → Q' d h') : wp o Q' := by
  cases o with
  | ok d h' => exact k _ _ p
  | _ => exact p
theorem wpS_imp {o : OS} {Q Q' : Fl → Hd → Prop} (p : wpS o Q) (k : ∀ d h', Q d h' → Q' d h') : wpS o Q' := by
  cases o with
  | ok d h' =>
    cases d with
    | ex _ _ _ => exact p
    | _ => exact k _ _ p
  | fail => exact p
theorem wp_ex_ok {o : Out α} {Q : α → Hd → Prop} (p : wp o Q) : ∃ d h', o = .ok d h' ∧ Q d h' := by
  cases o with
  | ok d h' => exact ⟨d, h', rfl, p⟩
  | fail => exact p.elim
  | ex _ _ _ => exact p.elim
end
section
variable {e : Env} {h : Hd} {Q : D → Hd → Prop}
theorem wp_pu {α : Type} {x : α} {Q : α → Hd → Prop} : wp (pu x h) Q = Q x h := rfl
theorem wp_cX {d : D} : wp (cX d e h) Q = Q d h := rfl
theorem wp_vX {i : Nat} : wp (vX i e h) Q = match e[i]? with | some (some d) => Q d h | _ => False := by
  unfold vX
  cases e[i]? with
  | none => rfl
  | some o => cases o <;> rfl
theorem wp_aNil {Q : List D → Hd → Prop} : wp (aList [] e h) Q = Q [] h := rfl
theorem wp_aCons {f : SE} {fs : List SE} {Q : List D → Hd → Prop} : wp (aList (f :: fs) e h) Q = wp (f e h) fun d h1 => wp (aList fs e h1) fun ds h2 => Q (d :: ds) h2 := by
  show wp (bd _ _ _) _ = _
  rw [wp_bd]
  simp only [wp_bd, wp_pu]
theorem wp_lf {mu : Bool} {o : Option Res} : wp (lf mu o h) Q = match o with | some r => wp (fin mu r h) Q | none => False := by
  cases o <;> rfl
theorem wp_finV {mu : Bool} {d : D} : wp (fin mu (.v d) h) Q = Q d h := rfl
theorem wp_finL0 {xs : List D} : wp (fin false (.l xs) h) Q = Q (.lst xs) h := rfl
theorem wp_finL1 {xs : List D} : wp (fin true (.l xs) h) Q = Q (.ref h.length) (h ++ [.lst xs]) := rfl
theorem wp_finD0 {xs : List (Key × D)} : wp (fin false (.d xs) h) Q = Q (.dct xs) h := rfl
theorem wp_finD1 {xs : List (Key × D)} : wp (fin true (.d xs) h) Q = Q (.ref h.length) (h ++ [.dct xs]) := rfl
theorem wp_tupX {f : SA} : wp (tupX f e h) Q = wp (f e h) fun ds h1 => ds.length ≤ sizeLine ∧ Q (.tup ds) h1 := by
  unfold tupX
  rw [wp_bd]
  congr
  funext ds h1
  by_cases c : ds.length ≤ sizeLine <;> simp [c]
theorem wp_lstX {mu : Bool} {f : SA} : wp (lstX mu f e h) Q = wp (f e h) fun ds h1 => ds.length ≤ sizeLine ∧ wp (fin mu (.l ds) h1) Q := by
  unfold lstX
  rw [wp_bd]
  congr
  funext ds h1
  by_cases c : ds.length ≤ sizeLine <;> simp [c]
theorem wp_op2 {mu : Bool} {g : Hd → D → D → Option Res} {fa fb : SE} : wp (op2 mu g fa fb e h) Q = wp (fa e h) fun a h1 => wp (fb e h1) fun b h2 => wp (lf mu (g h2 a b) h2) Q := by
  unfold op2
  simp only [wp_bd]
theorem wp_binX {op : Operator} {mu : Bool} {fa fb : SE} : wp (binX op mu fa fb e h) Q = wp (fa e h) fun a h1 => wp (fb e h1) fun b h2 => wp (lf mu (binD op h2 a b) h2) Q := wp_op2
theorem wp_cmpX {op : CmpOp} {fa fb : SE} : wp (cmpX op fa fb e h) Q = wp (fa e h) fun a h1 => wp (fb e h1) fun b h2 => match cmpB op h2 a b with | some c => Q (.bl c) h2 | none => False := by
  unfold cmpX
  rw [wp_op2]
  congr
  funext a h1
  congr
  funext b h2
  unfold cmpD
  cases cmpB op h2 a b <;> rfl
theorem wp_idxX {fa fb : SE} : wp (idxX fa fb e h) Q = wp (fa e h) fun a h1 => wp (fb e h1) fun b h2 => wp (lf false (idxD h2 a b) h2) Q := wp_op2
theorem wp_chnX {op op' : CmpOp} {fa fb fc : SE} : wp (chnX op op' fa fb fc e h) Q = wp (fa e h) fun a h1 => wp (fb e h1) fun b h2 => match cmpB op h2 a b with
    | some true => wp (fc e h2) fun c h3 => match cmpB op' h3 b c with | some r => Q (.bl r) h3 | none => False
    | some false => Q (.bl false) h2
    | none => False := by
  unfold chnX
  simp only [wp_bd]
  congr
  funext a h1
  congr
  funext b h2
  cases cmpB op h2 a b with
  | none => rfl
  | some c =>
    cases c with
    | false => rfl
    | true =>
      dsimp only
      rw [wp_bd]
      congr
      funext c h3
      unfold cmpD
      cases cmpB op' h3 b c <;> rfl
theorem wp_negX {fa : SE} : wp (negX fa e h) Q = wp (fa e h) fun d h1 => match d with | .int i => Q (.int (-i)) h1 | _ => False := by
  unfold negX
  rw [wp_bd]
  congr
  funext d h1
  cases d <;> rfl
theorem wp_notX {f : SE} : wp (notX f e h) Q = wp (f e h) fun d h1 => match d with | .bl c => Q (.bl (!c)) h1 | _ => False := by
  unfold notX
  rw [wp_bd]
  congr
  funext d h1
  cases d <;> rfl
theorem wp_andX {f g : SE} : wp (andX f g e h) Q = wp (f e h) fun d h1 => match d with | .bl true => wp (g e h1) Q | .bl false => Q (.bl false) h1 | _ => False := by
  unfold andX
  rw [wp_bd]
  congr
  funext d h1
  cases d with
  | bl c => cases c <;> rfl
  | _ => rfl
theorem wp_orX {f g : SE} : wp (orX f g e h) Q = wp (f e h) fun d h1 => match d with | .bl true => Q (.bl true) h1 | .bl false => wp (g e h1) Q | _ => False := by
  unfold orX
  rw [wp_bd]
  congr
  funext d h1
  cases d with
  | bl c => cases c <;> rfl
  | _ => rfl
theorem wp_tru {f : SE} {Q : Bool → Hd → Prop} : wp (tru f e h) Q = wp (f e h) fun d h1 => match truD h1 d with | some c => Q c h1 | none => False := by
  unfold tru
  rw [wp_bd]
  congr
  funext d h1
  cases truD h1 d <;> rfl
theorem wp_notT {t : ST} {Q : Bool → Hd → Prop} : wp (notT t e h) Q = wp (t e h) fun c h1 => Q (!c) h1 := by
  unfold notT
  rw [wp_bd]
  rfl
theorem wp_andT {t u : ST} {Q : Bool → Hd → Prop} : wp (andT t u e h) Q = wp (t e h) fun c h1 => match c with | true => wp (u e h1) Q | false => Q false h1 := by
  unfold andT
  rw [wp_bd]
  congr
  funext c h1
  cases c <;> rfl
theorem wp_orT {t u : ST} {Q : Bool → Hd → Prop} : wp (orT t u e h) Q = wp (t e h) fun c h1 => match c with | true => Q true h1 | false => wp (u e h1) Q := by
  unfold orT
  rw [wp_bd]
  congr
  funext c h1
  cases c <;> rfl
theorem wp_ifX {t : ST} {f g : SE} : wp (ifX t f g e h) Q = wp (t e h) fun c h1 => match c with | true => wp (f e h1) Q | false => wp (g e h1) Q := by
  unfold ifX
  rw [wp_bd]
  congr
  funext c h1
  cases c <;> rfl
theorem wp_oNone {Q : Option Int → Hd → Prop} : wp (oNone e h) Q = Q none h := rfl
theorem wp_oSome {f : SE} {Q : Option Int → Hd → Prop} : wp (oSome f e h) Q = wp (f e h) fun d h1 => match d with | .int i => Q (some i) h1 | _ => False := by
  unfold oSome
  rw [wp_bd]
  congr
  funext d h1
  cases d <;> rfl
theorem wp_slcX {mu : Bool} {f : SE} {lo hi : SO} : wp (slcX mu f lo hi e h) Q = wp (f e h) fun d h1 => wp (lo e h1) fun l h2 => wp (hi e h2) fun u h3 => wp (lf mu (slcD h3 d l u) h3) Q := by
  unfold slcX
  simp only [wp_bd]
theorem wp_bltX {mu : Bool} {g : Hd → List D → Option Res} {f : SA} : wp (bltX mu g f e h) Q = wp (f e h) fun ds h1 => wp (lf mu (g h1 ds) h1) Q := by
  unfold bltX
  rw [wp_bd]
theorem wp_callX {m : List D → M D} {f : SA} : wp (callX m f e h) Q = wp (f e h) fun ds h1 => wp (m ds h1) Q := by
  unfold callX
  rw [wp_bd]
theorem wp_attX {fl : String → String → Bool} {f : String} {fo : SE} : wp (attX fl f fo e h) Q = wp (fo e h) fun d h1 => match asIns h1 d with
    | some (c, fs) => fl c f = true ∧ (match fs.lookup f with | some v => Q v h1 | none => False)
    | none => False := by
  unfold attX
  rw [wp_bd]
  congr
  funext d h1
  cases asIns h1 d with
  | none => rfl
  | some p =>
    obtain ⟨c, fs⟩ := p
    dsimp only
    by_cases q : fl c f = true
    · simp only [if_pos q, q, true_and]
      cases fs.lookup f <;> rfl
    · simp only [if_neg q]
      simp [q]
theorem wp_mthX {tb : MTab} {name : String} {n : Nat} {fo : SE} {fa : SA} : wp (mthX tb name n fo fa e h) Q = wp (fo e h) fun d h1 => match asIns h1 d with
    | some (c, fs) => (match tb c name, fs.lookup name with
      | some (k, m), none => k = n ∧ wp (fa e h1) fun ds h2 => wp (m (d :: ds) h2) Q
      | _, _ => False)
    | none => (match selM name h1 d with
      | some b => wp (fa e h1) fun ds h2 => wp (b.fn d ds h2) Q
      | none => False) := by
  unfold mthX
  rw [wp_bd]
  congr
  funext d h1
  cases asIns h1 d with
  | some p =>
    obtain ⟨c, fs⟩ := p
    dsimp only
    cases tb c name with
    | none => rfl
    | some km =>
      obtain ⟨k, m⟩ := km
      cases fs.lookup name with
      | some _ => rfl
      | none =>
        dsimp only
        by_cases q : k = n
        · rw [if_pos q, wp_bd]
          simp [q]
        · rw [if_neg q]
          simp [q]
  | none =>
    dsimp only
    cases selM name h1 d with
    | none => rfl
    | some b =>
      dsimp only
      rw [wp_bd]
theorem wp_fmtX {f : SE} : wp (fmtX f e h) Q = wp (f e h) fun d h1 => match d with
    | .str x => x.length ≤ sizeLine ∧ Q (.str x) h1
    | .int i => i.natAbs.log2 < 1920 ∧ Q (.str (Str.ofString (toString i))) h1
    | _ => False := by
  unfold fmtX
  rw [wp_bd]
  congr
  funext d h1
  cases d with
  | str x => by_cases c : x.length ≤ sizeLine <;> simp [c]
  | int i => by_cases c : i.natAbs.log2 < 1920 <;> simp [c]
  | _ => rfl
theorem wp_jsNil {acc : Str} : wp (jsX [] acc e h) Q = Q (.str acc) h := rfl
theorem wp_jsCons {f : SE} {fs : List SE} {acc : Str} : wp (jsX (f :: fs) acc e h) Q = wp (f e h) fun d h1 => match d with
    | .str y => (acc ++ y).length ≤ sizeLine ∧ wp (jsX fs (acc ++ y) e h1) Q
    | _ => False := by
  show wp (bd _ _ _) _ = _
  rw [wp_bd]
  congr
  funext d h1
  cases d with
  | str y => by_cases c : (acc ++ y).length ≤ sizeLine <;> simp [asT, c]
  | _ => rfl
theorem wp_dct0 {mu : Bool} : wp (dct0 mu e h) Q = wp (fin mu (.d []) h) Q := rfl
/-! ### statements -/
theorem wpS_sE {α : Type} {m : M α} {k : α → Hd → OS} {Q : Fl → Hd → Prop} : wpS (sE m e k h) Q = wp (m h) fun a h1 => wpS (k a h1) Q := by
  unfold sE
  cases q : m h with
  | ok a h1 => rfl
  | fail => rfl
  | ex c fs h1 => rfl
end
section
variable {e : Env} {h : Hd} {Q : Fl → Hd → Prop}
/-- what follows a statement -/
def nxt (g : SS) (Q : Fl → Hd → Prop) : Fl → Hd → Prop := fun fl h => match fl with
  | .nx e => wpS (g e h) Q
  | fl => Q fl h
theorem wpS_nil : wpS (sList [] e h) Q = Q (.nx e) h := rfl
theorem wpS_cons {f : SS} {fs : List SS} : wpS (sList (f :: fs) e h) Q = wpS (f e h) (nxt (sList fs) Q) := by
  show wpS (sCons _ _ _ _) _ = _
  unfold sCons
  cases f e h with
  | fail => rfl
  | ok fl h' => cases fl <;> rfl
theorem nxt_nx {g : SS} : nxt g Q (.nx e) h = wpS (g e h) Q := rfl
theorem nxt_rt {g : SS} {d : D} : nxt g Q (.rt d) h = Q (.rt d) h := rfl
theorem nxt_bk {g : SS} : nxt g Q (.bk e) h = Q (.bk e) h := rfl
theorem nxt_ct {g : SS} : nxt g Q (.ct e) h = Q (.ct e) h := rfl
theorem wpS_ret {f : SE} : wpS (sRet f e h) Q = wp (f e h) fun d h1 => Q (.rt d) h1 := wpS_sE
theorem wpS_retN : wpS (sRetN e h) Q = Q (.rt .non) h := rfl
theorem wpS_pass : wpS (sPass e h) Q = Q (.nx e) h := rfl
theorem wpS_brk : wpS (sBrk e h) Q = Q (.bk e) h := rfl
theorem wpS_cnt : wpS (sCnt e h) Q = Q (.ct e) h := rfl
theorem wpS_exp {f : SE} : wpS (sExp f e h) Q = wp (f e h) fun _ h1 => Q (.nx e) h1 := wpS_sE
theorem wpS_failS : wpS (failS e h) Q = False := rfl
theorem wpS_if {t : ST} {f g : SS} : wpS (sIf t f g e h) Q = wp (t e h) fun c h1 => match c with | true => wpS (f e h1) Q | false => wpS (g e h1) Q := by
  unfold sIf
  rw [wpS_sE]
  congr
  funext c h1
  cases c <;> rfl
theorem wpS_asg {g : TgF} {f : SE} : wpS (sAsg g f e h) Q = wp (f e h) fun d h1 => match g d e h1 with | some (e', h') => Q (.nx e') h' | none => False := by
  unfold sAsg
  rw [wpS_sE]
  congr
  funext d h1
  cases g d e h1 <;> rfl
theorem wpS_asgN {i : Nat} {f : SE} : wpS (sAsg (gN i) f e h) Q = wp (f e h) fun d h1 => Q (.nx (e.set i (some d))) h1 := by
  rw [wpS_asg]
  rfl
theorem wpS_asgT {gs : List TgF} {f : SE} : wpS (sAsg (gT gs) f e h) Q = wp (f e h) fun d h1 => match gT gs d e h1 with | some (e', h') => Q (.nx e') h' | none => False := wpS_asg
theorem wpS_asgI {fo fi f : SE} : wpS (sAsg (gI fo fi) f e h) Q = wp (f e h) fun d h1 => wp (fo e h1) fun o h2 => wp (fi e h2) fun i h3 => match stoD o i d h3 with | some h4 => Q (.nx e) h4 | none => False := by
  rw [wpS_asg]
  congr
  funext d h1
  unfold gI
  cases fo e h1 with
  | fail => rfl
  | ex _ _ _ => rfl
  | ok o h2 =>
    dsimp only [wp]
    cases fi e h2 with
    | fail => rfl
    | ex _ _ _ => rfl
    | ok i h3 =>
      dsimp only [wp]
      cases stoD o i d h3 <;> rfl
theorem wpS_par {i j : Nat} {f : SA} : wpS (sPar i j f e h) Q = wp (f e h) fun ds h1 => match ds with | [a, b] => Q (.nx ((e.set i (some a)).set j (some b))) h1 | _ => False := by
  unfold sPar
  rw [wpS_sE]
  congr
  funext ds h1
  match ds with
  | [] => rfl
  | [_] => rfl
  | [_, _] => rfl
  | _ :: _ :: _ :: _ => rfl
theorem wpS_par3 {i j l : Nat} {f : SA} : wpS (sPar3 i j l f e h) Q = wp (f e h) fun ds h1 => match ds with | [a, b, c] => Q (.nx (((e.set i (some a)).set j (some b)).set l (some c))) h1 | _ => False := by
  unfold sPar3
  rw [wpS_sE]
  congr
  funext ds h1
  match ds with
  | [] => rfl
  | [_] => rfl
  | [_, _] => rfl
  | [_, _, _] => rfl
  | _ :: _ :: _ :: _ :: _ => rfl
theorem wpS_att {fl : String → String → Bool} {f : String} {fo fv : SE} : wpS (sAtt fl f fo fv e h) Q = wp (fv e h) fun d h1 => wp (fo e h1) fun o h2 => match attD fl f o d h2 with | some h' => Q (.nx e) h' | none => False := by
  unfold sAtt
  rw [wpS_sE, wp_bd]
  congr
  funext d h1
  rw [wp_bd]
  congr
  funext o h2
  cases attD fl f o d h2 <;> rfl
theorem wpS_augN {i : Nat} {f : SE} : wpS (augN i f e h) Q = match e[i]? with
    | some (some (.int a)) => wp (f e h) fun d h1 => match d with | .int b => Q (.nx (e.set i (some (.int (a + b))))) h1 | _ => False
    | _ => False := by
  unfold augN
  cases q : e[i]? with
  | none => rfl
  | some o =>
    cases o with
    | none => rfl
    | some d =>
      cases d with
      | int a =>
        dsimp only
        rw [wpS_sE]
        congr
        funext d h1
        cases d <;> rfl
      | _ => rfl
theorem wpS_augA {fl : String → String → Bool} {f : String} {fo fv : SE} : wpS (augA fl f fo fv e h) Q = wp (fo e h) fun o h1 => match o with
    | .ref n => (match h1[n]? with
      | some (.ins c fs) => fl c f = true ∧ (match fs.lookup f with
        | some (.int a) => wp (fv e h1) fun d h2 => match d, h2[n]? with
          | .int b, some (.ins c' fs') => (c' = c ∧ fs'.length < 1000) ∧ Q (.nx e) (h2.set n (.ins c (putFs f (.int (a + b)) fs')))
          | _, _ => False
        | _ => False)
      | _ => False)
    | _ => False := by
  unfold augA
  rw [wpS_sE, wp_bd]
  congr
  funext o h1
  cases o with
  | ref n =>
    dsimp only
    cases h1[n]? with
    | none => rfl
    | some ob =>
      cases ob with
      | lst _ => rfl
      | dct _ => rfl
      | ins c fs =>
        dsimp only
        by_cases q : fl c f = true
        · simp only [if_pos q, q, true_and]
          cases fs.lookup f with
          | none => rfl
          | some v =>
            cases v with
            | int a =>
              simp only [if_true]
              rw [wp_bd]
              congr
              funext d h2
              cases d with
              | int b =>
                cases h2[n]? with
                | none => rfl
                | some ob2 =>
                  cases ob2 with
                  | lst _ => rfl
                  | dct _ => rfl
                  | ins c' fs' =>
                    dsimp only
                    by_cases z : c' = c ∧ fs'.length < 1000
                    · rw [if_pos z]
                      simp [z]
                    · rw [if_neg z]
                      simp [z]
              | _ => rfl
            | _ => rfl
        · simp only [if_neg q]
          simp [q]
  | _ => rfl
end
/-! ### defs -/
theorem wp_mF {len n : Nat} {f : SS} {ds : List D} {h : Hd} {Q : D → Hd → Prop} (hn : ds.length = n) (p : wpS (f (ds.map some ++ List.replicate (len - n) none) h) fun fl h' => match fl with | .nx _ => Q .non h' | .rt d => Q d h' | _ => False) : wp (mF len n f ds h) Q := by
  unfold mF
  rw [if_pos hn]
  cases q : f (ds.map some ++ List.replicate (len - n) none) h with
  | fail => rw [q] at p; exact p
  | ok fl h' =>
    rw [q] at p
    cases fl <;> first | exact p | exact p.elim
/-! ### loops -/
/-- a for over items: I of what is left, the slots, the heap -/
theorem forL_inv {src : List (Nat × Ob)} {g : TgF} {f : SS} {Q : Fl → Hd → Prop} (I : List D → Env → Hd → Prop) (hend : ∀ e h, I [] e h → srcOk src h ∧ Q (.nx e) h)
    (step : ∀ d ds e h, I (d :: ds) e h → srcOk src h ∧ ∃ e1 h1, g d e h = some (e1, h1) ∧ wpS (f e1 h1) fun fl h2 => match fl with | .nx e2 => I ds e2 h2 | .ct e2 => I ds e2 h2 | .bk e2 => Q (.nx e2) h2 | fl => Q fl h2) :
    ∀ (items : List D) (e : Env) (h : Hd), I items e h → wpS (forL src g f items e h) Q
  | [], e, h, i => by
    obtain ⟨h1, h2⟩ := hend e h i
    unfold forL
    rw [if_pos h1]
    exact h2
  | d :: ds, e, h, i => by
    obtain ⟨h1, e1, h1', h2, h3⟩ := step d ds e h i
    unfold forL
    rw [if_pos h1, h2]
    dsimp only
    cases q : f e1 h1' with
    | fail => rw [q] at h3; exact h3
    | ok fl h2' =>
      rw [q] at h3
      cases fl with
      | nx e2 => exact forL_inv I hend step ds e2 h2' h3
      | ct e2 => exact forL_inv I hend step ds e2 h2' h3
      | bk e2 => exact h3
      | rt d => exact h3
      | ex c fs e2 => exact h3
theorem wpS_for {wk : Bool} {i : SI} {g : TgF} {f : SS} {e : Env} {h : Hd} {Q : Fl → Hd → Prop} : wpS (sFor wk i g f e h) Q = wp (i e h) fun iv h1 => ¬ (iv.wk = true ∧ wk = false) ∧ wpS (forL iv.src g f iv.items e h1) Q := by
  unfold sFor
  rw [wpS_sE]
  congr
  funext iv h1
  by_cases q : iv.wk = true ∧ wk = false
  · rw [if_pos q]
    simp [q]
  · rw [if_neg q]
    simp [q]
theorem wp_itX {f : SE} {e : Env} {h : Hd} {Q : ItV → Hd → Prop} : wp (itX f e h) Q = wp (f e h) fun d h1 => match itD h1 d with | some iv => Q iv h1 | none => False := by
  unfold itX
  rw [wp_bd]
  congr
  funext d h1
  cases itD h1 d <;> rfl
theorem wp_iA {f : SA} {g : Hd → List D → Option ItV} {e : Env} {h : Hd} {Q : ItV → Hd → Prop} : wp (iA f g e h) Q = wp (f e h) fun ds h1 => match g h1 ds with | some iv => Q iv h1 | none => False := by
  unfold iA
  rw [wp_bd]
  congr
  funext d h1
  cases g h1 d <;> rfl
theorem wp_rngX {n : Nat} {f : SA} {e : Env} {h : Hd} {Q : ItV → Hd → Prop} : wp (rngX n f e h) Q = wp (f e h) fun ds h1 => match (if ds.length = n then rngD ds else none) with | some iv => Q iv h1 | none => False := wp_iA
theorem wp_zipX {f : SA} {e : Env} {h : Hd} {Q : ItV → Hd → Prop} : wp (zipX f e h) Q = wp (f e h) fun ds h1 => match zipD h1 ds with | some iv => Q iv h1 | none => False := wp_iA
theorem wp_enumX {f : SA} {e : Env} {h : Hd} {Q : ItV → Hd → Prop} : wp (enumX f e h) Q = wp (f e h) fun ds h1 => match enumD h1 ds with | some iv => Q iv h1 | none => False := wp_iA
/-! comprehensions -/
def lcStep (src : List (Nat × Ob)) (g : TgF) (t : ST) (f : SE) (e : Env) (d : D) (h : Hd) (R : Option D → Hd → Prop) : Prop := srcOk src h ∧ ∃ e1 h1, g d e h = some (e1, h1) ∧ wp (t e1 h1) fun c h2 => match c with
  | true => wp (f e1 h2) fun y h3 => R (some y) h3
  | false => R none h2
theorem lcGo_inv {src : List (Nat × Ob)} {g : TgF} {t : ST} {f : SE} {e : Env} {Q : List D → Hd → Prop} (I : List D → List D → Hd → Prop) (hend : ∀ acc h, I [] acc h → srcOk src h ∧ Q acc h)
    (step : ∀ d ds acc h, I (d :: ds) acc h → lcStep src g t f e d h fun o h' => match o with | some y => I ds (acc ++ [y]) h' | none => I ds acc h') :
    ∀ (items acc : List D) (h : Hd), I items acc h → wp (lcGo src g t f e items h) fun ys h' => Q (acc ++ ys) h'
  | [], acc, h, i => by
    obtain ⟨h1, h2⟩ := hend acc h i
    unfold lcGo
    rw [if_pos h1, wp_ok, List.append_nil]
    exact h2
  | d :: ds, acc, h, i => by
    obtain ⟨h1, e1, h1', h2, h3⟩ := step d ds acc h i
    unfold lcGo
    rw [if_pos h1, h2]
    dsimp only
    cases q : t e1 h1' with
    | fail => rw [q] at h3; exact h3.elim
    | ex _ _ _ => rw [q] at h3; exact h3.elim
    | ok c h2' =>
      rw [q] at h3
      cases c with
      | false => exact lcGo_inv I hend step ds acc h2' h3
      | true =>
        dsimp only
        cases q2 : f e1 h2' with
        | fail =>
          have h4 : wp (f e1 h2') _ := h3
          rw [q2] at h4
          exact h4.elim
        | ex _ _ _ =>
          have h4 : wp (f e1 h2') _ := h3
          rw [q2] at h4
          exact h4.elim
        | ok y h3' =>
          have h4 : wp (f e1 h2') _ := h3
          rw [q2] at h4
          have r := lcGo_inv I hend step ds (acc ++ [y]) h3' h4
          dsimp only
          cases q3 : lcGo src g t f e ds h3' with
          | fail => rw [q3] at r; exact r
          | ex _ _ _ => rw [q3] at r; exact r
          | ok ys h4' =>
            rw [q3] at r
            show Q (acc ++ y :: ys) h4'
            have r' : Q ((acc ++ [y]) ++ ys) h4' := r
            rwa [List.append_assoc] at r'
theorem wp_lcX {mu wk : Bool} {vs : List Nat} {i : SI} {g : TgF} {t : ST} {f : SE} {e : Env} {h : Hd} {Q : D → Hd → Prop} : wp (lcX mu wk vs i g t f e h) Q = wp (i e h) fun iv h1 => ¬ (iv.wk = true ∧ wk = false) ∧ wp (lcGo iv.src g t f (wipeE e vs) iv.items h1) fun ds h2 => ds.length ≤ sizeLine ∧ wp (fin mu (.l ds) h2) Q := by
  unfold lcX
  rw [wp_bd]
  congr
  funext iv h1
  by_cases q : iv.wk = true ∧ wk = false
  · rw [if_pos q]
    simp [q]
  · rw [if_neg q, wp_bd]
    simp only [q, not_false_eq_true, true_and]
    cases z : lcGo iv.src g t f (wipeE e vs) iv.items h1 with
    | fail => rfl
    | ex _ _ _ => rfl
    | ok ds h2 =>
      dsimp only [wp]
      by_cases c : ds.length ≤ sizeLine
      · rw [if_pos c]
        simp only [c, true_and]
      · rw [if_neg c]
        simp only [c, false_and]
theorem wp_dcX {mu wk : Bool} {vs : List Nat} {i : SI} {g : TgF} {t : ST} {fk fv : SE} {e : Env} {h : Hd} {Q : D → Hd → Prop} : wp (dcX mu wk vs i g t fk fv e h) Q = wp (i e h) fun iv h1 => ¬ (iv.wk = true ∧ wk = false) ∧ wp (dcGo iv.src g t fk fv (wipeE e vs) iv.items [] h1) fun ds h2 => wp (fin mu (.d ds) h2) Q := by
  unfold dcX
  rw [wp_bd]
  congr
  funext iv h1
  by_cases q : iv.wk = true ∧ wk = false
  · rw [if_pos q]
    simp [q]
  · rw [if_neg q, wp_bd]
    simp only [q, not_false_eq_true, true_and]
    cases z : dcGo iv.src g t fk fv (wipeE e vs) iv.items [] h1 with
    | fail => rfl
    | ex _ _ _ => rfl
    | ok ds h2 => rfl
/-- one that neither asks nor changes the heap: map, filter -/
theorem lcGo_pure {g : TgF} {t : ST} {f : SE} {e : Env} {h : Hd} {p : D → Bool} {y : D → D} : ∀ {items : List D}, (∀ d ∈ items, ∃ e1, g d e h = some (e1, h) ∧ t e1 h = .ok (p d) h ∧ (p d = true → f e1 h = .ok (y d) h)) → lcGo [] g t f e items h = .ok ((items.filter p).map y) h
  | [], _ => by
    unfold lcGo
    rw [if_pos (srcOk_nil h)]
    rfl
  | d :: ds, hk => by
    obtain ⟨e1, h1, h2, h3⟩ := hk d (List.mem_cons_self ..)
    have r := lcGo_pure (items := ds) fun d' m => hk d' (List.mem_cons_of_mem _ m)
    unfold lcGo
    rw [if_pos (srcOk_nil h), h1]
    dsimp only
    rw [h2]
    cases q : p d with
    | false =>
      dsimp only
      rw [r, List.filter_cons_of_neg (by simp [q])]
    | true =>
      dsimp only
      rw [h3 q]
      dsimp only
      rw [r, List.filter_cons_of_pos q]
      rfl
theorem sizeLine_val : sizeLine = 16777216 := rfl
theorem nwk_f {p : Prop} : (¬ (false = true ∧ p)) = True := by simp
theorem nwk_t : (¬ (true = true ∧ true = false)) = True := by simp
/-- all rules -/
def wps := And.intro @sizeLine_val <| And.intro @nwk_f <| And.intro @nwk_t <| And.intro @true_and <| And.intro @wp_cX (And.intro @wp_vX (And.intro @wp_aNil (And.intro @wp_aCons (And.intro @wp_lf (And.intro @wp_finV (And.intro @wp_finL0 (And.intro @wp_finL1 (And.intro @wp_finD0 (And.intro @wp_finD1 (And.intro @wp_tupX (And.intro @wp_lstX (And.intro @wp_binX (And.intro @wp_cmpX (And.intro @wp_idxX (And.intro @wp_chnX (And.intro @wp_negX (And.intro @wp_notX (And.intro @wp_andX (And.intro @wp_orX (And.intro @wp_tru (And.intro @wp_notT (And.intro @wp_andT (And.intro @wp_orT (And.intro @wp_ifX (And.intro @wp_oNone (And.intro @wp_oSome (And.intro @wp_slcX (And.intro @wp_bltX (And.intro @wp_callX (And.intro @wp_attX (And.intro @wp_mthX (And.intro @wp_fmtX (And.intro @wp_jsNil (And.intro @wp_jsCons (And.intro @wp_dct0 (And.intro @wp_itX (And.intro @wp_rngX (And.intro @wp_zipX (And.intro @wp_enumX (And.intro @wp_pu (And.intro @wp_ok (And.intro @wp_lcX (And.intro @wp_dcX (And.intro @wpS_nil (And.intro @wpS_cons (And.intro @nxt_nx (And.intro @nxt_rt (And.intro @nxt_bk (And.intro @nxt_ct (And.intro @wpS_ret (And.intro @wpS_retN (And.intro @wpS_pass (And.intro @wpS_brk (And.intro @wpS_cnt (And.intro @wpS_exp (And.intro @wpS_failS (And.intro @wpS_if (And.intro @wpS_asgN (And.intro @wpS_asgT (And.intro @wpS_asgI (And.intro @wpS_par (And.intro @wpS_par3 (And.intro @wpS_att (And.intro @wpS_augN (And.intro @wpS_augA (@wpS_for))))))))))))))))))))))))))))))))))))))))))))))))))))))))))))))))))
def lsx := And.intro (@List.getElem?_cons_succ (Option D)) (And.intro (@List.getElem?_cons_zero (Option D)) (And.intro (@List.set_cons_succ (Option D)) (And.intro (@List.set_cons_zero (Option D)) (And.intro (@List.length_cons (Option D)) (And.intro (@List.length_nil (Option D)) (And.intro (@List.getElem?_cons_succ D) (And.intro (@List.getElem?_cons_zero D) (And.intro (@List.set_cons_succ D) (And.intro (@List.set_cons_zero D) (And.intro (@List.length_cons D) (And.intro (@List.length_nil D) (And.intro (@List.getElem?_cons_succ Ob) (And.intro (@List.getElem?_cons_zero Ob) (And.intro (@List.set_cons_succ Ob) (And.intro (@List.set_cons_zero Ob) (And.intro (@List.length_cons Ob) (And.intro (@List.length_nil Ob) (And.intro (@List.map_cons D (Option D)) (And.intro (@List.map_nil D (Option D)) (And.intro (@List.cons_append (Option D)) ((@List.nil_append (Option D)))))))))))))))))))))))
/-- what stands on but for some -/
structure Fr (A : List Nat) (h h' : Hd) : Prop where
  at_ : ∀ k o, h[k]? = some o → k ∉ A → h'[k]? = some o
  len : h.length ≤ h'.length
theorem Fr.refl {A : List Nat} {h : Hd} : Fr A h h := ⟨fun _ _ e _ => e, Nat.le_refl _⟩
theorem Fr.trans {A : List Nat} {h h1 h2 : Hd} (x : Fr A h h1) (y : Fr A h1 h2) : Fr A h h2 := ⟨fun k o e n => y.at_ k o (x.at_ k o e n) n, Nat.le_trans x.len y.len⟩
theorem Fr.mono {A B : List Nat} {h h' : Hd} (x : Fr A h h') (s : ∀ k ∈ A, k ∈ B) : Fr B h h' := ⟨fun k o e n => x.at_ k o e fun m => n (s k m), x.len⟩
theorem Fr.set {A : List Nat} {h h' : Hd} {n : Nat} {o : Ob} (x : Fr A h h') (m : n ∈ A) : Fr A h (h'.set n o) :=
  ⟨fun k p e nk => by
    rw [List.getElem?_set_ne fun z => nk (by rw [← z]; exact m)]
    exact x.at_ k p e nk, by rw [List.length_set]; exact x.len⟩
theorem Fr.app {A : List Nat} {h h' : Hd} {o : Ob} (x : Fr A h h') : Fr A h (h' ++ [o]) :=
  ⟨fun k p e nk => by
    have q := x.at_ k p e nk
    rw [List.getElem?_append_left (List.getElem?_eq_some_iff.mp q).1]
    exact q, by rw [List.length_append]; exact Nat.le_trans x.len (Nat.le_add_right _ _)⟩
theorem set_at {h : Hd} {n : Nat} {o p : Ob} (e : h[n]? = some p) : (h.set n o)[n]? = some o := List.getElem?_set_self (List.getElem?_eq_some_iff.mp e).1
theorem set_out {h : Hd} {n k : Nat} {o : Ob} (ne : n ≠ k) : (h.set n o)[k]? = h[k]? := List.getElem?_set_ne ne
/-! ### items, lengths, comparisons of what is known -/
theorem atI_nat {α : Type} (xs : List α) (k : Nat) : atI xs (k : Int) = xs[k]? := by
  unfold atI ixN
  by_cases c : k < xs.length
  · rw [if_pos (by omega), if_pos (by omega)]
    simp
  · rw [if_pos (by omega), if_neg (by omega)]
    rw [List.getElem?_eq_none (by omega)]
    rfl
theorem atI_pos {α : Type} {xs : List α} {i : Int} (h : 0 ≤ i) : atI xs i = xs[i.toNat]? := by
  obtain ⟨k, rfl⟩ := Int.eq_ofNat_of_zero_le h
  exact atI_nat xs k
theorem atI_0 {α : Type} (xs : List α) : atI xs 0 = xs[0]? := atI_nat xs 0
theorem atI_1 {α : Type} (xs : List α) : atI xs 1 = xs[1]? := atI_nat xs 1
theorem atI_2 {α : Type} (xs : List α) : atI xs 2 = xs[2]? := atI_nat xs 2
theorem atI_3 {α : Type} (xs : List α) : atI xs 3 = xs[3]? := atI_nat xs 3
theorem atI_4 {α : Type} (xs : List α) : atI xs 4 = xs[4]? := atI_nat xs 4
theorem atI_5 {α : Type} (xs : List α) : atI xs 5 = xs[5]? := atI_nat xs 5
def atIs := And.intro (@atI_0 D) (And.intro (@atI_1 D) (And.intro (@atI_2 D) (And.intro (@atI_3 D) (And.intro (@atI_4 D) (@atI_5 D)))))
section
variable {h : Hd} {n : Nat} {xs : List D} {i : Int}
theorem idx_ref (e : h[n]? = some (.lst xs)) : idxD h (.ref n) (.int i) = (atI xs i).map Res.v := by simp [idxD, asS, asL, e]
theorem idx_lst : idxD h (.lst xs) (.int i) = (atI xs i).map Res.v := by simp [idxD, asS, asL]
theorem idx_tup : idxD h (.tup xs) (.int i) = (atI xs i).map Res.v := by simp [idxD, asS]
theorem rs_ref (e : h[n]? = some (.lst xs)) : rs h (.ref n) = .lst xs := by simp [rs, e]
theorem sto_ref {k : Nat} {d : D} (e : h[n]? = some (.lst xs)) (hk : k < xs.length) : stoD (.ref n) (.int (k : Int)) d h = some (h.set n (.lst (xs.set k d))) := by
  have q : ixN xs.length (k : Int) = some k := by
    unfold ixN
    rw [if_pos (by omega), if_pos (by omega)]
    simp
  simp [stoD, e, q]
theorem sto_int {d : D} (e : h[n]? = some (.lst xs)) (h0 : 0 ≤ i) (h1 : i < xs.length) : stoD (.ref n) (.int i) d h = some (h.set n (.lst (xs.set i.toNat d))) := by
  obtain ⟨k, rfl⟩ := Int.eq_ofNat_of_zero_le h0
  exact sto_ref e (by omega)
theorem pop_first {x : D} (e : h[n]? = some (.lst (x :: xs))) : popM (.ref n) [.int 0] h = .ok x (h.set n (.lst xs)) := by
  have q : seqIndex? 0 (x :: xs).length = some 0 := by
    unfold seqIndex?
    simp
  simp only [popM, onL, e, asI]
  rw [if_pos (by omega), q]
  rfl
theorem selM_pop (e : h[n]? = some (.lst xs)) : selM "pop" h (.ref n) = some .pop := by
  unfold selM
  have : kdOf h (.ref n) = .lst := by simp [kdOf, e]
  rw [this]
  rfl
theorem len_lst {tb : MTab} : lenM tb [.lst xs] h = .ok (.int xs.length) h := by
  unfold lenM
  simp [isObj, asIns, lenD, asS, asL, lf]
theorem len_tup {tb : MTab} : lenM tb [.tup xs] h = .ok (.int xs.length) h := by
  unfold lenM
  simp [isObj, asIns, lenD, asS, lf]
theorem len_ref {tb : MTab} (e : h[n]? = some (.lst xs)) : lenM tb [.ref n] h = .ok (.int xs.length) h := by
  unfold lenM
  simp [isObj, asIns, lenD, asS, asL, lf, e]
theorem len_str {tb : MTab} {x : Str} (z : x.length ≤ sizeLine) : lenM tb [.str x] h = .ok (.int x.length) h := by
  unfold lenM
  simp [isObj, asIns, lenD, asS, asL, lf, z]
theorem kd_lst (e : h[n]? = some (.lst xs)) : kdOf h (.ref n) = .lst := by simp [kdOf, e]
theorem asIns_lst (e : h[n]? = some (.lst xs)) : asIns h (.ref n) = none := by simp [asIns, e]
end
/-! ### equality of what is known -/
theorem rs_int {h : Hd} {i : Int} : rs h (.int i) = .int i := rfl
theorem rs_str {h : Hd} {i : Str} : rs h (.str i) = .str i := rfl
theorem rs_bl {h : Hd} {i : Bool} : rs h (.bl i) = .bl i := rfl
theorem rs_non {h : Hd} : rs h .non = .non := rfl
theorem rs_lst {h : Hd} {xs : List D} : rs h (.lst xs) = .lst xs := rfl
theorem rs_tup {h : Hd} {xs : List D} : rs h (.tup xs) = .tup xs := rfl
theorem eqD_int {n : Nat} {a b : Int} : eqD (n + 1) (.int a) (.int b) = some (a == b) := rfl
theorem eqD_str {n : Nat} {a b : Str} : eqD (n + 1) (.str a) (.str b) = some (a == b) := rfl
theorem eqD_bl {n : Nat} {a b : Bool} : eqD (n + 1) (.bl a) (.bl b) = some (a == b) := rfl
theorem eqD_non {n : Nat} : eqD (n + 1) .non .non = some true := rfl
theorem eqD_lst {n : Nat} {xs ys : List D} : eqD (n + 1) (.lst xs) (.lst ys) = eqLs (eqD n) xs ys := rfl
theorem eqD_tup {n : Nat} {xs ys : List D} : eqD (n + 1) (.tup xs) (.tup ys) = eqLs (eqD n) xs ys := rfl
theorem eqLs_nil {f : D → D → Option Bool} : eqLs f [] [] = some true := rfl
theorem eqLs_l {f : D → D → Option Bool} {x : D} {xs : List D} : eqLs f (x :: xs) [] = some false := rfl
theorem eqLs_r {f : D → D → Option Bool} {x : D} {xs : List D} : eqLs f [] (x :: xs) = some false := rfl
/-! of one kind, all the way down: no truth beside a number, nothing odd -/
mutual
inductive Pl : Nat → D → Prop
  | non {n : Nat} : Pl (n + 1) .non
  | bl {n : Nat} (b : Bool) : Pl (n + 1) (.bl b)
  | int {n : Nat} (i : Int) : Pl (n + 1) (.int i)
  | str {n : Nat} (x : Str) : Pl (n + 1) (.str x)
  | tup {n : Nat} {xs : List D} : xs.length ≤ sizeLine → Pls n xs → Pl (n + 1) (.tup xs)
  | lst {n : Nat} {xs : List D} : xs.length ≤ sizeLine → Pls n xs → Pl (n + 1) (.lst xs)
inductive Pls : Nat → List D → Prop
  | nil {n : Nat} : Pls n []
  | cons {n : Nat} {x : D} {xs : List D} : Pl n x → Pls n xs → Pls n (x :: xs)
end
theorem Pls.of {n : Nat} : ∀ {xs : List D}, (∀ x ∈ xs, Pl n x) → Pls n xs
  | [], _ => .nil
  | x :: xs, k => .cons (k x (List.mem_cons_self ..)) (Pls.of fun y m => k y (List.mem_cons_of_mem _ m))
theorem Pls.at_ {n : Nat} : ∀ {xs : List D}, Pls n xs → ∀ x ∈ xs, Pl n x
  | _, .cons p q, x, m => by
    rcases List.mem_cons.mp m with e | m
    · rw [e]; exact p
    · exact q.at_ x m
/-- a thing equals itself -/
theorem eqLs_self {f : D → D → Option Bool} : ∀ {xs : List D}, (∀ x ∈ xs, f x x = some true) → eqLs f xs xs = some true
  | [], _ => rfl
  | x :: xs, k => by
    unfold eqLs
    rw [k x (List.mem_cons_self ..), eqLs_self fun y m => k y (List.mem_cons_of_mem _ m)]
    rfl
theorem eqD_self : ∀ {n : Nat} {d : D}, Pl n d → eqD n d d = some true
  | _, _, .non => rfl
  | _, _, .bl b => by rw [eqD_bl, beq_self_eq_true]
  | _, _, .int i => by rw [eqD_int, beq_self_eq_true]
  | _, _, .str x => by rw [eqD_str, beq_self_eq_true]
  | _, _, @Pl.tup n xs z p => by rw [eqD_tup]; exact eqLs_self fun x m => eqD_self (p.at_ x m)
  | _, _, @Pl.lst n xs z p => by rw [eqD_lst]; exact eqLs_self fun x m => eqD_self (p.at_ x m)
mutual
theorem Pl.up {n m : Nat} (l : n ≤ m) : ∀ {d : D}, Pl n d → Pl m d
  | _, .non => by obtain ⟨k, rfl⟩ : ∃ k, m = k + 1 := ⟨m - 1, by omega⟩; exact .non
  | _, .bl b => by obtain ⟨k, rfl⟩ : ∃ k, m = k + 1 := ⟨m - 1, by omega⟩; exact .bl b
  | _, .int b => by obtain ⟨k, rfl⟩ : ∃ k, m = k + 1 := ⟨m - 1, by omega⟩; exact .int b
  | _, .str b => by obtain ⟨k, rfl⟩ : ∃ k, m = k + 1 := ⟨m - 1, by omega⟩; exact .str b
  | _, .tup z p => by obtain ⟨k, rfl⟩ : ∃ k, m = k + 1 := ⟨m - 1, by omega⟩; exact .tup z (p.up (by omega))
  | _, .lst z p => by obtain ⟨k, rfl⟩ : ∃ k, m = k + 1 := ⟨m - 1, by omega⟩; exact .lst z (p.up (by omega))
theorem Pls.up {n m : Nat} (l : n ≤ m) : ∀ {d : List D}, Pls n d → Pls m d
  | _, .nil => .nil
  | _, .cons p q => .cons (p.up l) (q.up l)
end
/-- comparisons of what is known -/
def eqs := And.intro @rs_int (And.intro @rs_str (And.intro @rs_bl (And.intro @rs_non (And.intro @rs_lst (And.intro @rs_tup (And.intro @eqD_int (And.intro @eqD_str (And.intro @eqD_bl (And.intro @eqD_non (And.intro @eqLs_nil (And.intro @eqLs_l @eqLs_r)))))))))))
/-! ### reckoning -/
section
variable {h : Hd} {a b : Int}
theorem bin_add : binD .Add h (.int a) (.int b) = some (.v (.int (a + b))) := rfl
theorem bin_sub : binD .Sub h (.int a) (.int b) = some (.v (.int (a - b))) := rfl
theorem bin_mul (c : (-(2 ^ 64) < a ∧ a < 2 ^ 64) ∨ (-(2 ^ 64) < b ∧ b < 2 ^ 64)) : binD .Mult h (.int a) (.int b) = some (.v (.int (a * b))) := if_pos c
theorem bin_mulA (c1 : -(2 ^ 64) < a) (c2 : a < 2 ^ 64) : binD .Mult h (.int a) (.int b) = some (.v (.int (a * b))) := bin_mul (.inl ⟨c1, c2⟩)
theorem bin_mulB (c1 : -(2 ^ 64) < b) (c2 : b < 2 ^ 64) : binD .Mult h (.int a) (.int b) = some (.v (.int (a * b))) := bin_mul (.inr ⟨c1, c2⟩)
theorem bin_mod (c : 0 < b) : binD .Mod h (.int a) (.int b) = some (.v (.int (a % b))) := if_pos c
theorem bin_div (c1 : 0 < b) (c2 : b < 1073741824) : binD .FloorDiv h (.int a) (.int b) = some (.v (.int (a / b))) := if_pos ⟨c1, c2⟩
theorem bin_pow (c1 : 0 ≤ b) (c2 : b ≤ 1000000) (c3 : a.natAbs < 2 ^ 64) : binD .Pow h (.int a) (.int b) = some (.v (.int (a ^ b.toNat))) := if_pos ⟨c1, c2, c3⟩
theorem bin_cat {xs ys : List D} (z : xs.length + ys.length ≤ sizeLine) : binD .Add h (.lst xs) (.lst ys) = some (.l (xs ++ ys)) := by simp [binD, asL, z]
theorem bin_catR {xs ys : List D} {n : Nat} (e : h[n]? = some (.lst ys)) (z : xs.length + ys.length ≤ sizeLine) : binD .Add h (.lst xs) (.ref n) = some (.l (xs ++ ys)) := by simp [binD, asL, e, z]
theorem bin_catL {xs ys : List D} {n : Nat} (e : h[n]? = some (.lst xs)) (z : xs.length + ys.length ≤ sizeLine) : binD .Add h (.ref n) (.lst ys) = some (.l (xs ++ ys)) := by simp [binD, asL, e, z]
theorem bin_catT {xs ys : List D} (z : xs.length + ys.length ≤ sizeLine) : binD .Add h (.tup xs) (.tup ys) = some (.v (.tup (xs ++ ys))) := if_pos z
theorem bin_catS {xs ys : Str} (z : xs.length + ys.length ≤ sizeLine) : binD .Add h (.str xs) (.str ys) = some (.v (.str (xs ++ ys))) := if_pos z
theorem cmp_lt : cmpB .Lt h (.int a) (.int b) = some (decide (a < b)) := rfl
theorem cmp_le : cmpB .LtE h (.int a) (.int b) = some (decide (a ≤ b)) := rfl
theorem cmp_gt : cmpB .Gt h (.int a) (.int b) = some (decide (b < a)) := rfl
theorem cmp_ge : cmpB .GtE h (.int a) (.int b) = some (decide (b ≤ a)) := rfl
theorem cmp_ltS {x y : Str} : cmpB .Lt h (.str x) (.str y) = some (strLt x y) := rfl
theorem cmp_leS {x y : Str} : cmpB .LtE h (.str x) (.str y) = some (!strLt y x) := rfl
theorem cmp_gtS {x y : Str} : cmpB .Gt h (.str x) (.str y) = some (strLt y x) := rfl
theorem cmp_geS {x y : Str} : cmpB .GtE h (.str x) (.str y) = some (!strLt x y) := rfl
theorem cmp_eq {x y : D} : cmpB .Eq h x y = eqD (39 + 1) (rs h x) (rs h y) := rfl
theorem cmp_ne {x y : D} : cmpB .NotEq h x y = (eqD (39 + 1) (rs h x) (rs h y)).map fun c => !c := rfl
theorem cmp_is {x : D} : cmpB .Is h x .non = some (isNon x) := rfl
theorem cmp_isnt {x : D} : cmpB .IsNot h x .non = some (!isNon x) := rfl
theorem cmp_in {x y : D} : cmpB .In h x y = inD h x y := rfl
theorem cmp_nin {x y : D} : cmpB .NotIn h x y = (inD h x y).map fun c => !c := rfl
theorem tru_bl {b : Bool} : truD h (.bl b) = some b := rfl
end
def cmps := And.intro @cmp_lt (And.intro @cmp_le (And.intro @cmp_gt (And.intro @cmp_ge (And.intro @cmp_ltS (And.intro @cmp_leS (And.intro @cmp_gtS (And.intro @cmp_geS (And.intro @cmp_eq (And.intro @cmp_ne (And.intro @cmp_is (And.intro @cmp_isnt (And.intro @cmp_in (And.intro @cmp_nin (And.intro @tru_bl (And.intro @bin_add @bin_sub)))))))))))))))
def opt := And.intro (@Option.map_some D Res) (And.intro (@Option.map_none D Res) (And.intro (@Option.map_some Bool Bool) (And.intro (@Option.map_none Bool Bool) (And.intro (@Option.map_some Bool Res) (@Option.map_none Bool Res)))))
/-! ### comprehensions that leave the heap -/
theorem wp_is {α : Type} {o : Out α} {x : α} {h : Hd} (p : wp o fun d h' => d = x ∧ h' = h) : o = .ok x h := by
  cases o with
  | ok d h' => obtain ⟨rfl, rfl⟩ := p; rfl
  | fail => exact p.elim
  | ex _ _ _ => exact p.elim
theorem lcGo_map {α : Type} {src : List (Nat × Ob)} {g : TgF} {t : ST} {f : SE} {e : Env} {h : Hd} (enc : α → D) (p : α → Bool) (y : α → D) (ok : srcOk src h) : ∀ (xs : List α), (∀ a ∈ xs, ∃ e1, g (enc a) e h = some (e1, h) ∧ (wp (t e1 h) fun c h' => c = p a ∧ h' = h) ∧ (p a = true → wp (f e1 h) fun d h' => d = y a ∧ h' = h)) → lcGo src g t f e (xs.map enc) h = .ok ((xs.filter p).map y) h
  | [], _ => by
    rw [List.map_nil]
    unfold lcGo
    rw [if_pos ok]
    rfl
  | a :: xs, hk => by
    obtain ⟨e1, h1, h2, h3⟩ := hk a (List.mem_cons_self ..)
    have r := lcGo_map enc p y ok xs fun d' m => hk d' (List.mem_cons_of_mem _ m)
    rw [List.map_cons]
    unfold lcGo
    rw [if_pos ok, h1]
    dsimp only
    rw [wp_is h2]
    cases q : p a with
    | false =>
      dsimp only
      rw [r, List.filter_cons_of_neg (by simp [q])]
    | true =>
      dsimp only
      rw [wp_is (h3 q)]
      dsimp only
      rw [r, List.filter_cons_of_pos q]
      rfl
/-- the same without an if -/
theorem lcGo_all {α : Type} {src : List (Nat × Ob)} {g : TgF} {f : SE} {e : Env} {h : Hd} (enc : α → D) (y : α → D) (ok : srcOk src h) (xs : List α) (k : ∀ a ∈ xs, ∃ e1, g (enc a) e h = some (e1, h) ∧ wp (f e1 h) fun d h' => d = y a ∧ h' = h) : lcGo src g (fun _ => pu true) f e (xs.map enc) h = .ok (xs.map y) h := by
  have r := lcGo_map (t := fun _ => pu true) enc (fun _ => true) y ok xs fun a m => by
    obtain ⟨e1, h1, h2⟩ := k a m
    exact ⟨e1, h1, ⟨rfl, rfl⟩, fun _ => h2⟩
  rw [List.filter_eq_self.mpr (fun _ _ => rfl)] at r
  exact r
theorem cutD_take (xs : List D) (k : Nat) : cutD xs none (some (k : Int)) = xs.take k := by
  unfold cutD
  rw [HT.sIx_none, HT.sIx_nat, List.drop_zero, Nat.sub_zero]
  by_cases c : k ≤ xs.length
  · rw [Nat.min_eq_left c]
  · rw [Nat.min_eq_right (by omega), List.take_length, List.take_of_length_le (by omega)]
theorem cutD_drop (xs : List D) (k : Nat) : cutD xs (some (k : Int)) none = xs.drop k := by
  unfold cutD
  rw [HT.sIx_none, HT.sIx_nat]
  by_cases c : k ≤ xs.length
  · rw [Nat.min_eq_left c, List.take_of_length_le (by rw [List.length_drop]; omega)]
  · rw [Nat.min_eq_right (by omega), Nat.sub_self, List.take_zero, List.drop_eq_nil_of_le (by omega)]
theorem itD_lst {h : Hd} {xs : List D} : itD h (.lst xs) = some ⟨xs, [], false⟩ := rfl
theorem itD_tup {h : Hd} {xs : List D} : itD h (.tup xs) = some ⟨xs, [], false⟩ := rfl
theorem itD_ref {h : Hd} {n : Nat} {xs : List D} (e : h[n]? = some (.lst xs)) : itD h (.ref n) = some ⟨xs, [(n, .lst xs)], false⟩ := by simp [itD, asS, asL, srcD, e]
theorem sl_scr {h : Hd} {ns : List Int} {lo hi : Option Int} : slcD h (.scr ns) lo hi = some (.l (cutD (ns.map D.int) lo hi)) := rfl
theorem sl_lst {h : Hd} {xs : List D} {lo hi : Option Int} : slcD h (.lst xs) lo hi = some (.l (cutD xs lo hi)) := rfl
theorem sl_tup {h : Hd} {xs : List D} {lo hi : Option Int} : slcD h (.tup xs) lo hi = some (.v (.tup (cutD xs lo hi))) := rfl
theorem abs_int {h : Hd} {i : Int} : absD h [.int i] = some (.v (.int i.natAbs)) := rfl
theorem app_last {h : Hd} {o : Ob} : (h ++ [o])[h.length]? = some o := by simp
theorem app_last2 {h : Hd} {o p : Ob} : (h ++ [o] ++ [p])[h.length + 1]? = some p := by simp
/-! ### isinstance -/
theorem isi_of {h : Hd} {d : D} {t n : String} {b : Bool} (e : tyN h d = some t) (m : n ∈ tyAll) (hb : isB t n = b) : isiD h [d, .ty n] = some (.v (.bl b)) := by
  subst hb
  simp [isiD, isOne, e, m, blR]
theorem isi_ofT {h : Hd} {d : D} {t : String} {b : Bool} (e : tyN h d = some t) (hb : (isB t "tuple" || isB t "list") = b) : isiD h [d, .tup [.ty "tuple", .ty "list"]] = some (.v (.bl b)) := by
  have m1 : "tuple" ∈ tyAll := by decide
  have m2 : "list" ∈ tyAll := by decide
  simp only [isiD, e, isAny, isOne, m1, m2, if_true, blR]
  cases q : isB t "tuple" with
  | true => rw [q] at hb; subst hb; rfl
  | false =>
    rw [q] at hb
    simp only [Bool.false_or] at hb
    subst hb
    cases isB t "list" <;> rfl
theorem isi_non_int {h : Hd}  : isiD h [.non, .ty "int"] = some (.v (.bl false)) := isi_of rfl (by decide) (by decide)
theorem isi_non_str {h : Hd}  : isiD h [.non, .ty "str"] = some (.v (.bl false)) := isi_of rfl (by decide) (by decide)
theorem isi_non_bool {h : Hd}  : isiD h [.non, .ty "bool"] = some (.v (.bl false)) := isi_of rfl (by decide) (by decide)
theorem isi_non_tuple {h : Hd}  : isiD h [.non, .ty "tuple"] = some (.v (.bl false)) := isi_of rfl (by decide) (by decide)
theorem isi_non_list {h : Hd}  : isiD h [.non, .ty "list"] = some (.v (.bl false)) := isi_of rfl (by decide) (by decide)
theorem isi_non_dict {h : Hd}  : isiD h [.non, .ty "dict"] = some (.v (.bl false)) := isi_of rfl (by decide) (by decide)
theorem isi_non_tl {h : Hd}  : isiD h [.non, .tup [.ty "tuple", .ty "list"]] = some (.v (.bl false)) := isi_ofT rfl (by decide)
theorem isi_bl_int {h : Hd} {b : Bool} : isiD h [(.bl b), .ty "int"] = some (.v (.bl true)) := isi_of rfl (by decide) (by decide)
theorem isi_bl_str {h : Hd} {b : Bool} : isiD h [(.bl b), .ty "str"] = some (.v (.bl false)) := isi_of rfl (by decide) (by decide)
theorem isi_bl_bool {h : Hd} {b : Bool} : isiD h [(.bl b), .ty "bool"] = some (.v (.bl true)) := isi_of rfl (by decide) (by decide)
theorem isi_bl_tuple {h : Hd} {b : Bool} : isiD h [(.bl b), .ty "tuple"] = some (.v (.bl false)) := isi_of rfl (by decide) (by decide)
theorem isi_bl_list {h : Hd} {b : Bool} : isiD h [(.bl b), .ty "list"] = some (.v (.bl false)) := isi_of rfl (by decide) (by decide)
theorem isi_bl_dict {h : Hd} {b : Bool} : isiD h [(.bl b), .ty "dict"] = some (.v (.bl false)) := isi_of rfl (by decide) (by decide)
theorem isi_bl_tl {h : Hd} {b : Bool} : isiD h [(.bl b), .tup [.ty "tuple", .ty "list"]] = some (.v (.bl false)) := isi_ofT rfl (by decide)
theorem isi_int_int {h : Hd} {i : Int} : isiD h [(.int i), .ty "int"] = some (.v (.bl true)) := isi_of rfl (by decide) (by decide)
theorem isi_int_str {h : Hd} {i : Int} : isiD h [(.int i), .ty "str"] = some (.v (.bl false)) := isi_of rfl (by decide) (by decide)
theorem isi_int_bool {h : Hd} {i : Int} : isiD h [(.int i), .ty "bool"] = some (.v (.bl false)) := isi_of rfl (by decide) (by decide)
theorem isi_int_tuple {h : Hd} {i : Int} : isiD h [(.int i), .ty "tuple"] = some (.v (.bl false)) := isi_of rfl (by decide) (by decide)
theorem isi_int_list {h : Hd} {i : Int} : isiD h [(.int i), .ty "list"] = some (.v (.bl false)) := isi_of rfl (by decide) (by decide)
theorem isi_int_dict {h : Hd} {i : Int} : isiD h [(.int i), .ty "dict"] = some (.v (.bl false)) := isi_of rfl (by decide) (by decide)
theorem isi_int_tl {h : Hd} {i : Int} : isiD h [(.int i), .tup [.ty "tuple", .ty "list"]] = some (.v (.bl false)) := isi_ofT rfl (by decide)
theorem isi_str_int {h : Hd} {x : Str} : isiD h [(.str x), .ty "int"] = some (.v (.bl false)) := isi_of rfl (by decide) (by decide)
theorem isi_str_str {h : Hd} {x : Str} : isiD h [(.str x), .ty "str"] = some (.v (.bl true)) := isi_of rfl (by decide) (by decide)
theorem isi_str_bool {h : Hd} {x : Str} : isiD h [(.str x), .ty "bool"] = some (.v (.bl false)) := isi_of rfl (by decide) (by decide)
theorem isi_str_tuple {h : Hd} {x : Str} : isiD h [(.str x), .ty "tuple"] = some (.v (.bl false)) := isi_of rfl (by decide) (by decide)
theorem isi_str_list {h : Hd} {x : Str} : isiD h [(.str x), .ty "list"] = some (.v (.bl false)) := isi_of rfl (by decide) (by decide)
theorem isi_str_dict {h : Hd} {x : Str} : isiD h [(.str x), .ty "dict"] = some (.v (.bl false)) := isi_of rfl (by decide) (by decide)
theorem isi_str_tl {h : Hd} {x : Str} : isiD h [(.str x), .tup [.ty "tuple", .ty "list"]] = some (.v (.bl false)) := isi_ofT rfl (by decide)
theorem isi_tup_int {h : Hd} {xs : List D} : isiD h [(.tup xs), .ty "int"] = some (.v (.bl false)) := isi_of rfl (by decide) (by decide)
theorem isi_tup_str {h : Hd} {xs : List D} : isiD h [(.tup xs), .ty "str"] = some (.v (.bl false)) := isi_of rfl (by decide) (by decide)
theorem isi_tup_bool {h : Hd} {xs : List D} : isiD h [(.tup xs), .ty "bool"] = some (.v (.bl false)) := isi_of rfl (by decide) (by decide)
theorem isi_tup_tuple {h : Hd} {xs : List D} : isiD h [(.tup xs), .ty "tuple"] = some (.v (.bl true)) := isi_of rfl (by decide) (by decide)
theorem isi_tup_list {h : Hd} {xs : List D} : isiD h [(.tup xs), .ty "list"] = some (.v (.bl false)) := isi_of rfl (by decide) (by decide)
theorem isi_tup_dict {h : Hd} {xs : List D} : isiD h [(.tup xs), .ty "dict"] = some (.v (.bl false)) := isi_of rfl (by decide) (by decide)
theorem isi_tup_tl {h : Hd} {xs : List D} : isiD h [(.tup xs), .tup [.ty "tuple", .ty "list"]] = some (.v (.bl true)) := isi_ofT rfl (by decide)
theorem isi_lst_int {h : Hd} {xs : List D} : isiD h [(.lst xs), .ty "int"] = some (.v (.bl false)) := isi_of rfl (by decide) (by decide)
theorem isi_lst_str {h : Hd} {xs : List D} : isiD h [(.lst xs), .ty "str"] = some (.v (.bl false)) := isi_of rfl (by decide) (by decide)
theorem isi_lst_bool {h : Hd} {xs : List D} : isiD h [(.lst xs), .ty "bool"] = some (.v (.bl false)) := isi_of rfl (by decide) (by decide)
theorem isi_lst_tuple {h : Hd} {xs : List D} : isiD h [(.lst xs), .ty "tuple"] = some (.v (.bl false)) := isi_of rfl (by decide) (by decide)
theorem isi_lst_list {h : Hd} {xs : List D} : isiD h [(.lst xs), .ty "list"] = some (.v (.bl true)) := isi_of rfl (by decide) (by decide)
theorem isi_lst_dict {h : Hd} {xs : List D} : isiD h [(.lst xs), .ty "dict"] = some (.v (.bl false)) := isi_of rfl (by decide) (by decide)
theorem isi_lst_tl {h : Hd} {xs : List D} : isiD h [(.lst xs), .tup [.ty "tuple", .ty "list"]] = some (.v (.bl true)) := isi_ofT rfl (by decide)
theorem isi_dct_int {h : Hd} {xs : List (Key × D)} : isiD h [(.dct xs), .ty "int"] = some (.v (.bl false)) := isi_of rfl (by decide) (by decide)
theorem isi_dct_str {h : Hd} {xs : List (Key × D)} : isiD h [(.dct xs), .ty "str"] = some (.v (.bl false)) := isi_of rfl (by decide) (by decide)
theorem isi_dct_bool {h : Hd} {xs : List (Key × D)} : isiD h [(.dct xs), .ty "bool"] = some (.v (.bl false)) := isi_of rfl (by decide) (by decide)
theorem isi_dct_tuple {h : Hd} {xs : List (Key × D)} : isiD h [(.dct xs), .ty "tuple"] = some (.v (.bl false)) := isi_of rfl (by decide) (by decide)
theorem isi_dct_list {h : Hd} {xs : List (Key × D)} : isiD h [(.dct xs), .ty "list"] = some (.v (.bl false)) := isi_of rfl (by decide) (by decide)
theorem isi_dct_dict {h : Hd} {xs : List (Key × D)} : isiD h [(.dct xs), .ty "dict"] = some (.v (.bl true)) := isi_of rfl (by decide) (by decide)
theorem isi_dct_tl {h : Hd} {xs : List (Key × D)} : isiD h [(.dct xs), .tup [.ty "tuple", .ty "list"]] = some (.v (.bl false)) := isi_ofT rfl (by decide)
def isis := And.intro @isi_non_int <| And.intro @isi_non_str <| And.intro @isi_non_bool <| And.intro @isi_non_tuple <| And.intro @isi_non_list <| And.intro @isi_non_dict <| And.intro @isi_non_tl <| And.intro @isi_bl_int <| And.intro @isi_bl_str <| And.intro @isi_bl_bool <| And.intro @isi_bl_tuple <| And.intro @isi_bl_list <| And.intro @isi_bl_dict <| And.intro @isi_bl_tl <| And.intro @isi_int_int <| And.intro @isi_int_str <| And.intro @isi_int_bool <| And.intro @isi_int_tuple <| And.intro @isi_int_list <| And.intro @isi_int_dict <| And.intro @isi_int_tl <| And.intro @isi_str_int <| And.intro @isi_str_str <| And.intro @isi_str_bool <| And.intro @isi_str_tuple <| And.intro @isi_str_list <| And.intro @isi_str_dict <| And.intro @isi_str_tl <| And.intro @isi_tup_int <| And.intro @isi_tup_str <| And.intro @isi_tup_bool <| And.intro @isi_tup_tuple <| And.intro @isi_tup_list <| And.intro @isi_tup_dict <| And.intro @isi_tup_tl <| And.intro @isi_lst_int <| And.intro @isi_lst_str <| And.intro @isi_lst_bool <| And.intro @isi_lst_tuple <| And.intro @isi_lst_list <| And.intro @isi_lst_dict <| And.intro @isi_lst_tl <| And.intro @isi_dct_int <| And.intro @isi_dct_str <| And.intro @isi_dct_bool <| And.intro @isi_dct_tuple <| And.intro @isi_dct_list <| And.intro @isi_dct_dict <| @isi_dct_tl
/-! ### range -/
theorem rngD_1 {n : Nat} (c : n < 2 ^ 62) : rngD [.int (n : Int)] = some ⟨(List.range n).map fun (i : Nat) => D.int (i : Int), [], false⟩ := by
  have ok : okW (n : Int) := ⟨by omega, by omega⟩
  simp only [rngD, asI, if_pos ok, Int.toNat_natCast, rngL, Int.zero_add]
theorem rngD_2 {a : Int} {n : Nat} (c1 : -(2 ^ 62) ≤ a) (c2 : a + n < 2 ^ 62) : rngD [.int a, .int (a + n)] = some ⟨(List.range n).map fun (i : Nat) => D.int (a + i), [], false⟩ := by
  have ok : okW a ∧ okW (a + n) := ⟨⟨c1, by omega⟩, ⟨by omega, c2⟩⟩
  simp only [rngD, asI, if_pos ok, rngL]
  rw [show (a + (n : Int) - a).toNat = n by omega]
theorem filter_false {α : Type} (xs : List α) : xs.filter (fun _ => false) = [] := List.filter_eq_nil_iff.mpr fun _ _ => by simp
/-! ### a for over known items, by their places -/
theorem forL_at {α : Type} {src : List (Nat × Ob)} {g : TgF} {f : SS} {Q : Fl → Hd → Prop} (enc : α → D) (xs : List α) (I : Nat → Env → Hd → Prop) (hend : ∀ e h, I xs.length e h → srcOk src h ∧ Q (.nx e) h)
    (step : ∀ i a e h, xs[i]? = some a → I i e h → srcOk src h ∧ ∃ e1 h1, g (enc a) e h = some (e1, h1) ∧ wpS (f e1 h1) fun fl h2 => match fl with | .nx e2 => I (i + 1) e2 h2 | .ct e2 => I (i + 1) e2 h2 | .bk e2 => Q (.nx e2) h2 | fl => Q fl h2)
    {e : Env} {h : Hd} (h0 : I 0 e h) : wpS (forL src g f (xs.map enc) e h) Q := by
  refine forL_inv (fun rest e h => ∃ i, i ≤ xs.length ∧ rest = (xs.drop i).map enc ∧ I i e h) ?_ ?_ _ _ _ ⟨0, Nat.zero_le _, by rw [List.drop_zero], h0⟩
  · rintro e h ⟨i, hi, er, hI⟩
    have : i = xs.length := by
      have := congrArg List.length er
      simp at this
      omega
    subst this
    exact hend e h hI
  · rintro d ds e h ⟨i, hi, er, hI⟩
    have hlt : i < xs.length := by
      have := congrArg List.length er
      simp at this
      omega
    rw [List.drop_eq_getElem_cons hlt, List.map_cons] at er
    obtain ⟨rfl, rfl⟩ := List.cons.inj er
    obtain ⟨s1, e1, h1, s2, s3⟩ := step i _ e h (List.getElem?_eq_getElem hlt) hI
    refine ⟨s1, e1, h1, s2, wpS_imp s3 fun fl h2 q => ?_⟩
    cases fl with
    | nx e2 => exact ⟨i + 1, hlt, rfl, q⟩
    | ct e2 => exact ⟨i + 1, hlt, rfl, q⟩
    | bk e2 => exact q
    | rt d => exact q
    | ex _ _ _ => exact q
theorem app_ref {h : Hd} {n : Nat} {xs : List D} {y : D} (e : h[n]? = some (.lst xs)) (z : xs.length < sizeLine) : appM (.ref n) [y] h = .ok .non (h.set n (.lst (xs ++ [y]))) := by
  simp only [appM, onL, e]
  rw [if_pos z]
theorem selM_app {h : Hd} {n : Nat} {xs : List D} (e : h[n]? = some (.lst xs)) : selM "append" h (.ref n) = some .app := by
  unfold selM
  rw [kd_lst e]
  rfl
theorem asIns_ref {h : Hd} {n : Nat} {xs : List D} (e : h[n]? = some (.lst xs)) : asIns h (.ref n) = none := asIns_lst e
/-! ### texts -/
theorem str_ext {x y : Str} (e : x.cps.toList = y.cps.toList) : x = y := by
  cases x
  cases y
  congr
  exact Array.toList_inj.mp e
theorem str_app {x y : Str} : (x ++ y).cps.toList = x.cps.toList ++ y.cps.toList := by
  show (x.cps ++ y.cps).toList = _
  exact Array.toList_append
theorem str_len {x : Str} : x.length = x.cps.toList.length := rfl
theorem str_lenA {x y : Str} : (x ++ y).length = x.length + y.length := by
  rw [str_len, str_app, List.length_append]
  rfl
theorem rep_list {x : Str} {n : Nat} : (strRep x n).cps.toList = (List.replicate n x.cps.toList).flatten := by
  have k : ∀ (n : Nat) (acc : Array Nat), ((List.replicate n x.cps).foldl (· ++ ·) acc).toList = acc.toList ++ (List.replicate n x.cps.toList).flatten := by
    intro n
    induction n with
    | zero => intro acc; simp
    | succ n ih =>
      intro acc
      rw [List.replicate_succ, List.foldl_cons, ih, List.replicate_succ, List.flatten_cons, Array.toList_append, List.append_assoc]
  show ((List.replicate n x.cps).foldl (· ++ ·) #[]).toList = _
  rw [k]
  simp
theorem cutS_take {z : Str} {k : Nat} : (cutS z none (some (k : Int))).cps.toList = z.cps.toList.take k := by
  unfold cutS
  show ((z.cps.toList.drop _).take _) = _
  rw [HT.sIx_none, HT.sIx_nat, List.drop_zero, Nat.sub_zero]
  by_cases c : k ≤ z.length
  · rw [Nat.min_eq_left c]
  · have e : z.cps.toList.length = z.length := rfl
    rw [Nat.min_eq_right (by omega), ← e, List.take_length, List.take_of_length_le (by omega)]
theorem cutS_drop {z : Str} {k : Nat} : (cutS z (some (k : Int)) none).cps.toList = z.cps.toList.drop k := by
  unfold cutS
  show ((z.cps.toList.drop _).take _) = _
  have e : z.cps.toList.length = z.length := rfl
  rw [HT.sIx_none, HT.sIx_nat]
  by_cases c : k ≤ z.length
  · rw [Nat.min_eq_left c, List.take_of_length_le (by rw [List.length_drop]; omega)]
  · rw [Nat.min_eq_right (by omega), Nat.sub_self, List.take_zero, List.drop_eq_nil_of_le (by omega)]
theorem sl_str {h : Hd} {z : Str} {lo hi : Option Int} (c : z.length ≤ sizeLine) : slcD h (.str z) lo hi = some (.v (.str (cutS z lo hi))) := if_pos c
theorem idx_str {h : Hd} {z : Str} {i : Int} (c : z.length ≤ sizeLine) : idxD h (.str z) (.int i) = (atI z.cps.toList i).map fun c => .v (.str ⟨#[c]⟩) := by
  simp [idxD, asS, asL, c]
theorem bin_rep {h : Hd} {x : Str} {n : Int} (c1 : 0 ≤ n) (c2 : n ≤ 1000) (c3 : x.length * n.toNat ≤ 100000) : binD .Mult h (.str x) (.int n) = some (.v (.str (strRep x n.toNat))) := if_pos ⟨c1, c2, c3⟩
/-- a name -/
structure Nm (x : Str) : Prop where
  lo : 0 < x.length
  hi : x.length < 9
  small : ∀ c ∈ x.cps.toList, 97 ≤ c ∧ c ≤ 122
end Dk
end S_Wp
end
section
set_option Elab.async false
set_option linter.all false
set_option maxRecDepth 100000
set_option maxHeartbeats 1000000
noncomputable section S_So
namespace Dk
open PySem PySem.Spec PyProof.Rows L2
/-! ### sorting -/
theorem leD_key (a b : D) : leD a b = !lexLt itemOrd (PySem.W.keyToks (toP b)) (PySem.W.keyToks (toP a)) := rfl
theorem leD_total : PySem.W.TotalLe leD := PySem.W.sortLe_total (listOrd itemOrd) false (fun b => PySem.W.keyToks (toP b))
theorem leD_anti {a b : D} (h1 : leD a b = true) (h2 : leD b a = true) : PySem.W.keyToks (toP a) = PySem.W.keyToks (toP b) := by
  rw [leD_key, Bool.not_eq_true'] at h1 h2
  exact (listOrd itemOrd).total _ _ h2 h1
theorem sortL_perm (xs : List D) : (sortL xs).Perm xs := List.mergeSort_perm _ _
theorem sortL_pw (xs : List D) : (sortL xs).Pairwise fun a b => leD a b = true := List.pairwise_mergeSort leD_total.trans (fun a b => by
  rcases leD_total.total a b with h | h <;> simp [h]) xs
/-- the one sorted list -/
theorem sortL_eq {xs ys : List D} (p : ys.Perm xs) (hs : ys.Pairwise fun a b => leD a b = true) (inj : ∀ a ∈ xs, ∀ b ∈ xs, PySem.W.keyToks (toP a) = PySem.W.keyToks (toP b) → a = b) : sortL xs = ys := by
  refine List.Perm.eq_of_pairwise (fun a b ha hb h1 h2 => inj a ((sortL_perm xs).mem_iff.mp ha) b (p.mem_iff.mp hb) (leD_anti h1 h2)) (sortL_pw xs) hs ((sortL_perm xs).trans p.symm)
/-- texts -/
def leS (x y : Str) : Bool := leD (.str x) (.str y)
def sortN (xs : List Str) : List Str := xs.mergeSort leS
theorem leS_lt (x y : Str) : leS x y = !strLt y x := by
  unfold leS
  rw [leD_key]
  show (!(decide _ || (!(decide _) && false))) = _
  rw [Bool.and_false, Bool.or_false]
  rfl
theorem leS_anti {x y : Str} (h1 : leS x y = true) (h2 : leS y x = true) : x = y := by
  have := leD_anti h1 h2
  simp only [toP, PySem.W.keyToks, List.cons.injEq, Sum.inr.injEq, and_true] at this
  exact str_ext this
theorem sortN_perm (xs : List Str) : (sortN xs).Perm xs := List.mergeSort_perm _ _
theorem sortN_pw (xs : List Str) : (sortN xs).Pairwise fun a b => leS a b = true := List.pairwise_mergeSort (le := leS) (fun a b c => leD_total.trans (.str a) (.str b) (.str c)) (fun a b => by
  rcases leD_total.total (.str a) (.str b) with h | h
  · rw [show leS a b = true from h]; rfl
  · rw [show leS b a = true from h, Bool.or_true]) xs
theorem sortL_strs (xs : List Str) : sortL (xs.map D.str) = (sortN xs).map D.str := by
  unfold sortL sortN
  exact (List.map_mergeSort (f := D.str) (r := leS) (s := leD) fun a _ b _ => rfl).symm
theorem sortN_eq {xs ys : List Str} (p : ys.Perm xs) (hs : ys.Pairwise fun a b => leS a b = true) : sortN xs = ys :=
  List.Perm.eq_of_pairwise (fun a b _ _ h1 h2 => leS_anti h1 h2) (sortN_pw xs) hs ((sortN_perm xs).trans p.symm)
theorem sortN_congr {xs ys : List Str} (p : xs.Perm ys) : sortN xs = sortN ys := sortN_eq ((sortN_perm ys).trans p.symm) (sortN_pw ys)
/-- rows that begin with unlike texts -/
theorem leD_row {x y : Str} {t u : List D} (ne : x ≠ y) : leD (.tup (.str x :: t)) (.tup (.str y :: u)) = leS x y := by
  unfold leS
  rw [leD_key, leD_key]
  simp only [toP, toPs, PySem.W.keyToks, PySem.W.keyToksAll]
  rw [lex_cons, lex_cons]
  have e1 : itemOrd.blt (Sum.inl 1) (Sum.inl 1) = false := by decide
  rw [e1]
  simp only [Bool.false_or, Bool.not_false, Bool.true_and, List.cons_append]
  rw [lex_cons]
  have ne' : x.cps.toList ≠ y.cps.toList := fun z => ne (str_ext z)
  have tot : decide (y.cps.toList < x.cps.toList) = true ∨ decide (x.cps.toList < y.cps.toList) = true := by
    rcases h1 : decide (y.cps.toList < x.cps.toList) with _ | _
    · rcases h2 : decide (x.cps.toList < y.cps.toList) with _ | _
      · exact absurd (strKind.total _ _ h2 h1) ne'
      · exact .inr rfl
    · exact .inl rfl
  have eb : ∀ p q : List Nat, itemOrd.blt (Sum.inr p) (Sum.inr q) = decide (p < q) := fun _ _ => rfl
  have eb' : ∀ p q : List Nat, itemLt (Sum.inr p) (Sum.inr q) = decide (p < q) := fun _ _ => rfl
  simp only [eb, eb']
  rcases tot with h | h
  · rw [h]; rfl
  · have h' : decide (y.cps.toList < x.cps.toList) = false := by
      rcases h2 : decide (y.cps.toList < x.cps.toList) with _ | _
      · rfl
      · have := strKind.trans _ _ _ h h2
        rw [strKind.irrefl] at this
        cases this
    rw [h, h']
    rfl
/-- what a row of names is, sorted by them -/
theorem sortL_rows {xs : List Str} {f : Str → List D} (nd : xs.Nodup) {l : List D} (p : l.Perm (xs.map fun x => .tup (.str x :: f x))) : sortL l = (sortN xs).map fun x => .tup (.str x :: f x) := by
  have nd2 : (sortN xs).Nodup := (sortN_perm xs).nodup_iff.mpr nd
  refine sortL_eq (((sortN_perm xs).map _).trans p.symm) ?_ fun a ha b hb e => ?_
  · rw [List.pairwise_map]
    refine List.Pairwise.imp (fun {a b} h => ?_) (List.Pairwise.and (sortN_pw xs) nd2)
    rw [leD_row h.2]
    exact h.1
  · obtain ⟨x, _, rfl⟩ := List.mem_map.mp (p.mem_iff.mp ha)
    obtain ⟨y, _, rfl⟩ := List.mem_map.mp (p.mem_iff.mp hb)
    simp only [toP, toPs, PySem.W.keyToks, PySem.W.keyToksAll, List.cons.injEq, true_and, List.cons_append, Sum.inr.injEq] at e
    have := str_ext e.1
    subst this
    rfl
/-! what sorted gives -/
theorem sorted_strs {h : Hd} {xs : List Str} (z : xs.length ≤ sizeLine) : sortR (xs.map D.str) = some (.l ((sortN xs).map D.str)) := by
  have ok : sortOk (xs.map D.str) := by
    refine ⟨?_, ?_, ?_, ?_⟩
    · rw [plainL_all, List.all_map]
      exact List.all_eq_true.mpr fun _ _ => rfl
    · intro d hd d' hd'
      rw [List.map_map] at hd hd'
      obtain ⟨x, _, rfl⟩ := List.mem_map.mp hd
      obtain ⟨y, _, rfl⟩ := List.mem_map.mp hd'
      rfl
    · refine .inr fun d hd => ?_
      rw [List.map_map] at hd
      obtain ⟨x, _, rfl⟩ := List.mem_map.mp hd
      exact ⟨(fun z => nomatch z), (fun _ z => nomatch z)⟩
    · intro d hd
      obtain ⟨x, _, rfl⟩ := List.mem_map.mp hd
      show (PyData.str x).depth ≤ 30
      simp [PyData.depth]
  unfold sortR
  rw [if_pos ⟨ok, by rw [List.length_map]; exact z⟩, sortL_strs]
end Dk
end S_So
end
section
set_option Elab.async false
set_option linter.all false
set_option maxRecDepth 100000
/-! what each def of the program does (printed by gen.py) -/
noncomputable section S_G_k37
namespace Dk
open PySem PySem.Spec PyProof.Rows L2
abbrev S (x : String) : Str := Str.ofString x
def flds : List (String × String) := [("Counted", "ahead"), ("Counted", "counts"), ("Counted", "names")]
def fld (c f : String) : Bool := decide ((c, f) ∈ flds)
def noM : MTab := fun _ _ => none
def tb__law_open : MTab := noM
def f__law_open : SS := (sList [(sAsg (gN 1) (binX .Add false (lcX false false [2] (itX (slcX false (vX 0) oNone (oSome (cX (.int 63))))) (gN 2) (fun _ => pu true) (bltX false absD (aList [(vX 2)]))) (binX .Mult false (lstX false (aList [(cX (.int 11))])) (bltX false intD (aList [(cmpX .Eq (callX (lenM tb__law_open) (aList [(vX 0)])) (cX (.int 0)))]))))),
    (sRet (lstX true (aList [(vX 1), (lcX true false [2] (itX (vX 1)) (gN 2) (fun _ => pu true) (binX .Mult false (vX 2) (bltX false intD (aList [(cmpX .GtE (vX 2) (binX .Pow false (cX (.int 10)) (cX (.int 18))))])))), (cX (.int 0))])))])
def m__law_open : List D → M D := mF 3 1 f__law_open
def tb__law_draw : MTab := noM
def f__law_draw : SS := (sList [(sAsg (gT [(gN 2), (gN 3), (gN 4)]) (vX 0)),
    (sAsg (gI (vX 0) (cX (.int 2))) (binX .Add false (vX 4) (cX (.int 1)))),
    (sAsg (gN 5) (binX .Mod false (vX 4) (callX (lenM tb__law_draw) (aList [(vX 2)])))),
    (sIf (tru (cmpX .Gt (idxX (vX 3) (vX 5)) (cX (.int 0)))) (sList [(sAsg (gN 6) (binX .Mod false (idxX (vX 3) (vX 5)) (vX 1))),
    (sAsg (gI (vX 3) (vX 5)) (binX .FloorDiv false (idxX (vX 3) (vX 5)) (vX 1))),
    (sRet (vX 6))]) (sList [])),
    (sAsg (gN 7) (binX .Mod false (binX .Pow false (binX .Add false (binX .Add false (binX .Mod false (idxX (vX 2) (vX 5)) (cX (.int 2147483563))) (binX .Mult false (cX (.int 40014)) (vX 4))) (cX (.int 7))) (cX (.int 3))) (cX (.int 2147483399)))),
    (sRet (binX .Mod false (binX .FloorDiv false (binX .Mod false (binX .Pow false (binX .Add false (binX .Mult false (vX 7) (cX (.int 40692))) (binX .Mult false (cX (.int 12345)) (vX 4))) (cX (.int 2))) (cX (.int 2147483563))) (cX (.int 8))) (vX 1)))])
def m__law_draw : List D → M D := mF 8 2 f__law_draw
def tb__law_signs : MTab := noM
def f__law_signs : SS := (sList [(sAsg (gN 2) (cX (.str (S "abcdefghijklmnopqrstuvwxyz")))),
    (sAsg (gN 3) (mthX tb__law_signs "join" 1 (cX (.str (S ""))) (aList [(lcX false false [4] (rngX 1 (aList [(callX m__law_draw (aList [(vX 0), (cX (.int 8))]))])) (gN 4) (fun _ => pu true) (idxX (vX 2) (callX m__law_draw (aList [(vX 0), (cX (.int 26))]))))]))),
    (sAsg (gN 5) (callX m__law_draw (aList [(vX 0), (cX (.int 26))]))),
    (sRet (lcX false false [4] (rngX 1 (aList [(vX 1)])) (gN 4) (fun _ => pu true) (binX .Add false (idxX (vX 2) (binX .Mod false (binX .Add false (vX 5) (binX .Mult false (cX (.int 9)) (vX 4))) (cX (.int 26)))) (slcX false (vX 3) oNone (oSome (binX .Mod false (vX 4) (binX .Add false (callX (lenM tb__law_signs) (aList [(vX 3)])) (cX (.int 1)))))))))])
def m__law_signs : List D → M D := mF 6 2 f__law_signs
def tb__law_one_of : MTab := noM
def f__law_one_of : SS := (sList [(sRet (idxX (vX 1) (callX m__law_draw (aList [(vX 0), (callX (lenM tb__law_one_of) (aList [(vX 1)]))]))))])
def m__law_one_of : List D → M D := mF 2 2 f__law_one_of
def tb__law_grown : MTab := noM
def f__law_grown : SS := (sList [(sAsg (gT [(gN 4), (gN 5), (gN 6), (gN 7)]) (tupX (aList [(lstX true (aList [])), (dct0 true), (bltX true lstD (aList [(vX 1)])), (cX (.int 0))]))),
    (sAsg (gN 8) (callX m__law_one_of (aList [(vX 0), (lstX false (aList [(cX (.int 1)), (cX (.int 3)), (binX .Pow false (cX (.int 10)) (cX (.int 6)))]))]))),
    (sFor false (rngX 1 (aList [(vX 3)])) (gN 9) (sList [(sAsg (gN 7) (binX .Add false (binX .Add false (vX 7) (cX (.int 1))) (callX m__law_draw (aList [(vX 0), (vX 8)])))),
    (sAsg (gN 10) (callX m__law_draw (aList [(vX 0), (cX (.int 5))]))),
    (sAsg (gN 11) (callX m__law_draw (aList [(vX 0), (binX .Add false (callX (lenM tb__law_grown) (aList [(vX 4)])) (cX (.int 1)))]))),
    (sIf (bAndT [(bOrT [(tru (cmpX .Lt (vX 10) (cX (.int 2)))), (tru (cmpX .Eq (vX 4) (lstX false (aList []))))]), (tru (cmpX .NotEq (vX 6) (lstX false (aList [])))), (tru (cmpX .Lt (callX (lenM tb__law_grown) (aList [(vX 4)])) (vX 2)))]) (sList [(sExp (mthX tb__law_grown "insert" 2 (vX 4) (aList [(vX 11), (mthX tb__law_grown "pop" 0 (vX 6) (aList []))]))),
    (sAsg (gI (vX 5) (idxX (vX 4) (vX 11))) (tupX (aList [(idxX (vX 4) (vX 11)), (vX 7), (vX 7), (vX 11)])))]) (sList [(sIf (bAndT [(tru (cmpX .Lt (vX 11) (callX (lenM tb__law_grown) (aList [(vX 4)])))), (tru (cmpX .Eq (vX 10) (cX (.int 2))))]) (sList [(sExp (mthX tb__law_grown "pop" 1 (vX 5) (aList [(mthX tb__law_grown "pop" 1 (vX 4) (aList [(vX 11)]))])))]) (sList [(sIf (tru (cmpX .Lt (vX 11) (callX (lenM tb__law_grown) (aList [(vX 4)])))) (sList [(sAsg (gI (vX 5) (idxX (vX 4) (vX 11))) (tupX (aList [(idxX (vX 4) (vX 11)), (idxX (idxX (vX 5) (idxX (vX 4) (vX 11))) (cX (.int 1))), (vX 7), (vX 11)])))]) (sList []))]))]))])),
    (sRet (bltX false tupD (aList [(svX false (vX 5))])))])
def m__law_grown : List D → M D := mF 12 4 f__law_grown
def tb__law_made_up : MTab := noM
def f__law_made_up : SS := (sList [(sAsg (gN 2) (lrg2X true (cX (.int 1)) (binX .Add false (binX .Mult false (cX (.int 3)) (callX (lenM tb__law_made_up) (aList [(vX 1)]))) (cX (.int 2))))),
    (sAsg (gN 3) (lstX true (aList []))),
    (sFor false (itX (vX 1)) (gN 4) (sList [(sAsg (gN 5) (mthX tb__law_made_up "pop" 1 (vX 2) (aList [(callX m__law_draw (aList [(vX 0), (callX (lenM tb__law_made_up) (aList [(vX 2)]))]))]))),
    (sAsg (gN 6) (lcX false false [7] (itX (vX 2)) (gN 7) (tru (cmpX .Gt (vX 7) (vX 5))) (vX 7))),
    (sAsg (gN 8) (callX m__law_one_of (aList [(vX 0), (binX .Add false (lstX false (aList [(vX 5)])) (vX 6))]))),
    (sIf (tru (cmpX .NotEq (vX 8) (vX 5))) (sList [(sExp (mthX tb__law_made_up "remove" 1 (vX 2) (aList [(vX 8)])))]) (sList [])),
    (sExp (mthX tb__law_made_up "append" 1 (vX 3) (aList [(tupX (aList [(vX 4), (vX 5), (vX 8), (callX m__law_draw (aList [(vX 0), (binX .Add false (cX (.int 1)) (callX m__law_draw (aList [(vX 0), (binX .Add false (cX (.int 1)) (callX (lenM tb__law_made_up) (aList [(vX 1)])))])))]))]))])))])),
    (sRet (bltX false tupD (aList [(bltX false sortedD (aList [(vX 3)]))])))])
def m__law_made_up : List D → M D := mF 9 2 f__law_made_up
def tb__law_bad : MTab := noM
def f__law_bad : SS := (sList [(sAsg (gN 2) (callX m__law_signs (aList [(vX 0), (cX (.int 26))]))),
    (sIf (tru (cmpX .Eq (callX m__law_draw (aList [(vX 0), (cX (.int 3))])) (cX (.int 0)))) (sList [(sRet (callX m__law_made_up (aList [(vX 0), (slcX false (vX 2) oNone (oSome (callX m__law_draw (aList [(vX 0), (binX .Add false (bltX false minD (aList [(vX 1), (cX (.int 9))])) (cX (.int 1)))]))))])))]) (sList [])),
    (sAsg (gN 3) (callX m__law_grown (aList [(vX 0), (vX 2), (vX 1), (binX .Add false (vX 1) (callX m__law_draw (aList [(vX 0), (binX .Add false (binX .Mult false (cX (.int 4)) (vX 1)) (cX (.int 1)))])))]))),
    (sAsg (gN 4) (lstX true (aList []))),
    (sFor true (itX (vX 3)) (gT [(gN 5), (gN 6), (gN 7), (gN 8)]) (sList [(sExp (mthX tb__law_bad "append" 1 (vX 4) (aList [(tupX (aList [(vX 5), (vX 6), (vX 7), (callX m__law_one_of (aList [(vX 0), (lstX false (aList [(vX 8), (binX .FloorDiv false (vX 8) (cX (.int 2))), (bltX false maxD (aList [(cX (.int 0)), (binX .Sub false (vX 8) (cX (.int 1)))])), (bltX false maxD (aList [(cX (.int 0)), (binX .Sub false (vX 8) (cX (.int 2)))])), (cX (.int 0))]))]))]))])))])),
    (sRet (bltX false tupD (aList [(vX 4)])))])
def m__law_bad : List D → M D := mF 9 2 f__law_bad
def tb__law_over_it : MTab := noM
def f__law_over_it : SS := (sList [(sRet (callX (lenM tb__law_over_it) (aList [(lcX false false [3] (itX (vX 1)) (gN 3) (tru (cmpX .In (vX 3) (idxX (idxX (vX 0) (cX (.int 0))) (vX 2)))) (vX 3))])))])
def m__law_over_it : List D → M D := mF 4 3 f__law_over_it
def tb__law_free : MTab := noM
def f__law_free : SS := (sList [(sRet (lcX false false [2] (itX (vX 1)) (gN 2) (tru (cmpX .LtE (callX m__law_over_it (aList [(vX 0), (vX 1), (vX 2)])) (idxX (idxX (vX 0) (cX (.int 1))) (vX 2)))) (vX 2)))])
def m__law_free : List D → M D := mF 3 2 f__law_free
def tb__law_gone_through : MTab := noM
def f__law_gone_through : SS := (sList [(sAsg (gN 3) (bltX true lstD (aList [(vX 1)]))),
    (sAsg (gN 4) (lstX true (aList []))),
    (sAsg (gN 5) (lcX false false [6] (itX (callX m__law_free (aList [(vX 0), (vX 3)]))) (gN 6) (tru (cmpX .In (vX 6) (vX 2))) (vX 6))),
    (sWhl (tru (cmpX .NotEq (vX 5) (lstX false (aList [])))) (sList [(sExp (mthX tb__law_gone_through "append" 1 (vX 4) (aList [(bltX false minD (aList [(vX 5)]))]))),
    (sExp (mthX tb__law_gone_through "remove" 1 (vX 3) (aList [(idxX (vX 4) (negX (cX (.int 1))))]))),
    (sAsg (gN 5) (lcX false false [6] (itX (callX m__law_free (aList [(vX 0), (vX 3)]))) (gN 6) (tru (cmpX .In (vX 6) (vX 2))) (vX 6)))])),
    (sRet (lstX false (aList [(bltX false tupD (aList [(vX 4)])), (bltX false tupD (aList [(vX 3)]))])))])
def m__law_gone_through : List D → M D := mF 7 3 f__law_gone_through
def tb__law_core : MTab := noM
def f__law_core : SS := (sList [(sAsg (gN 3) (idxX (callX m__law_gone_through (aList [(vX 0), (vX 1), (vX 1)])) (cX (.int 1)))),
    (sFor false (itX (vX 2)) (gN 4) (sList [(sAsg (gN 5) (lcX false false [6] (itX (vX 3)) (gN 6) (tru (cmpX .NotEq (vX 6) (vX 4))) (vX 6))),
    (sAsg (gN 7) (idxX (callX m__law_gone_through (aList [(vX 0), (vX 5), (vX 5)])) (cX (.int 1)))),
    (sIf (bAndT [(tru (cmpX .In (vX 4) (vX 3))), (tru (cmpX .NotEq (vX 7) (tupX (aList []))))]) (sList [(sAsg (gN 3) (vX 7))]) (sList []))])),
    (sRet (vX 3))])
def m__law_core : List D → M D := mF 8 3 f__law_core
def tb__law_table : MTab := noM
def f__law_table : SS := (sList [(sPar 1 2 (aList [(dct0 true), (dct0 true)])),
    (sFor true (itX (vX 0)) (gT [(gN 3), (gN 4), (gN 5), (gN 6)]) (sList [(sAsg (gI (vX 1) (vX 3)) (bltX false dctD (aList [(lcX false false [7] (itX (vX 0)) (gN 7) (bAndT [(tru (cmpX .NotEq (idxX (vX 7) (cX (.int 0))) (vX 3))), (tru (cmpX .Lt (idxX (vX 7) (cX (.int 1))) (vX 5)))]) (tupX (aList [(idxX (vX 7) (cX (.int 0))), (cX (.bl true))])))]))),
    (sAsg (gI (vX 2) (vX 3)) (vX 6))])),
    (sRet (lstX false (aList [(vX 1), (vX 2)])))])
def m__law_table : List D → M D := mF 8 1 f__law_table
def tb__law_here : MTab := noM
def f__law_here : SS := (sList [(sRet (lcX false false [1] (itX (vX 0)) (gN 1) (fun _ => pu true) (idxX (vX 1) (cX (.int 0)))))])
def m__law_here : List D → M D := mF 2 1 f__law_here
def tb__law_same : MTab := noM
def f__law_same (rec : List D → M D) : SS := (sList [(sIf (tru (bltX false isiD (aList [(vX 1), (tupX (aList [(cX (.ty "tuple")), (cX (.ty "list"))]))]))) (sList [(sIf (bOrT [(tru (cmpX .NotEq (bltX false isiD (aList [(vX 0), (cX (.ty "tuple"))])) (bltX false isiD (aList [(vX 1), (cX (.ty "tuple"))])))), (tru (cmpX .NotEq (bltX false isiD (aList [(vX 0), (cX (.ty "list"))])) (bltX false isiD (aList [(vX 1), (cX (.ty "list"))]))))]) (sList [(sRet (cX (.bl false)))]) (sList [])),
    (sIf (tru (cmpX .NotEq (callX (lenM tb__law_same) (aList [(vX 0)])) (callX (lenM tb__law_same) (aList [(vX 1)])))) (sList [(sRet (cX (.bl false)))]) (sList [])),
    (sRet (cmpX .Eq (lcX false false [2] (rngX 1 (aList [(callX (lenM tb__law_same) (aList [(vX 1)]))])) (gN 2) (notT (tru (callX rec (aList [(idxX (vX 0) (vX 2)), (idxX (vX 1) (vX 2))])))) (vX 2)) (lstX false (aList []))))]) (sList [])),
    (sIf (tru (cmpX .Is (vX 1) (cX .non))) (sList [(sRet (cmpX .Is (vX 0) (cX .non)))]) (sList [])),
    (sIf (tru (bltX false isiD (aList [(vX 1), (cX (.ty "bool"))]))) (sList [(sRet (bAndX [(bltX false isiD (aList [(vX 0), (cX (.ty "bool"))])), (cmpX .Eq (vX 0) (vX 1))]))]) (sList [])),
    (sIf (tru (bltX false isiD (aList [(vX 1), (cX (.ty "int"))]))) (sList [(sRet (bAndX [(bltX false isiD (aList [(vX 0), (cX (.ty "int"))])), (notX (bltX false isiD (aList [(vX 0), (cX (.ty "bool"))]))), (cmpX .Eq (vX 0) (vX 1))]))]) (sList [])),
    (sRet (bAndX [(bltX false isiD (aList [(vX 0), (cX (.ty "str"))])), (cmpX .Eq (vX 0) (vX 1))]))])
def m__law_same_ : Nat → List D → M D
  | 0 => fun _ => no
  | r + 1 => mF 3 2 (f__law_same (m__law_same_ r))
def m__law_same : List D → M D := m__law_same_ 12
def tb_here : MTab := noM
def f_here : SS := (sList [(sRet (bltX false tupD (aList [(lcX false false [1] (itX (vX 0)) (gN 1) (fun _ => pu true) (idxX (vX 1) (cX (.int 0))))])))])
def m_here : List D → M D := mF 2 1 f_here
def tb_without_all : MTab := noM
def f_without_all : SS := (sList [(sRet (bltX false tupD (aList [(lcX false false [2] (itX (vX 0)) (gN 2) (tru (cmpX .NotIn (vX 2) (vX 1))) (vX 2))])))])
def m_without_all : List D → M D := mF 3 2 f_without_all
def tb_Counted_is_free : MTab := noM
def f_Counted_is_free : SS := (sList [(sRet (cmpX .LtE (callX (lenM tb_Counted_is_free) (aList [(lcX false false [3] (itX (vX 1)) (gN 3) (tru (cmpX .In (vX 3) (idxX (attX fld "ahead" (vX 0)) (vX 2)))) (vX 3))])) (idxX (attX fld "counts" (vX 0)) (vX 2))))])
def m_Counted_is_free : List D → M D := mF 4 3 f_Counted_is_free
def tb_Counted_free_in : MTab := (addM noM "Counted" "is_free" 2 m_Counted_is_free)
def f_Counted_free_in : SS := (sList [(sRet (lcX false false [2] (itX (vX 1)) (gN 2) (tru (mthX tb_Counted_free_in "is_free" 2 (vX 0) (aList [(vX 1), (vX 2)]))) (vX 2)))])
def m_Counted_free_in : List D → M D := mF 3 2 f_Counted_free_in
def tb_Counted_taken : MTab := (addM noM "Counted" "free_in" 1 m_Counted_free_in)
def f_Counted_taken : SS := (sList [(sAsg (gN 3) (lstX true (aList []))),
    (sAsg (gN 4) (lcX false false [5] (itX (mthX tb_Counted_taken "free_in" 1 (vX 0) (aList [(vX 1)]))) (gN 5) (tru (cmpX .In (vX 5) (vX 2))) (vX 5))),
    (sWhl (tru (cmpX .NotEq (vX 4) (lstX false (aList [])))) (sList [(sExp (mthX tb_Counted_taken "append" 1 (vX 3) (aList [(idxX (vX 4) (cX (.int 0)))]))),
    (sAsg (gN 1) (callX m_without_all (aList [(vX 1), (slcX false (vX 4) oNone (oSome (cX (.int 1))))]))),
    (sAsg (gN 4) (lcX false false [5] (itX (mthX tb_Counted_taken "free_in" 1 (vX 0) (aList [(vX 1)]))) (gN 5) (tru (cmpX .In (vX 5) (vX 2))) (vX 5)))])),
    (sRet (bltX false tupD (aList [(vX 3)])))])
def m_Counted_taken : List D → M D := mF 6 3 f_Counted_taken
def tb_Counted_left_of : MTab := (addM noM "Counted" "taken" 2 m_Counted_taken)
def f_Counted_left_of : SS := (sList [(sRet (callX m_without_all (aList [(vX 1), (mthX tb_Counted_left_of "taken" 2 (vX 0) (aList [(vX 1), (vX 1)]))])))])
def m_Counted_left_of : List D → M D := mF 2 2 f_Counted_left_of
def tb_place_of : MTab := noM
def f_place_of : SS := (sList [(sAsg (gN 2) (callX m_here (aList [(vX 0)]))),
    (sIf (bOrT [(notT (tru (bltX false isiD (aList [(vX 1), (cX (.ty "str"))])))), (tru (cmpX .NotIn (vX 1) (vX 2)))]) (sList [failS]) (sList [])),
    (sRet (mthX tb_place_of "index" 1 (vX 2) (aList [(vX 1)])))])
def m_place_of : List D → M D := mF 3 2 f_place_of
def tb_row_of : MTab := noM
def f_row_of : SS := (sList [(sRet (idxX (vX 0) (callX m_place_of (aList [(vX 0), (vX 1)]))))])
def m_row_of : List D → M D := mF 2 2 f_row_of
def tb_elders : MTab := noM
def f_elders : SS := (sList [(sAsg (gN 2) (callX m_row_of (aList [(vX 0), (vX 1)]))),
    (sRet (bltX false tupD (aList [(lcX false false [3] (itX (vX 0)) (gN 3) (bAndT [(tru (cmpX .NotEq (idxX (vX 3) (cX (.int 0))) (vX 1))), (tru (cmpX .Lt (idxX (vX 3) (cX (.int 1))) (idxX (vX 2) (cX (.int 2)))))]) (idxX (vX 3) (cX (.int 0))))])))])
def m_elders : List D → M D := mF 4 2 f_elders
def tb_Counted___init__ : MTab := noM
def f_Counted___init__ : SS := (sList [(sAtt fld "names" (vX 0) (callX m_here (aList [(vX 1)]))),
    (sAtt fld "ahead" (vX 0) (dcX false false [3] (itX (attX fld "names" (vX 0))) (gN 3) (fun _ => pu true) (vX 3) (dcX false false [2] (itX (callX m_elders (aList [(vX 1), (vX 3)]))) (gN 2) (fun _ => pu true) (vX 2) (cX (.bl true))))),
    (sAtt fld "counts" (vX 0) (dcX false false [4] (itX (vX 1)) (gN 4) (fun _ => pu true) (idxX (vX 4) (cX (.int 0))) (idxX (vX 4) (cX (.int 3)))))])
def m_Counted___init__ : List D → M D := mF 5 2 f_Counted___init__
def tb_stuck : MTab := (addM noM "Counted" "left_of" 1 m_Counted_left_of)
def f_stuck : SS := (sList [(sRet (mthX tb_stuck "left_of" 1 (callX (mkM "Counted" [] m_Counted___init__) (aList [(vX 0)])) (aList [(callX m_here (aList [(vX 0)]))])))])
def m_stuck : List D → M D := mF 1 1 f_stuck
def tb_core : MTab := (addM noM "Counted" "left_of" 1 m_Counted_left_of)
def f_core : SS := (sList [(sAsg (gN 1) (callX (mkM "Counted" [] m_Counted___init__) (aList [(vX 0)]))),
    (sAsg (gN 2) (callX m_stuck (aList [(vX 0)]))),
    (sFor false (itX (vX 2)) (gN 3) (sList [(sAsg (gN 4) (mthX tb_core "left_of" 1 (vX 1) (aList [(callX m_without_all (aList [(vX 2), (tupX (aList [(vX 3)]))]))]))),
    (sIf (tru (cmpX .NotEq (vX 4) (tupX (aList [])))) (sList [(sAsg (gN 2) (vX 4))]) (sList []))])),
    (sRet (vX 2))])
def m_core : List D → M D := mF 5 1 f_core
def tb_core_paper : MTab := (addM noM "Counted" "taken" 2 m_Counted_taken)
def f_core_paper : SS := (sList [(sAsg (gN 1) (callX m_core (aList [(vX 0)]))),
    (sIf (tru (cmpX .Eq (vX 1) (tupX (aList [])))) (sList [(sRet (cX .non))]) (sList [])),
    (sAsg (gN 2) (callX (mkM "Counted" [] m_Counted___init__) (aList [(vX 0)]))),
    (sAsg (gN 3) (lcX false false [4] (itX (vX 1)) (gN 4) (fun _ => pu true) (callX m_without_all (aList [(vX 1), (tupX (aList [(vX 4)]))])))),
    (sRet (tupX (aList [(vX 1), (bltX false tupD (aList [(lcX false false [5] (itX (vX 3)) (gN 5) (fun _ => pu true) (mthX tb_core_paper "taken" 2 (vX 2) (aList [(vX 5), (vX 5)])))]))])))])
def m_core_paper : List D → M D := mF 6 1 f_core_paper
def tb_law : MTab := noM
def f_law : SS := (sList [(sAsg (gN 1) (callX m__law_open (aList [(vX 0)]))),
    (sFor false (rngX 1 (aList [(cX (.int 4))])) (gN 2) (sList [(sAsg (gN 3) (callX m__law_bad (aList [(vX 1), (idxX (lstX false (aList [(cX (.int 5)), (cX (.int 8)), (cX (.int 12))])) (callX m__law_draw (aList [(vX 1), (cX (.int 3))])))]))),
    (sAsg (gN 4) (bltX false reprD (aList [(vX 3)]))),
    (sPar 5 6 (aList [(callX m__law_table (aList [(vX 3)])), (callX m__law_here (aList [(vX 3)]))])),
    (sAsg (gN 7) (callX m__law_core (aList [(vX 5), (vX 6), (vX 6)]))),
    (sAsg (gN 8) (lstX true (aList []))),
    (sFor false (itX (vX 7)) (gN 9) (sList [(sAsg (gN 10) (lcX false false [11] (itX (vX 7)) (gN 11) (tru (cmpX .NotEq (vX 11) (vX 9))) (vX 11))),
    (sExp (mthX tb_law "append" 1 (vX 8) (aList [(idxX (callX m__law_gone_through (aList [(vX 5), (vX 10), (vX 10)])) (cX (.int 0)))])))])),
    (sAsg (gN 12) (tupX (aList [(vX 7), (bltX false tupD (aList [(vX 8)]))]))),
    (sIf (tru (cmpX .Eq (vX 7) (tupX (aList [])))) (sList [(sAsg (gN 12) (cX .non))]) (sList [])),
    (sFor false (rngX 1 (aList [(cX (.int 2))])) (gN 13) (sList [(sIf (bOrT [(notT (tru (callX m__law_same (aList [(callX m_core (aList [(vX 3)])), (vX 7)])))), (notT (tru (callX m__law_same (aList [(callX m_core_paper (aList [(vX 3)])), (vX 12)])))), (tru (cmpX .NotEq (bltX false reprD (aList [(vX 3)])) (vX 4)))]) (sList [(sRet (cX (.bl false)))]) (sList []))]))])),
    (sRet (cX (.bl true)))])
def m_law : List D → M D := mF 14 1 f_law
end Dk
end S_G_k37
end
section
set_option Elab.async false
set_option linter.all false
set_option maxRecDepth 100000
set_option maxHeartbeats 1000000
noncomputable section S_Q1_k37
namespace Dk
open PySem PySem.Spec PyProof.Rows L2
/-! ### the deal -/
def DealAt (h : Hd) (n gi : Nat) : Prop := ∃ (g : List Int) (l : Int) (s : List Int) (c b : Int), h[n]? = some (.lst [.ref gi, .int l, .lst (s.map D.int), .int c, .int b]) ∧ h[gi]? = some (.lst (g.map D.int)) ∧ n ≠ gi ∧ (∀ x ∈ g, 0 < x) ∧ 0 ≤ l ∧ s ≠ [] ∧ 0 ≤ c ∧ 0 ≤ b ∧ b < 2147483647

/-! ### same -/
theorem same_go {r : Nat} {xs : List D} {h : Hd} {d : D} (hd : d = .tup xs ∨ d = .lst xs) (ih : ∀ x ∈ xs, m__law_same_ r [x, x] h = .ok (.bl true) h) :
    lcGo [] (gN 2) (notT (tru (callX (m__law_same_ r) (aList [(idxX (vX 0) (vX 2)), (idxX (vX 1) (vX 2))])))) (vX 2) [some d, some d, none] ((List.range xs.length).map fun (i : Nat) => D.int (i : Int)) h = .ok [] h := by
  have hi : ∀ k : Nat, idxD h d (.int (k : Int)) = (xs[k]?).map Res.v := fun k => by
    rcases hd with rfl | rfl
    · rw [idx_tup, atI_nat]
    · rw [idx_lst, atI_nat]
  rw [lcGo_map (fun (i : Nat) => D.int (i : Int)) (fun _ => false) (fun _ => D.non) (srcOk_nil h) (List.range xs.length) fun a m => ?_]
  · rw [filter_false]
    rfl
  · have ha : a < xs.length := List.mem_range.mp m
    refine ⟨[some d, some d, some (.int (a : Int))], rfl, ?_, fun q => by cases q⟩
    simp only [wps, lsx, hi, List.getElem?_eq_getElem ha, opt, ih _ (List.getElem_mem ha), tru_bl, Bool.not_true]
theorem same_ok : ∀ {r : Nat} {d : D} {h : Hd}, Pl r d → m__law_same_ r [d, d] h = .ok (.bl true) h
  | 0, _, _, p => nomatch p
  | r + 1, d, h, p => by
    refine wp_is ?_
    show wp (mF 3 2 (f__law_same (m__law_same_ r)) [d, d] h) _
    refine wp_mF rfl ?_
    unfold f__law_same
    cases p with
    | non => simp only [lsx, List.replicate, wps, isis, cmps, tru_bl, bOrT, bAndX, isNon, eqs, beq_self_eq_true, and_self, Nat.reduceAdd, Nat.reduceLeDiff]
    | bl b => simp only [lsx, List.replicate, wps, isis, cmps, tru_bl, bOrT, bAndX, isNon, eqs, beq_self_eq_true, and_self, Nat.reduceAdd, Nat.reduceLeDiff]
    | int i => simp only [lsx, List.replicate, wps, isis, cmps, tru_bl, bOrT, bAndX, isNon, eqs, beq_self_eq_true, and_self, Bool.not_false, Nat.reduceAdd, Nat.reduceLeDiff]
    | str x => simp only [lsx, List.replicate, wps, isis, cmps, tru_bl, bOrT, bAndX, isNon, eqs, beq_self_eq_true, and_self, Nat.reduceAdd, Nat.reduceLeDiff]
    | @tup _ xs z p =>
      have z2 : xs.length < 2 ^ 62 := by rw [sizeLine_val] at z; omega
      have q := same_go (r := r) (d := .tup xs) (h := h) (.inl rfl) fun x m => same_ok (h := h) (p.at_ x m)
      simp only [lsx, List.replicate, wps, isis, cmps, tru_bl, bOrT, isNon, eqs, eqD_lst, beq_self_eq_true, and_self, opt, Bool.not_true, len_tup, if_true, rngD_1 z2, wipeE, q, Nat.reduceAdd, Nat.reduceLeDiff, Nat.zero_le]
    | @lst _ xs z p =>
      have z2 : xs.length < 2 ^ 62 := by rw [sizeLine_val] at z; omega
      have q := same_go (r := r) (d := .lst xs) (h := h) (.inr rfl) fun x m => same_ok (h := h) (p.at_ x m)
      simp only [lsx, List.replicate, wps, isis, cmps, tru_bl, bOrT, isNon, eqs, eqD_lst, beq_self_eq_true, and_self, opt, Bool.not_true, len_lst, if_true, rngD_1 z2, wipeE, q, Nat.reduceAdd, Nat.reduceLeDiff, Nat.zero_le]
end Dk
end S_Q1_k37
end
section
set_option Elab.async false
set_option linter.all false
set_option maxRecDepth 100000
set_option maxHeartbeats 1000000
noncomputable section S_Q2_k37
namespace Dk
open PySem PySem.Spec PyProof.Rows L2
/-! ### words -/
theorem letters_at {i : Int} (h0 : 0 ≤ i) (h1 : i < 26) : atI (S "abcdefghijklmnopqrstuvwxyz").cps.toList i = some (97 + i.toNat) := by
  obtain ⟨k, rfl⟩ := Int.eq_ofNat_of_zero_le h0
  have e : (S "abcdefghijklmnopqrstuvwxyz").cps.toList = (List.range 26).map (97 + ·) := by decide +kernel
  rw [e, atI_nat, List.getElem?_map, List.getElem?_range (by omega)]
  simp
theorem letters_len : (S "abcdefghijklmnopqrstuvwxyz").length ≤ sizeLine := by decide +kernel
def wl (c m cut f k : Nat) : List Nat := (List.replicate m c).take cut ++ [97 + (f + k) % 26, 97 + (3 * f + k / 26) % 26] ++ (List.replicate m c).drop cut ++ (if k % 3 = 2 then [113] else [])
theorem wl_inj {c m cut f k k' : Nat} (hk : k < 676) (hk' : k' < 676) (e : wl c m cut f k = wl c m cut f k') : k = k' := by
  unfold wl at e
  rw [List.append_assoc, List.append_assoc, List.append_assoc, List.append_assoc] at e
  have e1 := List.append_cancel_left e
  simp only [List.cons_append, List.nil_append, List.cons.injEq] at e1
  obtain ⟨a, b, _⟩ := e1
  omega
theorem wl_nm {c m cut f k : Nat} (hm : m ≤ 5) (hc : 97 ≤ c ∧ c ≤ 122) : 0 < (wl c m cut f k).length ∧ (wl c m cut f k).length < 9 ∧ ∀ x ∈ wl c m cut f k, 97 ≤ x ∧ x ≤ 122 := by
  have l : ((List.replicate m c).take cut).length + ((List.replicate m c).drop cut).length = m := by
    rw [List.length_take, List.length_drop, List.length_replicate]
    omega
  have l3 : (if k % 3 = 2 then [113] else ([] : List Nat)).length ≤ 1 := by split <;> simp
  refine ⟨?_, ?_, fun x hx => ?_⟩
  · unfold wl
    simp only [List.length_append, List.length_cons, List.length_nil]
    omega
  · unfold wl
    simp only [List.length_append, List.length_cons, List.length_nil]
    omega
  · unfold wl at hx
    simp only [List.mem_append, List.mem_cons, List.not_mem_nil, or_false] at hx
    rcases hx with ((hx | hx | hx) | hx) | hx
    · rw [List.eq_of_mem_replicate (List.mem_of_mem_take hx)]; exact hc
    · omega
    · omega
    · rw [List.eq_of_mem_replicate (List.mem_of_mem_drop hx)]; exact hc
    · split at hx
      · simp at hx; omega
      · cases hx
theorem nodup_map_range {α : Type} {n : Nat} {f : Nat → α} (inj : ∀ i j, i < n → j < n → f i = f j → i = j) : ((List.range n).map f).Nodup := by
  unfold List.Nodup
  rw [List.pairwise_map]
  exact List.Pairwise.imp_of_mem (fun {a b} ha hb ne e => ne (inj a b (List.mem_range.mp ha) (List.mem_range.mp hb) e)) List.nodup_range
def wstr (c m cut f k : Nat) : Str := ⟨(wl c m cut f k).toArray⟩
end Dk
end S_Q2_k37
end
section
set_option Elab.async false
set_option linter.all false
set_option maxRecDepth 100000
set_option maxHeartbeats 1000000
noncomputable section S_Q3_k37
namespace Dk
open PySem PySem.Spec PyProof.Rows L2
/-! ### names -/
def smallS : Str := S "abcdefghijklmnopqrstuvwxyz"
theorem small_has {c : Nat} : (smallS.cps.contains c) = true ↔ 97 ≤ c ∧ c ≤ 122 := by
  have e : smallS.cps.toList = (List.range 26).map (97 + ·) := by decide +kernel
  rw [Array.contains_iff_mem, ← Array.mem_toList_iff, e, List.mem_map]
  constructor
  · rintro ⟨a, ha, rfl⟩
    have := List.mem_range.mp ha
    omega
  · rintro ⟨h1, h2⟩
    exact ⟨c - 97, List.mem_range.mpr (by omega), by omega⟩
theorem takeWhile_all {α : Type} {p : α → Bool} : ∀ {l : List α}, (∀ a ∈ l, p a = true) → l.takeWhile p = l
  | [], _ => rfl
  | a :: l, h => by
    rw [List.takeWhile_cons, if_pos (h a (List.mem_cons_self ..)), takeWhile_all fun b m => h b (List.mem_cons_of_mem _ m)]
theorem strip_all {x : Str} (h : ∀ c ∈ x.cps.toList, 97 ≤ c ∧ c ≤ 122) : Txt.stripChars x smallS = Str.empty := by
  have hl : stripLo smallS.cps.contains true x = x.length := by
    unfold stripLo
    rw [if_pos rfl, takeWhile_all fun c m => small_has.mpr (h c m)]
    rfl
  have hh : stripHi smallS.cps.contains true x x.length = x.length := by
    unfold stripHi
    have e : x.cps.toList.length = x.length := rfl
    rw [if_pos rfl, List.drop_eq_nil_of_le (Nat.le_of_eq e)]
    rfl
  unfold Txt.stripChars Txt.stripBy stripSame stripped
  rw [hl, hh]
  refine str_ext ?_
  split
  · next q =>
    have q' : x.length = 0 := by
      simp only [Bool.and_eq_true, beq_iff_eq] at q
      exact q.1
    have : x.cps.toList.length = 0 := q'
    rw [List.length_eq_zero_iff.mp this]
    rfl
  · unfold Builtin.Str.strSub
    simp [Str.empty]
end Dk
end S_Q3_k37
end
section
set_option Elab.async false
set_option linter.all false
set_option maxRecDepth 100000
set_option maxHeartbeats 1000000
noncomputable section S_Q4_k37
namespace Dk
open PySem PySem.Spec PyProof.Rows L2
/-! ### piles -/
structure Pst where
  sheets : List Str
  written : List (Str × D)
  ever : List Str
  number : Int
  entries : List D
def encW (l : List (Str × D)) : List (Key × D) := l.map fun p => ((.inr p.1 : Key), p.2)
def encE (l : List Str) : List (Key × D) := l.map fun x => ((.inr x : Key), D.bl true)
def pfs (a b c d : Nat) (n : Int) : Fs := [("sheets", .ref a), ("written", .ref b), ("ever", .ref c), ("number", .int n), ("entries", .ref d)]
theorem lk_sheets {a b c d : Nat} {n : Int} : (pfs a b c d n).lookup "sheets" = some (.ref a) := rfl
theorem lk_written {a b c d : Nat} {n : Int} : (pfs a b c d n).lookup "written" = some (.ref b) := rfl
theorem lk_ever {a b c d : Nat} {n : Int} : (pfs a b c d n).lookup "ever" = some (.ref c) := rfl
theorem lk_number {a b c d : Nat} {n : Int} : (pfs a b c d n).lookup "number" = some (.int n) := rfl
theorem lk_entries {a b c d : Nat} {n : Int} : (pfs a b c d n).lookup "entries" = some (.ref d) := rfl
theorem lk_no {a b c d : Nat} {n : Int} {x : String} (h : x ∉ ["sheets", "written", "ever", "number", "entries"]) : (pfs a b c d n).lookup x = none := by
  unfold pfs
  simp only [List.mem_cons, List.not_mem_nil, or_false, not_or] at h
  obtain ⟨h1, h2, h3, h4, h5⟩ := h
  simp only [List.lookup_cons, List.lookup_nil, beq_eq_false_iff_ne.mpr h1, beq_eq_false_iff_ne.mpr h2, beq_eq_false_iff_ne.mpr h3, beq_eq_false_iff_ne.mpr h4, beq_eq_false_iff_ne.mpr h5]
def lks := And.intro @lk_sheets <| And.intro @lk_written <| And.intro @lk_ever <| And.intro @lk_number @lk_entries
theorem asIns_ob {h : Hd} {p : Nat} {c : String} {fs : Fs} (e : h[p]? = some (.ins c fs)) : asIns h (.ref p) = some (c, fs) := by simp [asIns, e]
theorem getK_encW {l : List (Str × D)} {x : Str} : getK (encW l) (.inr x) = l.lookup x := by
  unfold getK encW
  induction l with
  | nil => rfl
  | cons p l ih =>
    obtain ⟨y, d⟩ := p
    rw [List.map_cons, List.find?_cons, List.lookup_cons]
    by_cases e : y = x
    · subst e
      simp
    · have e1 : decide ((Sum.inr y : Key) = .inr x) = false := decide_eq_false fun z => e (Sum.inr.inj z)
      have e2 : (x == y) = false := beq_eq_false_iff_ne.mpr (Ne.symm e)
      rw [e1, e2]
      exact ih
theorem getK_encE {l : List Str} {x : Str} : (getK (encE l) (.inr x)).isSome = decide (x ∈ l) := by
  unfold getK encE
  induction l with
  | nil => rfl
  | cons y l ih =>
    rw [List.map_cons, List.find?_cons]
    by_cases e : y = x
    · subst e
      simp
    · have e1 : decide ((Sum.inr y : Key) = .inr x) = false := decide_eq_false fun z => e (Sum.inr.inj z)
      rw [e1]
      simp only [List.mem_cons, Ne.symm e, false_or]
      exact ih
theorem putD_encW {l : List (Str × D)} {x : Str} {d : D} (n : x ∉ l.map (·.1)) : putD (encW l) (.inr x) d = encW (l ++ [(x, d)]) := by
  unfold putD
  have e : ((encW l).any fun kv => decide (kv.1 = .inr x)) = false := by
    rw [List.any_eq_false]
    intro kv m
    obtain ⟨p, hp, rfl⟩ := List.mem_map.mp m
    simp only [decide_eq_true_eq]
    exact fun z => n (List.mem_map.mpr ⟨p, hp, Sum.inr.inj z⟩)
  rw [e]
  simp [encW]
theorem putD_encE {l : List Str} {x : Str} (n : x ∉ l) : putD (encE l) (.inr x) (.bl true) = encE (l ++ [x]) := by
  unfold putD
  have e : ((encE l).any fun kv => decide (kv.1 = .inr x)) = false := by
    rw [List.any_eq_false]
    intro kv m
    obtain ⟨p, hp, rfl⟩ := List.mem_map.mp m
    simp only [decide_eq_true_eq]
    exact fun z => n (by rw [← Sum.inr.inj z]; exact hp)
  rw [e]
  simp [encE]
theorem in_dct {h : Hd} {n : Nat} {l : List Str} {x : Str} (e : h[n]? = some (.dct (encE l))) : inD h (.str x) (.ref n) = some (decide (x ∈ l)) := by
  simp [inD, asS, asL, asK, e, keyOf, getK_encE]
theorem inLs_str {x : Str} : ∀ {l : List Str}, inLs (.str x) (l.map D.str) = some (decide (x ∈ l))
  | [] => rfl
  | y :: l => by
    rw [List.map_cons]
    unfold inLs
    rw [inLs_str, show eqD dp (.str y) (.str x) = some (y == x) from rfl]
    simp only [Option.some.injEq]
    by_cases e : y = x
    · subst e; simp
    · simp [e, Ne.symm e]
theorem in_strs {h : Hd} {n : Nat} {l : List Str} {x : Str} (e : h[n]? = some (.lst (l.map D.str))) : inD h (.str x) (.ref n) = some (decide (x ∈ l)) := by
  simp [inD, asS, asL, e, inLs_str]
theorem findI_str {x : Str} : ∀ {l : List Str}, x ∈ l → findI (.str x) (l.map D.str) = some (l.idxOf x)
  | [], m => by cases m
  | y :: l, m => by
    rw [List.map_cons]
    unfold findI
    rw [show eqD dp (.str y) (.str x) = some (y == x) from rfl]
    by_cases e : y = x
    · subst e
      simp
    · have e1 : (y == x) = false := beq_eq_false_iff_ne.mpr e
      rw [e1]
      dsimp only
      rw [findI_str ((List.mem_cons.mp m).resolve_left (Ne.symm e)), List.idxOf_cons, e1]
      rfl
theorem idx_strs {h : Hd} {n : Nat} {l : List Str} {x : Str} (e : h[n]? = some (.lst (l.map D.str))) (m : x ∈ l) : idxLM (.ref n) [.str x] h = .ok (.int (l.idxOf x)) h := by
  have ea : asL h (.ref n) = some (l.map D.str) := by simp [asL, e]
  simp only [idxLM, ea]
  unfold idxL
  rw [if_pos (by rw [inLs_str]; rfl), findI_str m]
theorem selM_idx {h : Hd} {n : Nat} {xs : List D} (e : h[n]? = some (.lst xs)) : selM "index" h (.ref n) = some .idxL := by
  unfold selM
  rw [kd_lst e]
  rfl
theorem selM_ins {h : Hd} {n : Nat} {xs : List D} (e : h[n]? = some (.lst xs)) : selM "insert" h (.ref n) = some .ins := by
  unfold selM
  rw [kd_lst e]
  rfl
theorem ins_strs {h : Hd} {n k : Nat} {xs : List D} {y : D} (e : h[n]? = some (.lst xs)) (z : xs.length < sizeLine) (hk : k < 2 ^ 62) : insM (.ref n) [.int (k : Int), y] h = .ok .non (h.set n (.lst (xs.take k ++ [y] ++ xs.drop k))) := by
  simp only [insM, onL, e, asI]
  rw [if_pos ⟨z, by omega, by omega⟩, Int.toNat_natCast]
section
variable {h : Hd} {p a b c d : Nat} {P : Pst}
end
end Dk
end S_Q4_k37
end
section
set_option Elab.async false
set_option linter.all false
set_option maxRecDepth 100000
set_option maxHeartbeats 1000000
noncomputable section S_Q5_k37
namespace Dk
open PySem PySem.Spec PyProof.Rows L2
theorem keysD_encE (l : List Str) : keysD (encE l) = l.map D.str := by
  unfold keysD encE
  rw [List.map_map]
  rfl
theorem sorted_ref {h : Hd} {n : Nat} {l : List Str} (e : h[n]? = some (.lst (l.map D.str))) (z : l.length ≤ sizeLine) : sortedD h [.ref n] = some (.l ((sortN l).map D.str)) := by
  have : asS h (.ref n) = some (l.map D.str) := by simp [asS, asL, e]
  simp only [sortedD, this]
  exact sorted_strs (h := h) z
theorem sorted_lst {h : Hd} {l : List Str} (z : l.length ≤ sizeLine) : sortedD h [.lst (l.map D.str)] = some (.l ((sortN l).map D.str)) := by
  have : asS h (.lst (l.map D.str)) = some (l.map D.str) := by simp [asS, asL]
  simp only [sortedD, this]
  exact sorted_strs (h := h) z
theorem sorted_keys {h : Hd} {n : Nat} {l : List Str} (e : h[n]? = some (.dct (encE l))) (z : l.length ≤ sizeLine) : sortedD h [.ref n] = some (.l ((sortN l).map D.str)) := by
  have e1 : asS h (.ref n) = none := by simp [asS, asL, e]
  have e2 : asK h (.ref n) = some (encE l) := by simp [asK, e]
  simp only [sortedD, e1, e2, keysD_encE]
  exact sorted_strs (h := h) z
theorem tup_lst {h : Hd} {xs : List D} : tupD h [.lst xs] = some (.v (.tup xs)) := by simp [tupD, asS, asL]
theorem tup_ref {h : Hd} {n : Nat} {xs : List D} (e : h[n]? = some (.lst xs)) : tupD h [.ref n] = some (.v (.tup xs)) := by simp [tupD, asS, asL, e]
theorem idx_dct {h : Hd} {n : Nat} {l : List (Str × D)} {x : Str} (e : h[n]? = some (.dct (encW l))) : idxD h (.ref n) (.str x) = (l.lookup x).map Res.v := by
  simp [idxD, asK, e, getK_encW]
theorem sortN_len (l : List Str) : (sortN l).length = l.length := (sortN_perm l).length_eq
section
variable {h : Hd} {p a b c d : Nat} {P : Pst}
def posOf (l : List Str) (u : Str) : Nat := if u = S "" then 0 else l.idxOf u + 1
def slid (P : Pst) (x u : Str) : Pst := ⟨P.sheets.take (posOf P.sheets u) ++ [x] ++ P.sheets.drop (posOf P.sheets u), P.written ++ [(x, .tup [.int (P.number + 1), .int (P.number + 1), .int (posOf P.sheets u)])], P.ever ++ [x], P.number + 1, P.entries ++ [.tup [.str (S "slide"), .str x, .str u, .int (P.number + 1)]]⟩
theorem put_number {a b c d : Nat} {n m : Int} : putFs "number" (.int m) (pfs a b c d n) = pfs a b c d m := by simp [putFs, pfs]
theorem sto_dct {h : Hd} {n : Nat} {kvs : List (Key × D)} {x : Str} {y : D} (e : h[n]? = some (.dct kvs)) (z : kvs.length < sizeLine) : stoD (.ref n) (.str x) y h = some (h.set n (.dct (putD kvs (.inr x) y))) := by
  simp [stoD, e, keyOf, z]
def tStr (n : Int) : Str := Str.ofString (toString n)
def strOf (n m : Int) : Str := S "pile of " ++ tStr n ++ S " at deed " ++ tStr m
theorem emp_app {x : Str} : Str.empty ++ x = x := str_ext (by rw [str_app]; rfl)
theorem lp1 : (S "pile of ").length = 8 := by decide +kernel
theorem lp2 : (S " at deed ").length = 9 := by decide +kernel
theorem log_ok {n : Int} (z : n.natAbs < 2 ^ 64) : n.natAbs.log2 < 1920 := by
  by_cases c : n.natAbs = 0
  · rw [c]; decide
  · have := (Nat.log2_lt c (k := 64)).mpr z
    omega
theorem strI_ok {tb : MTab} {n : Int} {h : Hd} (z : n.natAbs < 2 ^ 64) : strM tb [.int n] h = .ok (.str (tStr n)) h := by
  unfold strM
  have e1 : isObj h (.int n) = false := rfl
  simp only [e1, strD, if_pos (log_ok z), lf, fin]
  rfl
theorem tStr_len : ∀ n : Fin 40, (tStr (n.val : Int)).length ≤ 1000 := by decide +kernel
end
/-! ### the maker -/
theorem forL_nil {g : TgF} {f : SS} {e : Env} {h : Hd} : forL [] g f [] e h = .ok (.nx e) h := by
  unfold forL
  rw [if_pos (srcOk_nil h)]
theorem lcGo_nil {g : TgF} {t : ST} {f : SE} {e : Env} {h : Hd} : lcGo [] g t f e [] h = .ok [] h := by
  unfold lcGo
  rw [if_pos (srcOk_nil h)]
theorem dcGo_nil {g : TgF} {t : ST} {fk fv : SE} {e : Env} {h : Hd} : dcGo [] g t fk fv e [] [] h = .ok [] h := by
  unfold dcGo
  rw [if_pos (srcOk_nil h)]
theorem enum_nil {h : Hd} : enumD h [.tup []] = some ⟨[], [], true⟩ := rfl
theorem zip_nil {h : Hd} : zipD h [.tup [], .tup []] = some ⟨[], [], true⟩ := rfl
theorem any_nil {h : Hd} : anyD h [.lst []] = some (.v (.bl false)) := rfl
theorem sorted_nilT {h : Hd} : sortedD h [.tup []] = some (.l []) := by
  have : asS h (.tup []) = some [] := rfl
  simp only [sortedD, this]
  have := sorted_strs (h := h) (xs := []) (by simp)
  rw [List.map_nil] at this
  rw [this]
  congr 2
  exact List.eq_nil_of_length_eq_zero (by rw [List.length_map, sortN_len]; rfl)
theorem sorted_nilL {h : Hd} : sortedD h [.lst []] = some (.l []) := by
  have : asS h (.lst []) = some [] := rfl
  simp only [sortedD, this]
  have := sorted_strs (h := h) (xs := []) (by simp)
  rw [List.map_nil] at this
  rw [this]
  congr 2
  exact List.eq_nil_of_length_eq_zero (by rw [List.length_map, sortN_len]; rfl)
theorem lst_nilT {h : Hd} : lstD h [.tup []] = some (.l []) := rfl
section
variable {h : Hd}
theorem here_nil : m_here [.tup []] h = .ok (.tup []) h := by
  refine wp_is (wp_mF rfl ?_)
  unfold f_here
  simp only [lsx, List.replicate, wps, itD_tup, lcGo_nil, tup_lst, Nat.zero_le, and_self]
theorem max_0 : maxD h [.lst [.int 0]] = some (.v (.int 0)) := by
  rfl
theorem putF_new {f : String} {v : D} : ∀ {fs : Fs}, f ∉ fs.map (·.1) → putFs f v fs = fs ++ [(f, v)]
  | [], _ => rfl
  | (g, x) :: r, n => by
    rw [List.map_cons, List.mem_cons, not_or] at n
    unfold putFs
    rw [if_neg (Ne.symm n.1), putF_new n.2]
    rfl
end
end Dk
end S_Q5_k37
end
section
set_option Elab.async false
set_option linter.all false
set_option maxRecDepth 100000
set_option maxHeartbeats 1000000
noncomputable section S_Q10_k37
namespace Dk
open PySem PySem.Spec PyProof.Rows L2
def row (g : Str → Int × Int) (x : Str) : D := .tup [.str x, .int (g x).1, .int (g x).1, .int (g x).2]
theorem sortR_rows {l : List D} (hl : ∀ d ∈ l, ∃ x i j k, d = .tup [.str x, .int i, .int j, .int k]) (z : l.length ≤ sizeLine) : sortR l = some (.l (sortL l)) := by
  have ok : sortOk l := by
    refine ⟨?_, ?_, ?_, ?_⟩
    · rw [plainL_all]
      refine List.all_eq_true.mpr fun d m => ?_
      obtain ⟨x, i, j, k, rfl⟩ := hl d m
      rfl
    · intro d hd d' hd'
      obtain ⟨x, m, rfl⟩ := List.mem_map.mp hd
      obtain ⟨y, m', rfl⟩ := List.mem_map.mp hd'
      obtain ⟨x, i, j, k, rfl⟩ := hl _ m
      obtain ⟨x', i', j', k', rfl⟩ := hl _ m'
      rfl
    · refine .inl fun d hd => ?_
      obtain ⟨x, m, rfl⟩ := List.mem_map.mp hd
      obtain ⟨x, i, j, k, rfl⟩ := hl _ m
      exact ⟨_, _, rfl⟩
    · intro d m
      obtain ⟨x, i, j, k, rfl⟩ := hl d m
      simp [toP, toPs, PyData.depth, PyData.depthAll]
  unfold sortR
  rw [if_pos ⟨ok, z⟩]
theorem sortedD_lst {h : Hd} {l : List D} : sortedD h [.lst l] = sortR l := by
  have : asS h (.lst l) = some l := by simp [asS, asL]
  simp only [sortedD, this]
theorem idx_strsL {h : Hd} {l : List Str} {x : Str} (m : x ∈ l) : idxLM (.lst (l.map D.str)) [.str x] h = .ok (.int (l.idxOf x)) h := by
  have ea : asL h (.lst (l.map D.str)) = some (l.map D.str) := by simp [asL]
  simp only [idxLM, ea]
  unfold idxL
  rw [if_pos (by rw [inLs_str]; rfl), findI_str m]
theorem selM_idxL {h : Hd} {xs : List D} : selM "index" h (.lst xs) = some .idxL := rfl
theorem asIns_L {h : Hd} {xs : List D} : asIns h (.lst xs) = none := rfl
theorem same12 {d : D} {h : Hd} (p : Pl 12 d) : m__law_same [d, d] h = .ok (.bl true) h := same_ok p
theorem pos_idx {l : List Str} {u : Str} : (S "" :: l).idxOf u = posOf l u := by
  unfold posOf
  rw [List.idxOf_cons]
  by_cases e : u = S ""
  · subst e; simp
  · have : (S "" == u) = false := beq_eq_false_iff_ne.mpr (Ne.symm e)
    rw [this, if_neg e]
    rfl
theorem slid_perm {P : Pst} {x u : Str} : (slid P x u).sheets.Perm (x :: P.sheets) := by
  show (P.sheets.take _ ++ [x] ++ P.sheets.drop _).Perm _
  rw [List.append_assoc]
  refine (List.perm_append_comm_assoc _ _ _).trans ?_
  rw [List.take_append_drop]
  exact List.Perm.refl _
theorem lookup_app_new {l : List (Str × D)} {x : Str} {v : D} (n : x ∉ l.map (·.1)) : (l ++ [(x, v)]).lookup x = some v := by
  induction l with
  | nil => simp
  | cons p l ih =>
    obtain ⟨y, w⟩ := p
    rw [List.map_cons, List.mem_cons, not_or] at n
    have e : (x == y) = false := beq_eq_false_iff_ne.mpr n.1
    rw [List.cons_append, List.lookup_cons, e]
    exact ih n.2
theorem lookup_app_old {l : List (Str × D)} {x y : Str} {v : D} (n : y ≠ x) : (l ++ [(x, v)]).lookup y = l.lookup y := by
  induction l with
  | nil =>
    have e : (y == x) = false := beq_eq_false_iff_ne.mpr n
    rw [List.nil_append, List.lookup_cons, e]
  | cons p l ih =>
    obtain ⟨z, w⟩ := p
    rw [List.cons_append, List.lookup_cons, List.lookup_cons, ih]
theorem DealAt.fr {h h' : Hd} {n gi : Nat} {B : List Nat} (A : DealAt h n gi) (F : Fr B h h') (k : ∀ k ∈ [n, gi], k ∉ B) : DealAt h' n gi := by
  obtain ⟨g, l, s, c, b, h1, h2, r⟩ := A
  exact ⟨g, l, s, c, b, F.at_ _ _ h1 (k _ (by simp)), F.at_ _ _ h2 (k _ (by simp)), r⟩
/-- what comes later, hidden -/
def hid (fs : List SS) (k : Nat) : SS := sList (fs.drop k)
theorem wpS_cut {Q : Fl → Hd → Prop} : ∀ (k : Nat) (fs : List SS) {e : Env} {h : Hd}, wpS (sList fs e h) Q = wpS (sList (fs.take k) e h) (nxt (hid fs k) Q)
  | 0, fs, e, h => by rw [List.take_zero]; rfl
  | k + 1, [], e, h => by rw [List.take_nil]; rfl
  | k + 1, f :: fs, e, h => by
    rw [List.take_succ_cons, wpS_cons, wpS_cons]
    congr 1
    funext fl h'
    cases fl with
    | nx e' => exact wpS_cut k fs
    | _ => rfl
end Dk
end S_Q10_k37
end
section
set_option Elab.async false
set_option linter.all false
set_option maxRecDepth 100000
set_option maxHeartbeats 1000000
noncomputable section S_Q7_k37
namespace Dk
open PySem PySem.Spec PyProof.Rows L2
open Classical
/-! ### draw and look -/
theorem rem_strs {h : Hd} {n : Nat} {l : List Str} {x : Str} (e : h[n]? = some (.lst (l.map D.str))) (m : x ∈ l) : remS (.ref n) [.str x] h = .ok .non (h.set n (.lst ((l.eraseIdx (l.idxOf x)).map D.str))) := by
  simp only [remS, onL, e, strsD_map]
  rw [if_pos m]
theorem selM_rem {h : Hd} {n : Nat} {xs : List D} (e : h[n]? = some (.lst xs)) : selM "remove" h (.ref n) = some .rem := by
  unfold selM
  rw [kd_lst e]
  rfl
theorem kd_dct {h : Hd} {n : Nat} {xs : List (Key × D)} (e : h[n]? = some (.dct xs)) : kdOf h (.ref n) = .dct := by simp [kdOf, e]
theorem asIns_dct {h : Hd} {n : Nat} {xs : List (Key × D)} (e : h[n]? = some (.dct xs)) : asIns h (.ref n) = none := by simp [asIns, e]
theorem selM_dpop {h : Hd} {n : Nat} {xs : List (Key × D)} (e : h[n]? = some (.dct xs)) : selM "pop" h (.ref n) = some .dpop := by
  unfold selM
  rw [kd_dct e]
  rfl
def outW (l : List (Str × D)) (x : Str) : List (Str × D) := l.filter fun p => decide (p.1 ≠ x)
theorem outK_encW {l : List (Str × D)} {x : Str} : outK (encW l) (.inr x) = encW (outW l x) := by
  unfold outK encW outW
  rw [List.filter_map]
  congr 1
  refine List.filter_congr fun p _ => ?_
  simp
theorem dpop_W {h : Hd} {n : Nat} {l : List (Str × D)} {x : Str} {v : D} (e : h[n]? = some (.dct (encW l))) (m : l.lookup x = some v) : dpopM (.ref n) [.str x] h = .ok v (h.set n (.dct (encW (outW l x)))) := by
  have e1 : keyOf (.str x) = some (.inr x) := rfl
  simp only [dpopM, onD, e, e1, getK_encW, m, outK_encW]
def setW (l : List (Str × D)) (x : Str) (v : D) : List (Str × D) := l.map fun p => if p.1 = x then (p.1, v) else p
theorem putD_set {l : List (Str × D)} {x : Str} {d : D} (n : x ∈ l.map (·.1)) : putD (encW l) (.inr x) d = encW (setW l x d) := by
  unfold putD
  have e : ((encW l).any fun kv => decide (kv.1 = .inr x)) = true := by
    rw [List.any_eq_true]
    obtain ⟨p, hp, rfl⟩ := List.mem_map.mp n
    exact ⟨_, List.mem_map.mpr ⟨p, hp, rfl⟩, by simp⟩
  rw [e]
  simp only [if_true]
  unfold encW setW
  rw [List.map_map, List.map_map]
  refine List.map_congr_left fun p _ => ?_
  by_cases c : p.1 = x
  · simp [c]
  · simp [c]
def drawn (P : Pst) (x : Str) : Pst := ⟨P.sheets.eraseIdx (P.sheets.idxOf x), outW P.written x, P.ever, P.number + 1, P.entries ++ [.tup [.str (S "draw"), .str x, .int (P.number + 1)]]⟩
def looked (P : Pst) (x : Str) (c : D) : Pst := ⟨P.sheets, setW P.written x (.tup [c, .int (P.number + 1), .int (P.sheets.idxOf x)]), P.ever, P.number + 1, P.entries ++ [.tup [.str (S "look"), .str x, .int (P.number + 1), .int (P.sheets.idxOf x)]]⟩
section
variable {h : Hd} {p a b c d : Nat} {P : Pst}
end
end Dk
end S_Q7_k37
end
section
set_option Elab.async false
set_option linter.all false
set_option maxRecDepth 100000
set_option maxHeartbeats 1000000
noncomputable section S_Q8_k37
namespace Dk
open PySem PySem.Spec PyProof.Rows L2
open Classical
/-! ### the law's own pile: a dict of objects -/
theorem ne_order_notes : ((Sum.inr (S "order") : Key) = Sum.inr (S "notes")) = False := eq_false fun z => absurd (Sum.inr.inj z) (by decide +kernel)
theorem ne_order_ever : ((Sum.inr (S "order") : Key) = Sum.inr (S "ever")) = False := eq_false fun z => absurd (Sum.inr.inj z) (by decide +kernel)
theorem ne_order_last : ((Sum.inr (S "order") : Key) = Sum.inr (S "last")) = False := eq_false fun z => absurd (Sum.inr.inj z) (by decide +kernel)
theorem ne_order_log : ((Sum.inr (S "order") : Key) = Sum.inr (S "log")) = False := eq_false fun z => absurd (Sum.inr.inj z) (by decide +kernel)
theorem ne_order_fresh : ((Sum.inr (S "order") : Key) = Sum.inr (S "fresh")) = False := eq_false fun z => absurd (Sum.inr.inj z) (by decide +kernel)
theorem ne_notes_order : ((Sum.inr (S "notes") : Key) = Sum.inr (S "order")) = False := eq_false fun z => absurd (Sum.inr.inj z) (by decide +kernel)
theorem ne_notes_ever : ((Sum.inr (S "notes") : Key) = Sum.inr (S "ever")) = False := eq_false fun z => absurd (Sum.inr.inj z) (by decide +kernel)
theorem ne_notes_last : ((Sum.inr (S "notes") : Key) = Sum.inr (S "last")) = False := eq_false fun z => absurd (Sum.inr.inj z) (by decide +kernel)
theorem ne_notes_log : ((Sum.inr (S "notes") : Key) = Sum.inr (S "log")) = False := eq_false fun z => absurd (Sum.inr.inj z) (by decide +kernel)
theorem ne_notes_fresh : ((Sum.inr (S "notes") : Key) = Sum.inr (S "fresh")) = False := eq_false fun z => absurd (Sum.inr.inj z) (by decide +kernel)
theorem ne_ever_order : ((Sum.inr (S "ever") : Key) = Sum.inr (S "order")) = False := eq_false fun z => absurd (Sum.inr.inj z) (by decide +kernel)
theorem ne_ever_notes : ((Sum.inr (S "ever") : Key) = Sum.inr (S "notes")) = False := eq_false fun z => absurd (Sum.inr.inj z) (by decide +kernel)
theorem ne_ever_last : ((Sum.inr (S "ever") : Key) = Sum.inr (S "last")) = False := eq_false fun z => absurd (Sum.inr.inj z) (by decide +kernel)
theorem ne_ever_log : ((Sum.inr (S "ever") : Key) = Sum.inr (S "log")) = False := eq_false fun z => absurd (Sum.inr.inj z) (by decide +kernel)
theorem ne_ever_fresh : ((Sum.inr (S "ever") : Key) = Sum.inr (S "fresh")) = False := eq_false fun z => absurd (Sum.inr.inj z) (by decide +kernel)
theorem ne_last_order : ((Sum.inr (S "last") : Key) = Sum.inr (S "order")) = False := eq_false fun z => absurd (Sum.inr.inj z) (by decide +kernel)
theorem ne_last_notes : ((Sum.inr (S "last") : Key) = Sum.inr (S "notes")) = False := eq_false fun z => absurd (Sum.inr.inj z) (by decide +kernel)
theorem ne_last_ever : ((Sum.inr (S "last") : Key) = Sum.inr (S "ever")) = False := eq_false fun z => absurd (Sum.inr.inj z) (by decide +kernel)
theorem ne_last_log : ((Sum.inr (S "last") : Key) = Sum.inr (S "log")) = False := eq_false fun z => absurd (Sum.inr.inj z) (by decide +kernel)
theorem ne_last_fresh : ((Sum.inr (S "last") : Key) = Sum.inr (S "fresh")) = False := eq_false fun z => absurd (Sum.inr.inj z) (by decide +kernel)
theorem ne_log_order : ((Sum.inr (S "log") : Key) = Sum.inr (S "order")) = False := eq_false fun z => absurd (Sum.inr.inj z) (by decide +kernel)
theorem ne_log_notes : ((Sum.inr (S "log") : Key) = Sum.inr (S "notes")) = False := eq_false fun z => absurd (Sum.inr.inj z) (by decide +kernel)
theorem ne_log_ever : ((Sum.inr (S "log") : Key) = Sum.inr (S "ever")) = False := eq_false fun z => absurd (Sum.inr.inj z) (by decide +kernel)
theorem ne_log_last : ((Sum.inr (S "log") : Key) = Sum.inr (S "last")) = False := eq_false fun z => absurd (Sum.inr.inj z) (by decide +kernel)
theorem ne_log_fresh : ((Sum.inr (S "log") : Key) = Sum.inr (S "fresh")) = False := eq_false fun z => absurd (Sum.inr.inj z) (by decide +kernel)
theorem ne_fresh_order : ((Sum.inr (S "fresh") : Key) = Sum.inr (S "order")) = False := eq_false fun z => absurd (Sum.inr.inj z) (by decide +kernel)
theorem ne_fresh_notes : ((Sum.inr (S "fresh") : Key) = Sum.inr (S "notes")) = False := eq_false fun z => absurd (Sum.inr.inj z) (by decide +kernel)
theorem ne_fresh_ever : ((Sum.inr (S "fresh") : Key) = Sum.inr (S "ever")) = False := eq_false fun z => absurd (Sum.inr.inj z) (by decide +kernel)
theorem ne_fresh_last : ((Sum.inr (S "fresh") : Key) = Sum.inr (S "last")) = False := eq_false fun z => absurd (Sum.inr.inj z) (by decide +kernel)
theorem ne_fresh_log : ((Sum.inr (S "fresh") : Key) = Sum.inr (S "log")) = False := eq_false fun z => absurd (Sum.inr.inj z) (by decide +kernel)
def nes := And.intro ne_order_notes <| And.intro ne_order_ever <| And.intro ne_order_last <| And.intro ne_order_log <| And.intro ne_order_fresh <| And.intro ne_notes_order <| And.intro ne_notes_ever <| And.intro ne_notes_last <| And.intro ne_notes_log <| And.intro ne_notes_fresh <| And.intro ne_ever_order <| And.intro ne_ever_notes <| And.intro ne_ever_last <| And.intro ne_ever_log <| And.intro ne_ever_fresh <| And.intro ne_last_order <| And.intro ne_last_notes <| And.intro ne_last_ever <| And.intro ne_last_log <| And.intro ne_last_fresh <| And.intro ne_log_order <| And.intro ne_log_notes <| And.intro ne_log_ever <| And.intro ne_log_last <| And.intro ne_log_fresh <| And.intro ne_fresh_order <| And.intro ne_fresh_notes <| And.intro ne_fresh_ever <| And.intro ne_fresh_last <| ne_fresh_log
def ofs (oo on oe ol of : Nat) (n : Int) : List (Key × D) := [(.inr (S "order"), .ref oo), (.inr (S "notes"), .ref on), (.inr (S "ever"), .ref oe), (.inr (S "last"), .int n), (.inr (S "log"), .ref ol), (.inr (S "fresh"), .ref of)]
section
variable {oo on oe ol of : Nat} {n m : Int}
theorem gk_order : getK (ofs oo on oe ol of n) (.inr (S "order")) = some (.ref oo) := by
  simp only [getK, ofs, List.find?_cons, nes, decide_false, decide_true, Option.map_some]
theorem gk_notes : getK (ofs oo on oe ol of n) (.inr (S "notes")) = some (.ref on) := by
  simp only [getK, ofs, List.find?_cons, nes, decide_false, decide_true, Option.map_some]
theorem gk_ever : getK (ofs oo on oe ol of n) (.inr (S "ever")) = some (.ref oe) := by
  simp only [getK, ofs, List.find?_cons, nes, decide_false, decide_true, Option.map_some]
theorem gk_last : getK (ofs oo on oe ol of n) (.inr (S "last")) = some (.int n) := by
  simp only [getK, ofs, List.find?_cons, nes, decide_false, decide_true, Option.map_some]
theorem gk_log : getK (ofs oo on oe ol of n) (.inr (S "log")) = some (.ref ol) := by
  simp only [getK, ofs, List.find?_cons, nes, decide_false, decide_true, Option.map_some]
theorem gk_fresh : getK (ofs oo on oe ol of n) (.inr (S "fresh")) = some (.ref of) := by
  simp only [getK, ofs, List.find?_cons, nes, decide_false, decide_true, Option.map_some]
theorem pk_last : putD (ofs oo on oe ol of n) (.inr (S "last")) (.int m) = ofs oo on oe ol of m := by
  simp only [putD, ofs, List.any_cons, nes, decide_false, decide_true, Bool.false_or, Bool.true_or, if_true, List.map_cons, List.map_nil, if_false]
end
structure OwnAt (h : Hd) (o oo on oe ol of : Nat) (P : Pst) (fr : List Str) : Prop where
  ob : h[o]? = some (.dct (ofs oo on oe ol of P.number))
  od : h[oo]? = some (.lst (P.sheets.map D.str))
  no : h[on]? = some (.dct (encW P.written))
  ev : h[oe]? = some (.lst (P.ever.map D.str))
  lo : h[ol]? = some (.lst P.entries)
  fr : h[of]? = some (.lst (fr.map D.str))
  nd : [o, oo, on, oe, ol, of].Nodup
section
variable {h : Hd} {o oo on oe ol of : Nat} {P : Pst} {fr : List Str}
theorem OwnAt.g_order (A : OwnAt h o oo on oe ol of P fr) : idxD h (.ref o) (.str (S "order")) = some (.v (.ref oo)) := by
  simp only [idxD, asK, A.ob, gk_order, Option.map_some]
theorem OwnAt.g_notes (A : OwnAt h o oo on oe ol of P fr) : idxD h (.ref o) (.str (S "notes")) = some (.v (.ref on)) := by
  simp only [idxD, asK, A.ob, gk_notes, Option.map_some]
theorem OwnAt.g_ever (A : OwnAt h o oo on oe ol of P fr) : idxD h (.ref o) (.str (S "ever")) = some (.v (.ref oe)) := by
  simp only [idxD, asK, A.ob, gk_ever, Option.map_some]
theorem OwnAt.g_last (A : OwnAt h o oo on oe ol of P fr) : idxD h (.ref o) (.str (S "last")) = some (.v (.int P.number)) := by
  simp only [idxD, asK, A.ob, gk_last, Option.map_some]
theorem OwnAt.g_log (A : OwnAt h o oo on oe ol of P fr) : idxD h (.ref o) (.str (S "log")) = some (.v (.ref ol)) := by
  simp only [idxD, asK, A.ob, gk_log, Option.map_some]
theorem OwnAt.g_fresh (A : OwnAt h o oo on oe ol of P fr) : idxD h (.ref o) (.str (S "fresh")) = some (.v (.ref of)) := by
  simp only [idxD, asK, A.ob, gk_fresh, Option.map_some]
end
/-! ### dict displays -/
section
variable {e : Env} {h : Hd}
theorem wp_dispNil {acc : List (Key × D)} {Q : List (Key × D) → Hd → Prop} : wp (dispGo [] e acc h) Q = Q acc h := rfl
theorem wp_dispCons {fk fv : SE} {r : List (SE × SE)} {acc : List (Key × D)} {Q : List (Key × D) → Hd → Prop} : wp (dispGo ((fk, fv) :: r) e acc h) Q = wp (fk e h) fun y h1 => wp (fv e h1) fun z h2 => match keyOf y with
    | some k => wp (dispGo r e (acc ++ [(k, z)]) h2) Q
    | none => False := by
  conv => lhs; unfold dispGo
  cases fk e h with
  | fail => rfl
  | ex _ _ _ => rfl
  | ok y h1 =>
    dsimp only [wp]
    cases fv e h1 with
    | fail => rfl
    | ex _ _ _ => rfl
    | ok z h2 =>
      dsimp only [wp]
      cases keyOf y <;> rfl
theorem wp_dispX {mu : Bool} {prs : List (SE × SE)} {Q : D → Hd → Prop} : wp (dispX mu prs e h) Q = wp (dispGo prs e [] h) fun kvs h1 => kvs.length ≤ 15 ∧ wp (fin mu (.d (mergeD [] kvs)) h1) Q := by
  unfold dispX
  rw [wp_bd]
  congr
  funext kvs h1
  by_cases c : kvs.length ≤ 15
  · simp [c]
  · simp only [if_neg c, c, false_and]
    rfl
end
theorem key_str {x : Str} : keyOf (.str x) = some (.inr x) := rfl
end Dk
end S_Q8_k37
end
section
set_option Elab.async false
set_option linter.all false
set_option maxRecDepth 100000
set_option maxHeartbeats 1000000
noncomputable section S_Q9_k37
namespace Dk
open PySem PySem.Spec PyProof.Rows L2
open Classical
/-! ### a drawn deed -/
inductive IsDeed (P : Pst) (T : Nat) : List Str → D → List Str → Prop
  | slide (x u : Str) (fr : List Str) : (u = S "" ∨ u ∈ P.sheets) → (P.sheets = [] ∨ P.sheets.length < T) → IsDeed P T (x :: fr) (.tup [.str (S "slide"), .str x, .str u]) fr
  | draw (x : Str) (fr : List Str) : x ∈ P.sheets → IsDeed P T fr (.tup [.str (S "draw"), .str x]) fr
  | look (x : Str) (fr : List Str) : x ∈ P.sheets → IsDeed P T fr (.tup [.str (S "look"), .str x]) fr
theorem OwnAt.fr' {h h' : Hd} {o oo on oe ol of : Nat} {P : Pst} {fr : List Str} {B : List Nat} (A : OwnAt h o oo on oe ol of P fr) (F : Fr B h h') (n : ∀ k ∈ [o, oo, on, oe, ol, of], k ∉ B) : OwnAt h' o oo on oe ol of P fr :=
  ⟨F.at_ _ _ A.ob (n _ (by simp)), F.at_ _ _ A.od (n _ (by simp)), F.at_ _ _ A.no (n _ (by simp)), F.at_ _ _ A.ev (n _ (by simp)), F.at_ _ _ A.lo (n _ (by simp)), F.at_ _ _ A.fr (n _ (by simp)), A.nd⟩
theorem eq_nil {h : Hd} {n : Nat} {l : List Str} (e : h[n]? = some (.lst (l.map D.str))) : cmpB .Eq h (.ref n) (.lst []) = some l.isEmpty := by
  simp only [cmps, rs_ref e, rs_lst, eqD_lst]
  cases l <;> rfl
theorem ne_nil {h : Hd} {n : Nat} {l : List Str} (e : h[n]? = some (.lst (l.map D.str))) : cmpB .NotEq h (.ref n) (.lst []) = some (!l.isEmpty) := by
  simp only [cmps, rs_ref e, rs_lst, eqD_lst]
  cases l <;> rfl
end Dk
end S_Q9_k37
end
section
set_option Elab.async false
set_option linter.all false
set_option maxRecDepth 100000
set_option maxHeartbeats 1000000
noncomputable section S_Q11_k37
namespace Dk
open PySem PySem.Spec PyProof.Rows L2
open Classical
/-! ### the law's own deeds -/
theorem kn_sd : (S "slide" == S "slide") = true := beq_self_eq_true _
theorem kn_ds : (S "draw" == S "slide") = false := by decide +kernel
theorem kn_ls : (S "look" == S "slide") = false := by decide +kernel
theorem kn_dd : (S "draw" == S "draw") = true := beq_self_eq_true _
theorem kn_ld : (S "look" == S "draw") = false := by decide +kernel
def kns := And.intro kn_sd <| And.intro kn_ds <| And.intro kn_ls <| And.intro kn_dd kn_ld
theorem pop_at {h : Hd} {n k : Nat} {xs : List D} {y : D} (e : h[n]? = some (.lst xs)) (hy : xs[k]? = some y) (hk : xs.length < 2 ^ 62) : popM (.ref n) [.int (k : Int)] h = .ok y (h.set n (.lst (xs.eraseIdx k))) := by
  have hl : k < xs.length := (List.getElem?_eq_some_iff.mp hy).1
  have q : seqIndex? (k : Int) xs.length = some k := by
    unfold seqIndex?
    simp
    omega
  simp only [popM, onL, e, asI]
  rw [if_pos (by omega), q]
  simp only [hy]
section
variable {h : Hd} {o oo on oe ol of : Nat} {P : Pst} {fr : List Str}
theorem OwnAt.ne (A : OwnAt h o oo on oe ol of P fr) : (o ≠ oo ∧ o ≠ on ∧ o ≠ oe ∧ o ≠ ol ∧ o ≠ of) ∧ (oo ≠ on ∧ oo ≠ oe ∧ oo ≠ ol ∧ oo ≠ of) ∧ (on ≠ oe ∧ on ≠ ol ∧ on ≠ of) ∧ (oe ≠ ol ∧ oe ≠ of) ∧ ol ≠ of := by
  have nd := A.nd
  simp only [List.nodup_cons, List.mem_cons, List.not_mem_nil, or_false, not_or, not_false_eq_true, List.nodup_nil, and_true] at nd
  exact ⟨nd.1, nd.2.1, nd.2.2.1, nd.2.2.2.1, nd.2.2.2.2⟩
theorem own_la {m : Int} (A : OwnAt h o oo on oe ol of P fr) : OwnAt (h.set o (.dct (ofs oo on oe ol of m))) o oo on oe ol of ⟨P.sheets, P.written, P.ever, m, P.entries⟩ fr := by
  obtain ⟨⟨n1, n2, n3, n4, n5⟩, ⟨n6, n7, n8, n9⟩, ⟨n10, n11, n12⟩, ⟨n13, n14⟩, n15⟩ := A.ne
  refine ⟨set_at A.ob, ?_, ?_, ?_, ?_, ?_, A.nd⟩
  · rw [set_out n1]; exact A.od
  · rw [set_out n2]; exact A.no
  · rw [set_out n3]; exact A.ev
  · rw [set_out n4]; exact A.lo
  · rw [set_out n5]; exact A.fr
theorem own_od {s : List Str} (A : OwnAt h o oo on oe ol of P fr) : OwnAt (h.set oo (.lst (s.map D.str))) o oo on oe ol of ⟨s, P.written, P.ever, P.number, P.entries⟩ fr := by
  obtain ⟨⟨n1, n2, n3, n4, n5⟩, ⟨n6, n7, n8, n9⟩, ⟨n10, n11, n12⟩, ⟨n13, n14⟩, n15⟩ := A.ne
  refine ⟨?_, set_at A.od, ?_, ?_, ?_, ?_, A.nd⟩
  · rw [set_out (Ne.symm n1)]; exact A.ob
  · rw [set_out n6]; exact A.no
  · rw [set_out n7]; exact A.ev
  · rw [set_out n8]; exact A.lo
  · rw [set_out n9]; exact A.fr
theorem own_no {w : List (Str × D)} (A : OwnAt h o oo on oe ol of P fr) : OwnAt (h.set on (.dct (encW w))) o oo on oe ol of ⟨P.sheets, w, P.ever, P.number, P.entries⟩ fr := by
  obtain ⟨⟨n1, n2, n3, n4, n5⟩, ⟨n6, n7, n8, n9⟩, ⟨n10, n11, n12⟩, ⟨n13, n14⟩, n15⟩ := A.ne
  refine ⟨?_, ?_, set_at A.no, ?_, ?_, ?_, A.nd⟩
  · rw [set_out (Ne.symm n2)]; exact A.ob
  · rw [set_out (Ne.symm n6)]; exact A.od
  · rw [set_out n10]; exact A.ev
  · rw [set_out n11]; exact A.lo
  · rw [set_out n12]; exact A.fr
theorem own_lo {l : List D} (A : OwnAt h o oo on oe ol of P fr) : OwnAt (h.set ol (.lst l)) o oo on oe ol of ⟨P.sheets, P.written, P.ever, P.number, l⟩ fr := by
  obtain ⟨⟨n1, n2, n3, n4, n5⟩, ⟨n6, n7, n8, n9⟩, ⟨n10, n11, n12⟩, ⟨n13, n14⟩, n15⟩ := A.ne
  refine ⟨?_, ?_, ?_, ?_, set_at A.lo, ?_, A.nd⟩
  · rw [set_out (Ne.symm n4)]; exact A.ob
  · rw [set_out (Ne.symm n8)]; exact A.od
  · rw [set_out (Ne.symm n11)]; exact A.no
  · rw [set_out (Ne.symm n13)]; exact A.ev
  · rw [set_out n15]; exact A.fr
theorem sto_last (A : OwnAt h o oo on oe ol of P fr) : stoD (.ref o) (.str (S "last")) (.int (P.number + 1)) h = some (h.set o (.dct (ofs oo on oe ol of (P.number + 1)))) := by
  rw [sto_dct A.ob (by rw [sizeLine_val]; simp [ofs]), pk_last]
theorem erase_map {α β : Type} {f : α → β} : ∀ (l : List α) (k : Nat), (l.map f).eraseIdx k = (l.eraseIdx k).map f
  | [], _ => rfl
  | _ :: _, 0 => rfl
  | a :: l, k + 1 => by simp [erase_map l k]
end
end Dk
end S_Q11_k37
end
section
set_option Elab.async false
set_option linter.all false
set_option maxRecDepth 100000
set_option maxHeartbeats 1000000
noncomputable section S_Q12_k37
namespace Dk
open PySem PySem.Spec PyProof.Rows L2
open Classical
/-! ### a log shown -/
inductive Part : D → Prop
  | str (x : Str) : x.length ≤ 8 → (∀ c ∈ x.cps.toList, c < 16 ^ 8) → Part (.str x)
  | int (n : Nat) : n < 64 → Part (.int n)
inductive Ent : D → Prop
  | mk (xs : List D) : xs.length ≤ 4 → (∀ x ∈ xs, Part x) → Ent (.tup xs)
theorem int_short : ∀ n : Fin 64, decide ((PyData.shown (.int (n.val : Int))).length ≤ 100) = true := by decide +kernel
theorem int_log : ∀ n : Fin 64, (PyData.weight (.int (n.val : Int))) ≤ 10 ∧ ((n.val : Int).natAbs.log2 < 1920) := by decide +kernel
structure Lf (k w : Nat) (P : PyData) : Prop where
  a : P.leavesShort 100 = true
  b : P.showable = true
  c : P.depth ≤ k
  d : P.weight ≤ w
theorem Part.leaf {d : D} (p : Part d) : Lf 0 10 (toP d) ∧ plainB d = true := by
  cases p with
  | str x h1 h2 =>
    refine ⟨⟨?_, by simp [toP, PyData.showable], by simp [toP, PyData.depth], ?_⟩, rfl⟩
    · simp only [toP, PyData.leavesShort, List.all_eq_true, decide_eq_true_eq]
      exact h2
    · simp only [toP, PyData.weight]
      have : x.cps.size = x.length := rfl
      omega
  | int n h =>
    refine ⟨⟨?_, ?_, by simp [toP, PyData.depth], ?_⟩, rfl⟩
    · simp only [toP, PyData.leavesShort]
      exact int_short ⟨n, h⟩
    · simp only [toP, PyData.showable]
      exact decide_eq_true (int_log ⟨n, h⟩).2
    · exact (int_log ⟨n, h⟩).1
theorem lf_all {k w : Nat} : ∀ {xs : List D}, (∀ x ∈ xs, Lf k w (toP x) ∧ plainB x = true) → (PyData.leavesShortAll 100 (toPs xs) = true ∧ PyData.showableAll (toPs xs) = true ∧ PyData.depthAll (toPs xs) ≤ k ∧ PyData.weightAll (toPs xs) ≤ xs.length * (w + 1)) ∧ plainL xs = true
  | [], _ => by simp [toPs, PyData.leavesShortAll, PyData.showableAll, PyData.depthAll, PyData.weightAll, plainL]
  | x :: xs, h => by
    obtain ⟨⟨h1, h2, h3, h4⟩, h5⟩ := lf_all fun y m => h y (List.mem_cons_of_mem _ m)
    obtain ⟨⟨g1, g2, g3, g4⟩, g5⟩ := h x (List.mem_cons_self ..)
    refine ⟨⟨?_, ?_, ?_, ?_⟩, ?_⟩
    · simp [toPs, PyData.leavesShortAll, g1, h1]
    · simp [toPs, PyData.showableAll, g2, h2]
    · simp only [toPs, PyData.depthAll]
      exact Nat.max_le.mpr ⟨g3, h3⟩
    · simp only [toPs, PyData.weightAll, List.length_cons]
      rw [Nat.add_mul, Nat.one_mul]
      omega
    · simp [plainL, g5, h5]
theorem Ent.leaf {d : D} (p : Ent d) : Lf 1 44 (toP d) ∧ plainB d = true := by
  obtain ⟨xs, h1, h2⟩ := p
  obtain ⟨⟨g1, g2, g3, g4⟩, g5⟩ := lf_all fun x m => (h2 x m).leaf
  refine ⟨⟨?_, ?_, ?_, ?_⟩, ?_⟩
  · simpa [toP, PyData.leavesShort] using g1
  · simpa [toP, PyData.showable] using g2
  · simp only [toP, PyData.depth]
    omega
  · simp only [toP, PyData.weight]
    omega
  · simpa [plainB] using g5
theorem repr_log {es : List D} (he : ∀ d ∈ es, Ent d) (hl : es.length ≤ 1000) : ∃ s, ∀ (h : Hd) (n : Nat), h[n]? = some (.lst es) → reprD h [.ref n] = some (.v (.str s)) := by
  obtain ⟨⟨g1, g2, g3, g4⟩, g5⟩ := lf_all fun x m => (he x m).leaf
  refine ⟨(PyData.list (toPs es)).shown, fun h n e => ?_⟩
  have ea : asL h (.ref n) = some es := by simp [asL, e]
  simp only [reprD, ea, g5, if_true]
  unfold reprR
  have z := PyData.shown_le 100 (by decide) (.list (toPs es)) (by simpa [PyData.leavesShort] using g1)
  have w : (PyData.list (toPs es)).weight ≤ 45000 := by
    simp only [PyData.weight]
    omega
  rw [if_pos]
  refine ⟨by simpa [PyData.showable] using g2, by simp only [PyData.depth]; omega, ?_⟩
  rw [sizeLine_val]
  omega
theorem Ent.pl {d : D} (p : Ent d) : Pl 3 d := by
  obtain ⟨xs, h1, h2⟩ := p
  refine .tup (by rw [sizeLine_val]; omega) (Pls.of fun x m => ?_)
  cases h2 x m with
  | str x _ _ => exact .str x
  | int n _ => exact .int _
/-! ### same, of two lists -/
section
variable {h : Hd}
theorem isi_ref_tl {n : Nat} {xs : List D} (e : h[n]? = some (.lst xs)) : isiD h [.ref n, .tup [.ty "tuple", .ty "list"]] = some (.v (.bl true)) := isi_ofT (t := "list") (by simp [tyN, e]) (by decide)
theorem isi_ref_t {n : Nat} {xs : List D} (e : h[n]? = some (.lst xs)) : isiD h [.ref n, .ty "tuple"] = some (.v (.bl false)) := isi_of (t := "list") (by simp [tyN, e]) (by decide) (by decide)
theorem isi_ref_l {n : Nat} {xs : List D} (e : h[n]? = some (.lst xs)) : isiD h [.ref n, .ty "list"] = some (.v (.bl true)) := isi_of (t := "list") (by simp [tyN, e]) (by decide) (by decide)
theorem same_go2 {r : Nat} {xs ys : List D} {d d' : D} (hl : xs.length = ys.length) (hd : ∀ k : Nat, idxD h d (.int (k : Int)) = (xs[k]?).map Res.v) (hd' : ∀ k : Nat, idxD h d' (.int (k : Int)) = (ys[k]?).map Res.v) (ih : ∀ (k : Nat) x y, xs[k]? = some x → ys[k]? = some y → m__law_same_ r [x, y] h = .ok (.bl true) h) :
    lcGo [] (gN 2) (notT (tru (callX (m__law_same_ r) (aList [(idxX (vX 0) (vX 2)), (idxX (vX 1) (vX 2))])))) (vX 2) [some d, some d', none] ((List.range ys.length).map fun (i : Nat) => D.int (i : Int)) h = .ok [] h := by
  rw [lcGo_map (fun (i : Nat) => D.int (i : Int)) (fun _ => false) (fun _ => D.non) (srcOk_nil h) (List.range ys.length) fun a m => ?_]
  · rw [filter_false]
    rfl
  · have ha : a < ys.length := List.mem_range.mp m
    have hb : a < xs.length := by omega
    refine ⟨[some d, some d', some (.int (a : Int))], rfl, ?_, fun q => by cases q⟩
    simp only [wps, lsx, hd, hd', List.getElem?_eq_getElem ha, List.getElem?_eq_getElem hb, opt, ih a _ _ (List.getElem?_eq_getElem hb) (List.getElem?_eq_getElem ha), tru_bl, Bool.not_true]
theorem same_ref {r n m : Nat} {xs : List D} (z : xs.length ≤ sizeLine) (e : h[n]? = some (.lst xs)) (e' : h[m]? = some (.lst xs)) (p : Pls r xs) : m__law_same_ (r + 1) [.ref n, .ref m] h = .ok (.bl true) h := by
  refine wp_is ?_
  show wp (mF 3 2 (f__law_same (m__law_same_ r)) [.ref n, .ref m] h) _
  refine wp_mF rfl ?_
  unfold f__law_same
  have z2 : xs.length < 2 ^ 62 := by rw [sizeLine_val] at z; omega
  have q := same_go2 (h := h) (r := r) (xs := xs) (ys := xs) (d := .ref n) (d' := .ref m) rfl (fun k => by rw [idx_ref e, atI_nat]) (fun k => by rw [idx_ref e', atI_nat]) fun k x y e1 e2 => by
    rw [e1] at e2
    cases e2
    exact same_ok (p.at_ x (List.mem_of_getElem? e1))
  simp only [lsx, List.replicate, wps, isi_ref_tl e', isi_ref_t e, isi_ref_t e', isi_ref_l e, isi_ref_l e', cmps, tru_bl, bOrT, isNon, eqs, eqD_lst, beq_self_eq_true, and_self, opt, Bool.not_true, len_ref e, len_ref e', if_true, rngD_1 z2, wipeE, q, Nat.reduceAdd, Nat.reduceLeDiff, Nat.zero_le]
theorem same_lst2 {r : Nat} {xs ys : List D} (z : ys.length ≤ sizeLine) (hl : xs.length = ys.length) (ih : ∀ (k : Nat) x y, xs[k]? = some x → ys[k]? = some y → m__law_same_ r [x, y] h = .ok (.bl true) h) : m__law_same_ (r + 1) [.lst xs, .lst ys] h = .ok (.bl true) h := by
  refine wp_is ?_
  show wp (mF 3 2 (f__law_same (m__law_same_ r)) [.lst xs, .lst ys] h) _
  refine wp_mF rfl ?_
  unfold f__law_same
  have z2 : ys.length < 2 ^ 62 := by rw [sizeLine_val] at z; omega
  have q := same_go2 (h := h) (r := r) (xs := xs) (ys := ys) (d := .lst xs) (d' := .lst ys) hl (fun k => by rw [idx_lst, atI_nat]) (fun k => by rw [idx_lst, atI_nat]) ih
  simp only [lsx, List.replicate, wps, isis, cmps, tru_bl, bOrT, isNon, eqs, eqD_lst, beq_self_eq_true, and_self, opt, Bool.not_true, len_lst, hl, if_true, rngD_1 z2, wipeE, q, Nat.reduceAdd, Nat.reduceLeDiff, Nat.zero_le]
end
end Dk
end S_Q12_k37
end
section
set_option Elab.async false
set_option linter.all false
set_option maxRecDepth 100000
set_option maxHeartbeats 1000000
noncomputable section S_Q13_k37
namespace Dk
open PySem PySem.Spec PyProof.Rows L2
open Classical
/-! ### what the law looks at behind each deed -/
def T3 (v : D) : Prop := ∃ a b c : Int, v = .tup [.int a, .int b, .int c]
theorem T3.pl {v : D} (t : T3 v) : Pl 3 v := by
  obtain ⟨a, b, c, rfl⟩ := t
  exact .tup (by simp [sizeLine_val]) (.cons (.int _) (.cons (.int _) (.cons (.int _) .nil)))
theorem T3.ne {v : D} {h : Hd} (t : T3 v) : cmpB .NotEq h v v = some false := by
  have e : rs h v = v := by obtain ⟨a, b, c, rfl⟩ := t; rfl
  rw [cmp_ne, e, eqD_self (t.pl.up (by decide))]
  rfl
section
variable {h : Hd} {p a b c d : Nat} {P : Pst} {o oo on oe ol of : Nat} {fr : List Str}
theorem in_dctW {W : List (Str × D)} {x : Str} : inD h (.str x) (.dct (encW W)) = some (W.lookup x).isSome := by
  simp [inD, asS, asL, asK, keyOf, getK_encW]
theorem idx_dctW {W : List (Str × D)} {x : Str} : idxD h (.dct (encW W)) (.str x) = (W.lookup x).map Res.v := by
  simp [idxD, asK, getK_encW]
theorem lk_or {a b c d : Nat} {n : Int} : (pfs a b c d n).lookup "order" = none := lk_no (by decide)
theorem lk_lo {a b c d : Nat} {n : Int} : (pfs a b c d n).lookup "lore" = none := lk_no (by decide)
theorem lk_kn {a b c d : Nat} {n : Int} : (pfs a b c d n).lookup "known" = none := lk_no (by decide)
theorem lk_la {a b c d : Nat} {n : Int} : (pfs a b c d n).lookup "last" = none := lk_no (by decide)
theorem lk_lg {a b c d : Nat} {n : Int} : (pfs a b c d n).lookup "log" = none := lk_no (by decide)
theorem lk_de {a b c d : Nat} {n : Int} : (pfs a b c d n).lookup "depth" = none := lk_no (by decide)
theorem lk_sl {a b c d : Nat} {n : Int} : (pfs a b c d n).lookup "slide" = none := lk_no (by decide)
theorem lk_dr {a b c d : Nat} {n : Int} : (pfs a b c d n).lookup "draw" = none := lk_no (by decide)
theorem lk_lk {a b c d : Nat} {n : Int} : (pfs a b c d n).lookup "look" = none := lk_no (by decide)
def lkm := And.intro @lk_or <| And.intro @lk_lo <| And.intro @lk_kn <| And.intro @lk_la <| And.intro @lk_lg <| And.intro @lk_de <| And.intro @lk_sl <| And.intro @lk_dr @lk_lk
theorem tStr_len64 : ∀ n : Fin 64, (tStr (n.val : Int)).length ≤ 1000 := by decide +kernel
end
end Dk
end S_Q13_k37
end
section
set_option Elab.async false
set_option linter.all false
set_option maxRecDepth 100000
set_option maxHeartbeats 1000000
noncomputable section S_Q14_k37
namespace Dk
open PySem PySem.Spec PyProof.Rows L2
open Classical
/-! ### a deed in both piles -/
theorem mem_out {x y : Str} : ∀ {l : List Str}, l.Nodup → (y ∈ l.eraseIdx (l.idxOf x) ↔ y ≠ x ∧ y ∈ l)
  | [], _ => by simp
  | z :: l, nd => by
    obtain ⟨n1, n2⟩ := List.nodup_cons.mp nd
    rw [List.idxOf_cons]
    by_cases e : z = x
    · subst e
      rw [beq_self_eq_true]
      simp only [cond_true, List.eraseIdx_cons_zero, List.mem_cons]
      exact ⟨fun m => ⟨fun q => n1 (q ▸ m), .inr m⟩, fun ⟨q, m⟩ => m.resolve_left q⟩
    · have e1 : (z == x) = false := beq_eq_false_iff_ne.mpr e
      rw [e1]
      simp only [cond_false, List.eraseIdx_cons_succ, List.mem_cons]
      rw [mem_out n2]
      constructor
      · rintro (q | ⟨q, m⟩)
        · exact ⟨q ▸ e, .inl q⟩
        · exact ⟨q, .inr m⟩
      · rintro ⟨q, m | m⟩
        · exact .inl m
        · exact .inr ⟨q, m⟩
theorem lookup_out {x y : Str} (n : y ≠ x) : ∀ {l : List (Str × D)}, (outW l x).lookup y = l.lookup y
  | [] => rfl
  | (z, w) :: l => by
    unfold outW
    rw [List.filter_cons]
    by_cases e : z = x
    · subst e
      have e2 : (y == z) = false := beq_eq_false_iff_ne.mpr n
      rw [if_neg (by simp), List.lookup_cons, e2]
      exact lookup_out n
    · rw [if_pos (by simpa using e), List.lookup_cons, List.lookup_cons]
      have := lookup_out n (l := l)
      unfold outW at this
      rw [this]
theorem keys_out {x y : Str} {l : List (Str × D)} (m : y ∈ (outW l x).map (·.1)) : y ≠ x ∧ y ∈ l.map (·.1) := by
  obtain ⟨q, hq, rfl⟩ := List.mem_map.mp m
  obtain ⟨h1, h2⟩ := List.mem_filter.mp hq
  exact ⟨by simpa using h2, List.mem_map.mpr ⟨q, h1, rfl⟩⟩
theorem keys_set {x : Str} {v : D} {l : List (Str × D)} : (setW l x v).map (·.1) = l.map (·.1) := by
  unfold setW
  rw [List.map_map]
  refine List.map_congr_left fun q _ => ?_
  simp only [Function.comp]
  split <;> rfl
theorem lookup_set {x y : Str} {v : D} (n : y ≠ x) : ∀ {l : List (Str × D)}, (setW l x v).lookup y = l.lookup y
  | [] => rfl
  | (z, w) :: l => by
    have ih := lookup_set n (v := v) (l := l)
    unfold setW at ih ⊢
    rw [List.map_cons]
    by_cases e : z = x
    · have e2 : (y == z) = false := beq_eq_false_iff_ne.mpr (by rw [e]; exact n)
      rw [if_pos e, List.lookup_cons, List.lookup_cons]
      simp only [e2]
      exact ih
    · rw [if_neg e, List.lookup_cons, List.lookup_cons, ih]
theorem lookup_set_at {x : Str} {v : D} : ∀ {l : List (Str × D)}, x ∈ l.map (·.1) → (setW l x v).lookup x = some v
  | [], m => by simp at m
  | (z, w) :: l, m => by
    unfold setW
    rw [List.map_cons]
    by_cases e : z = x
    · rw [if_pos e, List.lookup_cons]
      subst e
      simp
    · have e2 : (x == z) = false := beq_eq_false_iff_ne.mpr (Ne.symm e)
      rw [if_neg e, List.lookup_cons]
      simp only [e2]
      exact lookup_set_at ((List.mem_cons.mp m).resolve_left (Ne.symm e))
theorem lookup_key {x : Str} {v : D} : ∀ {l : List (Str × D)}, l.lookup x = some v → x ∈ l.map (·.1)
  | [], e => by cases e
  | (z, w) :: l, e => by
    rw [List.lookup_cons] at e
    by_cases q : x = z
    · exact List.mem_cons.mpr (.inl q)
    · have e2 : (x == z) = false := beq_eq_false_iff_ne.mpr q
      rw [e2] at e
      exact List.mem_cons_of_mem _ (lookup_key e)
structure Inv (ws : List Str) (i : Nat) (P : Pst) (fr : List Str) : Prop where
  nu : P.number = i
  el : P.entries.length = i
  nd : P.sheets.Nodup
  sz : P.sheets.length ≤ 12
  ev : P.ever ++ fr = ws
  evl : P.ever.length ≤ i
  sub : ∀ x ∈ P.sheets, x ∈ P.ever
  ks : ∀ x, x ∈ P.written.map (·.1) → x ∈ P.sheets
  wl : P.written.length ≤ i
  lk : ∀ x ∈ P.sheets, ∃ v, P.written.lookup x = some v ∧ T3 v
  en : ∀ e ∈ P.entries, Ent e
theorem part_nm {x : Str} (n : Nm x) : Part (.str x) := .str x (by have := n.hi; omega) fun c m => by
  have := (n.small c m).2
  omega
theorem part_empty : Part (.str (S "")) := .str _ (by decide +kernel) (by decide +kernel)
theorem part_slide : Part (.str (S "slide")) := .str _ (by decide +kernel) (by decide +kernel)
theorem part_draw : Part (.str (S "draw")) := .str _ (by decide +kernel) (by decide +kernel)
theorem part_look : Part (.str (S "look")) := .str _ (by decide +kernel) (by decide +kernel)
theorem ent_app {es : List D} {e : D} (h : ∀ d ∈ es, Ent d) (he : Ent e) : ∀ d ∈ es ++ [e], Ent d := fun d m => by
  rcases List.mem_append.mp m with m | m
  · exact h d m
  · rw [List.mem_singleton.mp m]
    exact he
section
variable {ws : List Str} {i : Nat} {P : Pst} {fr : List Str} {x u : Str}
theorem Inv.slid (I : Inv ws i P (x :: fr)) (wn : ws.Nodup) (wm : ∀ x ∈ ws, Nm x) (hi : i < 60) (hu : u = S "" ∨ u ∈ P.sheets) (hz : P.sheets = [] ∨ P.sheets.length < 12) : x ∉ P.ever ∧ Nm x ∧ Inv ws (i + 1) (slid P x u) fr := by
  have hx : x ∉ P.ever := by
    rw [← I.ev, List.nodup_append] at wn
    exact fun m => wn.2.2 x m x (by simp) rfl
  have xw : x ∈ ws := by rw [← I.ev]; simp
  have hxs : x ∉ P.sheets := fun m => hx (I.sub x m)
  refine ⟨hx, wm x xw, ?_, ?_, ?_, ?_, ?_, ?_, ?_, ?_, ?_, ?_, ?_⟩
  · show P.number + 1 = _
    rw [I.nu]
    rfl
  · show (P.entries ++ [_]).length = _
    rw [List.length_append, I.el]
    rfl
  · rw [slid_perm.nodup_iff]
    exact List.nodup_cons.mpr ⟨hxs, I.nd⟩
  · rw [slid_perm.length_eq, List.length_cons]
    rcases hz with hz | hz
    · rw [hz]; decide
    · omega
  · show (P.ever ++ [x]) ++ fr = ws
    rw [List.append_assoc]
    exact I.ev
  · show (P.ever ++ [x]).length ≤ _
    have := I.evl
    rw [List.length_append]
    simp
    omega
  · intro y m
    show y ∈ P.ever ++ [x]
    rcases List.mem_cons.mp (slid_perm.mem_iff.mp m) with rfl | m
    · simp
    · exact List.mem_append_left _ (I.sub y m)
  · intro y m
    rw [slid_perm.mem_iff]
    obtain ⟨z, hz, rfl⟩ := List.mem_map.mp m
    rcases List.mem_append.mp hz with m | m
    · exact List.mem_cons_of_mem _ (I.ks _ (List.mem_map.mpr ⟨z, m, rfl⟩))
    · rw [List.mem_singleton.mp m]
      exact List.mem_cons_self ..
  · show (P.written ++ [_]).length ≤ _
    have := I.wl
    rw [List.length_append]
    simp
    omega
  · intro y m
    rcases List.mem_cons.mp (slid_perm.mem_iff.mp m) with rfl | m
    · exact ⟨_, lookup_app_new fun m => hxs (I.ks _ m), _, _, _, rfl⟩
    · obtain ⟨v, h1, h2⟩ := I.lk y m
      exact ⟨v, (lookup_app_old (y := y) (x := x) fun e => hxs (by rw [← e]; exact m)).trans h1, h2⟩
  · refine ent_app I.en (.mk _ (by simp) ?_)
    have pu : Part (.str u) := by
      rcases hu with rfl | m
      · exact part_empty
      · exact part_nm (wm u (by rw [← I.ev]; exact List.mem_append_left _ (I.sub u m)))
    have pn : Part (.int (P.number + 1)) := by
      rw [I.nu]
      exact .int (i + 1) (by omega)
    intro d m
    simp only [List.mem_cons, List.not_mem_nil, or_false] at m
    rcases m with rfl | rfl | rfl | rfl
    · exact part_slide
    · exact part_nm (wm x xw)
    · exact pu
    · exact pn
theorem Inv.drawn (I : Inv ws i P fr) (wm : ∀ x ∈ ws, Nm x) (hi : i < 60) (m : x ∈ P.sheets) : Inv ws (i + 1) (drawn P x) fr := by
  have hm : ∀ y, y ∈ (Dk.drawn P x).sheets ↔ y ≠ x ∧ y ∈ P.sheets := fun y => mem_out I.nd
  have sb : (Dk.drawn P x).sheets.Sublist P.sheets := List.eraseIdx_sublist ..
  refine ⟨?_, ?_, ?_, ?_, I.ev, ?_, ?_, ?_, ?_, ?_, ?_⟩
  · show P.number + 1 = _
    rw [I.nu]
    rfl
  · show (P.entries ++ [_]).length = _
    rw [List.length_append, I.el]
    rfl
  · exact I.nd.sublist sb
  · have := sb.length_le
    have := I.sz
    omega
  · have := I.evl
    show P.ever.length ≤ _
    omega
  · exact fun y q => I.sub y ((hm y).mp q).2
  · intro y q
    obtain ⟨q1, q2⟩ := keys_out q
    exact (hm y).mpr ⟨q1, I.ks y q2⟩
  · have := I.wl
    show (outW P.written x).length ≤ _
    have := List.length_filter_le (fun p : Str × D => decide (p.1 ≠ x)) P.written
    unfold outW
    omega
  · intro y q
    obtain ⟨q1, q2⟩ := (hm y).mp q
    obtain ⟨v, h1, h2⟩ := I.lk y q2
    exact ⟨v, (lookup_out q1).trans h1, h2⟩
  · refine ent_app I.en (.mk _ (by simp) ?_)
    have pn : Part (.int (P.number + 1)) := by
      rw [I.nu]
      exact .int (i + 1) (by omega)
    intro d q
    simp only [List.mem_cons, List.not_mem_nil, or_false] at q
    rcases q with rfl | rfl | rfl
    · exact part_draw
    · exact part_nm (wm x (by rw [← I.ev]; exact List.mem_append_left _ (I.sub x m)))
    · exact pn
theorem Inv.looked {a b c : Int} (I : Inv ws i P fr) (wm : ∀ x ∈ ws, Nm x) (hi : i < 60) (m : x ∈ P.sheets) (hv : P.written.lookup x = some (.tup [.int a, .int b, .int c])) : Inv ws (i + 1) (looked P x (.int a)) fr := by
  refine ⟨?_, ?_, I.nd, I.sz, I.ev, ?_, I.sub, ?_, ?_, ?_, ?_⟩
  · show P.number + 1 = _
    rw [I.nu]
    rfl
  · show (P.entries ++ [_]).length = _
    rw [List.length_append, I.el]
    rfl
  · have := I.evl
    show P.ever.length ≤ _
    omega
  · intro y q
    have q : y ∈ (setW P.written x _).map (·.1) := q
    rw [keys_set] at q
    exact I.ks y q
  · have := I.wl
    show (setW P.written x _).length ≤ _
    unfold setW
    rw [List.length_map]
    omega
  · intro y q
    by_cases e : y = x
    · subst e
      exact ⟨_, lookup_set_at (lookup_key hv), _, _, _, rfl⟩
    · obtain ⟨v, h1, h2⟩ := I.lk y q
      exact ⟨v, (lookup_set e).trans h1, h2⟩
  · refine ent_app I.en (.mk _ (by simp) ?_)
    have pn : Part (.int (P.number + 1)) := by
      rw [I.nu]
      exact .int (i + 1) (by omega)
    have pi : Part (.int (P.sheets.idxOf x : Nat)) := .int _ (by
      have := List.idxOf_le_length (a := x) (l := P.sheets)
      have := I.sz
      omega)
    intro d q
    simp only [List.mem_cons, List.not_mem_nil, or_false] at q
    rcases q with rfl | rfl | rfl | rfl
    · exact part_look
    · exact part_nm (wm x (by rw [← I.ev]; exact List.mem_append_left _ (I.sub x m)))
    · exact pn
    · exact pi
variable {h : Hd} {p a b c q o oo on oe ol of : Nat}
end
end Dk
end S_Q14_k37
end
section
set_option Elab.async false
set_option linter.all false
set_option maxRecDepth 100000
set_option maxHeartbeats 1000000
noncomputable section S_Q20_k37
namespace Dk
open PySem PySem.Spec PyProof.Rows L2
open Classical
/-! ### lores and who protests -/
structure Lo where
  ca : Str → Int
  lo : Str → Int
  ov : Str → Int
def rw4 (L : Lo) (x : Str) : D := .tup [.str x, .int (L.ca x), .int (L.lo x), .int (L.ov x)]
def loreD (L : Lo) (ns : List Str) : D := .tup (ns.map (rw4 L))
def nth (ys : List Str) (i : Nat) : Str := ys.getD i (S "")
theorem nth_at {ys : List Str} {i : Nat} (c : i < ys.length) : ys[i]? = some (nth ys i) := by
  rw [List.getElem?_eq_getElem c]
  simp [nth, List.getD, c]
theorem nth_mem {ys : List Str} {i : Nat} (c : i < ys.length) : nth ys i ∈ ys := List.mem_of_getElem? (nth_at c)
theorem in_tupS {h : Hd} {l : List Str} {x : Str} : inD h (.str x) (.tup (l.map D.str)) = some (decide (x ∈ l)) := by
  simp [inD, asS, inLs_str]
theorem in_lstS {h : Hd} {l : List Str} {x : Str} : inD h (.str x) (.lst (l.map D.str)) = some (decide (x ∈ l)) := by
  simp [inD, asS, asL, inLs_str]
theorem idx_strsT {h : Hd} {l : List Str} {x : Str} (m : x ∈ l) : idxTM (.tup (l.map D.str)) [.str x] h = .ok (.int (l.idxOf x)) h := by
  simp only [idxTM]
  unfold idxL
  rw [if_pos (by rw [inLs_str]; rfl), findI_str m]
theorem selM_idxT {h : Hd} {xs : List D} : selM "index" h (.tup xs) = some .idxT := rfl
theorem asIns_T {h : Hd} {xs : List D} : asIns h (.tup xs) = none := rfl
theorem enum_eq (ys : List Str) : enumL 0 (ys.map D.str) = (List.range ys.length).map fun (i : Nat) => D.tup [.int (i : Int), .str (nth ys i)] := by
  refine List.ext_getElem? fun i => ?_
  unfold enumL
  rw [List.getElem?_mapIdx, List.getElem?_map, List.getElem?_map]
  by_cases c : i < ys.length
  · rw [List.getElem?_range c, nth_at c]
    simp
  · rw [List.getElem?_eq_none (by omega), List.getElem?_eq_none (by simp; omega)]
    rfl
theorem enum_strs {h : Hd} {ys : List Str} : enumD h [.tup (ys.map D.str)] = some ⟨(List.range ys.length).map fun (i : Nat) => D.tup [.int (i : Int), .str (nth ys i)], [], true⟩ := by
  show some _ = _
  rw [enum_eq]
theorem zip_strs {h : Hd} {ys : List Str} {f : Nat → D} : zipD h [.tup (ys.map D.str), .tup ((List.range ys.length).map f)] = some ⟨(List.range ys.length).map fun (i : Nat) => D.tup [.str (nth ys i), f i], [], true⟩ := by
  show some _ = _
  congr 2
  refine List.ext_getElem? fun i => ?_
  unfold zipL
  rw [List.getElem?_zipWith, List.getElem?_map, List.getElem?_map, List.getElem?_map]
  by_cases c : i < ys.length
  · rw [List.getElem?_range c, nth_at c]
    rfl
  · rw [List.getElem?_eq_none (by omega), List.getElem?_eq_none (by simp; omega)]
    rfl
theorem keysOf_strs : ∀ {l : List Str}, keysOf (l.map D.str) = some (l.map Sum.inr)
  | [] => rfl
  | x :: l => by
    rw [List.map_cons]
    unfold keysOf
    rw [keysOf_strs]
    rfl
theorem set_strs {h : Hd} {ys : List Str} (z : ys.length ≤ 1000) : setD h [.tup (ys.map D.str)] = some (.v (.set (dd (ys.map Sum.inr)))) := by
  have e : asS h (.tup (ys.map D.str)) = some (ys.map D.str) := rfl
  simp only [setD, e, keysOf_strs]
  rw [if_pos (by rw [List.length_map]; exact z)]
theorem set_ref {h : Hd} {n : Nat} {ys : List Str} (e : h[n]? = some (.lst (ys.map D.str))) (z : ys.length ≤ 1000) : setD h [.ref n] = some (.v (.set (dd (ys.map Sum.inr)))) := by
  have e : asS h (.ref n) = some (ys.map D.str) := by simp [asS, asL, e]
  simp only [setD, e, keysOf_strs]
  rw [if_pos (by rw [List.length_map]; exact z)]
theorem in_set {h : Hd} {ys : List Str} {x : Str} : inD h (.str x) (.set (dd (ys.map Sum.inr))) = some (decide (x ∈ ys)) := by
  have e : ((dd (ys.map Sum.inr)).any fun j => decide (j = (Sum.inr x : Key))) = decide (x ∈ ys) := by
    rw [Bool.eq_iff_iff, List.any_eq_true, decide_eq_true_iff]
    constructor
    · rintro ⟨j, m, q⟩
      rw [dd_mem] at m
      obtain ⟨y, hy, rfl⟩ := List.mem_map.mp m
      rw [← Sum.inr.inj (of_decide_eq_true q)]
      exact hy
    · exact fun m => ⟨.inr x, dd_mem.mpr (List.mem_map.mpr ⟨x, m, rfl⟩), decide_eq_true rfl⟩
  simp only [inD, asS, asL, asK, keyOf, Option.map_some, e]
section
variable {L : Lo} {ns ys : List Str} {h : Hd} {x : Str}
theorem here_ok (z : ns.length ≤ 1000) : m_here [loreD L ns] h = .ok (.tup (ns.map D.str)) h := by
  refine wp_is (wp_mF rfl ?_)
  unfold f_here loreD
  simp only [lsx, List.replicate, wps, itD_tup, wipeE]
  rw [lcGo_all (rw4 L) D.str (srcOk_nil h) ns fun x m => ⟨_, rfl, ?_⟩]
  · simp only [wps, tup_lst, List.length_map, and_self, and_true]
    omega
  · simp only [wps, lsx, rw4, idx_tup, atIs, opt, and_self]
theorem place_of_ok (z : ns.length ≤ 1000) (m : x ∈ ns) : m_place_of [loreD L ns, .str x] h = .ok (.int (ns.idxOf x)) h := by
  refine wp_is (wp_mF rfl ?_)
  unfold f_place_of
  simp only [lsx, List.replicate, wps, here_ok z, bOrT, isis, cmps, tru_bl, in_tupS, m, decide_true, opt, Bool.not_true, asIns_T, selM_idxT, BM.fn, idx_strsT m, and_self]
theorem row_of_ok (z : ns.length ≤ 1000) (m : x ∈ ns) : m_row_of [loreD L ns, .str x] h = .ok (rw4 L x) h := by
  refine wp_is (wp_mF rfl ?_)
  unfold f_row_of
  have e : (ns.map (rw4 L))[ns.idxOf x]? = some (rw4 L x) := by
    rw [List.getElem?_map, List.getElem?_eq_getElem (List.idxOf_lt_length_iff.mpr m), List.getElem_idxOf]
    rfl
  simp only [lsx, List.replicate, wps, place_of_ok z m]
  simp only [loreD, idx_tup, atI_nat, e, opt, wps, and_self]
def cnt (L : Lo) (ns ys : List Str) (x : Str) : Nat := (ns.filter fun y => decide (L.ca y < L.lo x) && (decide (y ∈ ys) && !(y == x))).length
theorem any_false {h : Hd} {n : Nat} : anyD h [.lst (List.replicate n (.bl false))] = some (.v (.bl false)) := by
  have e : ∀ n, blsD (List.replicate n (D.bl false)) = some (List.replicate n false) := fun n => by
    induction n with
    | zero => rfl
    | succ n ih =>
      rw [List.replicate_succ, List.replicate_succ]
      unfold blsD
      rw [ih]
      rfl
  have ea : asL h (.lst (List.replicate n (.bl false))) = some (List.replicate n (.bl false)) := rfl
  simp only [anyD, ea, e]
  congr 3
  rw [List.any_replicate]
  simp
theorem eqLs_strs {n : Nat} : ∀ {xs ys : List Str}, eqLs (eqD (n + 1)) (xs.map D.str) (ys.map D.str) = some (decide (xs = ys))
  | [], [] => by simp [eqLs_nil]
  | [], y :: ys => by simp [eqLs_r]
  | x :: xs, [] => by simp [eqLs_l]
  | x :: xs, y :: ys => by
    rw [List.map_cons, List.map_cons]
    unfold eqLs
    rw [eqD_str, eqLs_strs]
    by_cases e : x = y
    · subst e
      simp
    · have : (x == y) = false := beq_eq_false_iff_ne.mpr e
      simp [this, e]
theorem sorted_tup {h : Hd} {l : List Str} (z : l.length ≤ sizeLine) : sortedD h [.tup (l.map D.str)] = some (.l ((sortN l).map D.str)) := by
  have : asS h (.tup (l.map D.str)) = some (l.map D.str) := by simp [asS]
  simp only [sortedD, this]
  exact sorted_strs (h := h) z
theorem lst_tup {h : Hd} {xs : List D} : lstD h [.tup xs] = some (.l xs) := by simp [lstD, asS]
def ly (L : Lo) (ns ys : List Str) (i : Nat) : Nat := cnt L ns (ys.take i) (nth ys i)
def prR (L : Lo) (ns ys : List Str) (i : Nat) : D := .tup [.str (nth ys i), .int (ly L ns ys i), .int (L.ov (nth ys i))]
def prB (L : Lo) (ns ys : List Str) (i : Nat) : Bool := decide (L.ov (nth ys i) < (ly L ns ys i : Int))
def prL (L : Lo) (ns ys : List Str) (k : Nat) : List D := ((List.range k).filter (prB L ns ys)).map (prR L ns ys)
end
end Dk
end S_Q20_k37
end
section
set_option Elab.async false
set_option linter.all false
set_option maxRecDepth 100000
set_option maxHeartbeats 1000000
noncomputable section S_Q21_k37
namespace Dk
open PySem PySem.Spec PyProof.Rows L2
open Classical
section
variable {L : Lo} {ns ys : List Str} {h : Hd} {x : Str}
def eld (L : Lo) (ns : List Str) (x : Str) : List Str := ns.filter fun y => !(y == x) && decide (L.ca y < L.lo x)
theorem elders_ok (z : ns.length ≤ 1000) (m : x ∈ ns) : m_elders [loreD L ns, .str x] h = .ok (.tup ((eld L ns x).map D.str)) h := by
  refine wp_is (wp_mF rfl ?_)
  unfold f_elders
  rw [wpS_cut 1]
  simp only [List.take_succ_cons, List.take_zero, lsx, List.replicate, wps, row_of_ok z m]
  unfold hid
  simp only [List.drop_succ_cons, List.drop_zero]
  unfold loreD
  simp only [lsx, wps, itD_tup, wipeE]
  rw [lcGo_map (rw4 L) (fun y => !(y == x) && decide (L.ca y < L.lo x)) D.str (srcOk_nil h) ns fun y my => ⟨_, rfl, ?_, fun _ => by simp only [wps, lsx, rw4, idx_tup, atIs, opt, and_self]⟩]
  · have := List.length_filter_le (fun y => !(y == x) && decide (L.ca y < L.lo x)) ns
    simp only [wps, tup_lst, List.length_map]
    exact ⟨by omega, rfl, trivial⟩
  · cases h1 : decide (L.ca y < L.lo x) <;> cases h3 : (y == x) <;> simp only [bAndT, wps, lsx, rw4, idx_tup, atIs, opt, cmps, h1, h3, eqs, Bool.not_true, Bool.not_false, Bool.and_true, Bool.and_false, Bool.true_and, Bool.false_and, and_self]
def lkB (L : Lo) (ns ys : List Str) (i : Nat) : Bool := decide (0 < L.ov (nth ys i) - (ly L ns ys i : Int))
def lkR (L : Lo) (ns ys : List Str) (i : Nat) : D := .tup [.str (nth ys i), .int (L.ov (nth ys i) - (ly L ns ys i : Int))]
def lkL (L : Lo) (ns ys : List Str) : List D := ((List.range ys.length).filter (lkB L ns ys)).map (lkR L ns ys)
end
end Dk
end S_Q21_k37
end
section
set_option Elab.async false
set_option linter.all false
set_option maxRecDepth 100000
set_option maxHeartbeats 1000000
noncomputable section S_Q22_k37
namespace Dk
open PySem PySem.Spec PyProof.Rows L2
open Classical
/-! ### who lay over whom at the last look -/
def bf (ys : List Str) (y x : Str) : Prop := [y, x].Sublist ys
theorem cut_at {ys : List Str} {x : Str} (m : x ∈ ys) : ys = ys.take (ys.idxOf x) ++ x :: ys.drop (ys.idxOf x + 1) := by
  have hk := List.idxOf_lt_length_iff.mpr m
  conv => lhs; rw [← List.take_append_drop (ys.idxOf x) ys]
  congr 1
  rw [List.drop_eq_getElem_cons hk, List.getElem_idxOf]
theorem bf_take {ys : List Str} {x y : Str} (nd : ys.Nodup) (m : x ∈ ys) : y ∈ ys.take (ys.idxOf x) ↔ bf ys y x := by
  have e := cut_at m
  generalize ys.take (ys.idxOf x) = l1 at e ⊢
  generalize ys.drop (ys.idxOf x + 1) = l2 at e
  subst e
  obtain ⟨n1, n2, n3⟩ := List.nodup_append.mp nd
  have hx2 : x ∉ l2 := (List.nodup_cons.mp n2).1
  unfold bf
  constructor
  · intro my
    exact (List.singleton_sublist.mpr my).append (List.singleton_sublist.mpr (List.mem_cons_self ..))
  · intro s
    obtain ⟨a, b, e, sa, sb⟩ := List.sublist_append_iff.mp s
    cases a with
    | nil =>
      rw [List.nil_append] at e
      subst e
      refine absurd ?_ hx2
      cases sb with
      | cons _ s => exact s.subset (by simp)
      | cons_cons _ s => exact s.subset (by simp)
    | cons a0 a =>
      rw [List.cons_append] at e
      injection e with e1 e2
      subst e1
      exact sa.subset (List.mem_cons_self ..)
theorem not_take {ys : List Str} {x : Str} (nd : ys.Nodup) (m : x ∈ ys) : x ∉ ys.take (ys.idxOf x) := by
  have e := cut_at m
  generalize ys.take (ys.idxOf x) = l1 at e ⊢
  generalize ys.drop (ys.idxOf x + 1) = l2 at e
  subst e
  obtain ⟨n1, n2, n3⟩ := List.nodup_append.mp nd
  exact fun mx => n3 x mx x (List.mem_cons_self ..) rfl
theorem bf_sub {ys ys' : List Str} {x y : Str} (s : ys.Sublist ys') (b : bf ys y x) : bf ys' y x := b.trans s
theorem bf_out {ys : List Str} {x y z : Str} (hy : y ≠ z) (hx : x ≠ z) (b : bf ys y x) : bf (ys.filter fun w => decide (w ≠ z)) y x := by
  have := b.filter fun w => decide (w ≠ z)
  unfold bf
  simpa [hy, hx] using this
theorem filter_out {ys : List Str} {z : Str} (n : z ∉ ys) : (ys.filter fun w => decide (w ≠ z)) = ys :=
  List.filter_eq_self.mpr fun w m => decide_eq_true fun e => n (e ▸ m)
theorem erase_filter {z : Str} : ∀ {ys : List Str}, ys.Nodup → ys.eraseIdx (ys.idxOf z) = ys.filter fun w => decide (w ≠ z)
  | [], _ => rfl
  | y :: ys, nd => by
    obtain ⟨n1, n2⟩ := List.nodup_cons.mp nd
    rw [List.idxOf_cons]
    by_cases e : y = z
    · subst e
      rw [beq_self_eq_true]
      simp only [cond_true, List.eraseIdx_cons_zero, List.filter_cons, ne_eq, not_true_eq_false, decide_false, Bool.false_eq_true, if_false]
      exact (filter_out n1).symm
    · have e1 : (y == z) = false := beq_eq_false_iff_ne.mpr e
      rw [e1]
      simp only [cond_false, List.eraseIdx_cons_succ, List.filter_cons, ne_eq, e, not_false_eq_true, decide_true, if_true]
      rw [erase_filter n2]
theorem slid_sub {P : Pst} {x u : Str} : P.sheets.Sublist (slid P x u).sheets := by
  show P.sheets.Sublist (P.sheets.take _ ++ [x] ++ P.sheets.drop _)
  conv => lhs; rw [← List.take_append_drop (posOf P.sheets u) P.sheets]
  exact (List.sublist_append_left _ _).append (List.Sublist.refl _)
theorem slid_out {P : Pst} {x u : Str} (n : x ∉ P.sheets) : ((slid P x u).sheets.filter fun w => decide (w ≠ x)) = P.sheets := by
  show ((P.sheets.take (posOf P.sheets u) ++ [x] ++ P.sheets.drop (posOf P.sheets u)).filter _) = _
  rw [List.filter_append, List.filter_append, filter_out fun m => n (List.mem_of_mem_take m), filter_out fun m => n (List.mem_of_mem_drop m)]
  simp
theorem slid_idx {P : Pst} {x u : Str} (n : x ∉ P.sheets) (hu : u = S "" ∨ u ∈ P.sheets) : (slid P x u).sheets.idxOf x = posOf P.sheets u := by
  have hk : posOf P.sheets u ≤ P.sheets.length := by
    unfold posOf
    split
    · omega
    · next c => exact List.idxOf_lt_length_iff.mpr (hu.resolve_left c)
  show (P.sheets.take (posOf P.sheets u) ++ [x] ++ P.sheets.drop (posOf P.sheets u)).idxOf x = _
  rw [List.append_assoc, List.idxOf_append, if_neg fun m => n (List.mem_of_mem_take m), List.length_take, Nat.min_eq_left hk]
  simp
def Lo.put (L : Lo) (z : Str) (a b c : Int) : Lo := ⟨fun x => if x = z then a else L.ca x, fun x => if x = z then b else L.lo x, fun x => if x = z then c else L.ov x⟩
structure SV (P : Pst) (SN : List (Str × D)) (L : Lo) (sn : Str → List Str) : Prop where
  wr : ∀ x ∈ P.sheets, P.written.lookup x = some (.tup [.int (L.ca x), .int (L.lo x), .int (L.ov x)])
  sk : ∀ x ∈ P.sheets, SN.lookup x = some (.lst ((sn x).map D.str))
  ov : ∀ x ∈ P.sheets, L.ov x = (sn x).length
  nd : ∀ x ∈ P.sheets, (sn x).Nodup ∧ x ∉ sn x
  d : ∀ x ∈ P.sheets, ∀ y ∈ P.sheets, y ≠ x → L.ca y < L.lo x → (y ∈ sn x ↔ bf P.sheets y x)
  e : ∀ x ∈ P.sheets, ∀ y ∈ P.sheets, y ∈ sn x → L.ca y < L.lo x
  f : ∀ x ∈ P.sheets, L.ca x ≤ P.number ∧ L.lo x ≤ P.number
  g : ∀ x ∈ P.sheets, ∀ y ∈ sn x, y ∈ P.ever
  ne : ∀ x ∈ P.sheets, (sn x).length ≤ 24
section
variable {P : Pst} {SN SN' : List (Str × D)} {L : Lo} {sn : Str → List Str} {x u : Str} {ws : List Str} {i : Nat} {fr fr' : List Str}
def sput (sn : Str → List Str) (z : Str) (l : List Str) : Str → List Str := fun x => if x = z then l else sn x
theorem SV.slid (V : SV P SN L sn) (I : Inv ws i P fr) (I' : Inv ws (i + 1) (slid P x u) fr') (hx : x ∉ P.ever) (hu : u = S "" ∨ u ∈ P.sheets)
    (k1 : SN'.lookup x = some (.lst (((Dk.slid P x u).sheets.take ((Dk.slid P x u).sheets.idxOf x)).map D.str))) (k2 : ∀ y, y ≠ x → SN'.lookup y = SN.lookup y) :
    SV (Dk.slid P x u) SN' (L.put x (P.number + 1) (P.number + 1) (posOf P.sheets u : Nat)) (sput sn x ((Dk.slid P x u).sheets.take ((Dk.slid P x u).sheets.idxOf x))) := by
  have xs : x ∉ P.sheets := fun m => hx (I.sub x m)
  have xm : x ∈ (Dk.slid P x u).sheets := slid_perm.mem_iff.mpr (List.mem_cons_self ..)
  have nd' := I'.nd
  have old : ∀ y ∈ (Dk.slid P x u).sheets, y ≠ x → y ∈ P.sheets := fun y m n => (List.mem_cons.mp (slid_perm.mem_iff.mp m)).resolve_left n
  have sz := I'.sz
  refine ⟨?_, ?_, ?_, ?_, ?_, ?_, ?_, ?_, ?_⟩
  · intro y m
    by_cases c : y = x
    · subst c
      simp only [Lo.put, if_true]
      exact lookup_app_new fun z => xs (I.ks _ z)
    · simp only [Lo.put, if_neg c]
      exact (lookup_app_old c).trans (V.wr y (old y m c))
  · intro y m
    by_cases c : y = x
    · subst c
      simp only [sput, if_true]
      exact k1
    · simp only [sput, if_neg c]
      rw [k2 y c]
      exact V.sk y (old y m c)
  · intro y m
    by_cases c : y = x
    · subst c
      simp only [sput, Lo.put, if_true]
      rw [List.length_take, slid_idx xs hu, Nat.min_eq_left]
      have := List.idxOf_lt_length_iff.mpr xm
      rw [slid_idx xs hu] at this
      omega
    · simp only [sput, Lo.put, if_neg c]
      exact V.ov y (old y m c)
  · intro y m
    by_cases c : y = x
    · subst c
      simp only [sput, if_true]
      exact ⟨nd'.sublist (List.take_sublist _ _), not_take nd' xm⟩
    · simp only [sput, if_neg c]
      exact V.nd y (old y m c)
  · intro y m z mz n
    by_cases c : y = x
    · subst c
      simp only [sput, if_true]
      exact fun _ => bf_take nd' xm
    · simp only [sput, if_neg c]
      by_cases c2 : z = x
      · subst c2
        simp only [Lo.put, if_true, if_neg c]
        intro lt
        have := (V.f y (old y m c)).2
        omega
      · simp only [Lo.put, if_neg c, if_neg c2]
        intro lt
        rw [V.d y (old y m c) z (old z mz c2) n lt]
        exact ⟨bf_sub slid_sub, fun b => by
          have := bf_out c2 c b
          rw [slid_out xs] at this
          exact this⟩
  · intro y m z mz
    by_cases c : y = x
    · subst c
      simp only [sput, if_true]
      intro mm
      have n : z ≠ y := fun q => not_take nd' xm (q ▸ mm)
      simp only [Lo.put, if_neg n, if_true]
      have := (V.f z (old z mz n)).1
      omega
    · simp only [sput, if_neg c]
      intro mm
      have n : z ≠ x := fun q => hx (q ▸ V.g y (old y m c) z mm)
      simp only [Lo.put, if_neg c, if_neg n]
      exact V.e y (old y m c) z (old z mz n) mm
  · intro y m
    show _ ≤ P.number + 1 ∧ _ ≤ P.number + 1
    by_cases c : y = x
    · subst c
      simp only [Lo.put, if_true]
      omega
    · simp only [Lo.put, if_neg c]
      have := V.f y (old y m c)
      omega
  · intro y m z mz
    show z ∈ P.ever ++ [x]
    by_cases c : y = x
    · subst c
      simp only [sput, if_true] at mz
      exact I'.sub z (List.mem_of_mem_take mz)
    · simp only [sput, if_neg c] at mz
      exact List.mem_append_left _ (V.g y (old y m c) z mz)
  · intro y m
    by_cases c : y = x
    · subst c
      simp only [sput, if_true]
      rw [List.length_take]
      omega
    · simp only [sput, if_neg c]
      exact V.ne y (old y m c)
theorem SV.drawn (V : SV P SN L sn) (I : Inv ws i P fr) : SV (drawn P x) SN L sn := by
  have hm : ∀ y, y ∈ (Dk.drawn P x).sheets ↔ y ≠ x ∧ y ∈ P.sheets := fun y => mem_out I.nd
  have es : (Dk.drawn P x).sheets = P.sheets.filter fun w => decide (w ≠ x) := erase_filter I.nd
  refine ⟨?_, ?_, ?_, ?_, ?_, ?_, ?_, ?_, ?_⟩
  · intro y m
    obtain ⟨n, m⟩ := (hm y).mp m
    exact (lookup_out n).trans (V.wr y m)
  · exact fun y m => V.sk y ((hm y).mp m).2
  · exact fun y m => V.ov y ((hm y).mp m).2
  · exact fun y m => V.nd y ((hm y).mp m).2
  · intro y m z mz n lt
    obtain ⟨n1, m⟩ := (hm y).mp m
    obtain ⟨n2, mz⟩ := (hm z).mp mz
    rw [V.d y m z mz n lt, es]
    exact ⟨bf_out n2 n1, bf_sub List.filter_sublist⟩
  · exact fun y m z mz => V.e y ((hm y).mp m).2 z ((hm z).mp mz).2
  · intro y m
    have := V.f y ((hm y).mp m).2
    show _ ≤ P.number + 1 ∧ _ ≤ P.number + 1
    omega
  · exact fun y m => V.g y ((hm y).mp m).2
  · exact fun y m => V.ne y ((hm y).mp m).2
theorem SV.looked (V : SV P SN L sn) (I : Inv ws i P fr) (m : x ∈ P.sheets)
    (k1 : SN'.lookup x = some (.lst ((P.sheets.take (P.sheets.idxOf x)).map D.str))) (k2 : ∀ y, y ≠ x → SN'.lookup y = SN.lookup y) :
    SV (looked P x (.int (L.ca x))) SN' (L.put x (L.ca x) (P.number + 1) (P.sheets.idxOf x : Nat)) (sput sn x (P.sheets.take (P.sheets.idxOf x))) := by
  have hk := lookup_key (V.wr x m)
  have hlt := List.idxOf_lt_length_iff.mpr m
  have sz := I.sz
  have ca : ∀ z, (L.put x (L.ca x) (P.number + 1) (P.sheets.idxOf x : Nat)).ca z = L.ca z := fun z => by
    simp only [Lo.put]
    split
    · next c => rw [c]
    · rfl
  refine ⟨?_, ?_, ?_, ?_, ?_, ?_, ?_, ?_, ?_⟩
  · intro y my
    rw [ca]
    by_cases c : y = x
    · subst c
      simp only [Lo.put, if_true]
      exact lookup_set_at hk
    · simp only [Lo.put, if_neg c]
      exact (lookup_set c).trans (V.wr y my)
  · intro y my
    by_cases c : y = x
    · subst c
      simp only [sput, if_true]
      exact k1
    · simp only [sput, if_neg c]
      rw [k2 y c]
      exact V.sk y my
  · intro y my
    by_cases c : y = x
    · subst c
      simp only [sput, Lo.put, if_true]
      rw [List.length_take, Nat.min_eq_left (by omega)]
    · simp only [sput, Lo.put, if_neg c]
      exact V.ov y my
  · intro y my
    by_cases c : y = x
    · subst c
      simp only [sput, if_true]
      exact ⟨I.nd.sublist (List.take_sublist _ _), not_take I.nd m⟩
    · simp only [sput, if_neg c]
      exact V.nd y my
  · intro y my z mz n
    rw [ca]
    by_cases c : y = x
    · subst c
      simp only [sput, if_true]
      exact fun _ => bf_take I.nd m
    · simp only [sput, Lo.put, if_neg c]
      exact V.d y my z mz n
  · intro y my z mz
    rw [ca]
    by_cases c : y = x
    · subst c
      simp only [sput, Lo.put, if_true]
      intro _
      have := (V.f z mz).1
      omega
    · simp only [sput, Lo.put, if_neg c]
      exact V.e y my z mz
  · intro y my
    rw [ca]
    show _ ≤ P.number + 1 ∧ _ ≤ P.number + 1
    have := V.f y my
    by_cases c : y = x
    · subst c
      simp only [Lo.put, if_true]
      omega
    · simp only [Lo.put, if_neg c]
      omega
  · intro y my z mz
    by_cases c : y = x
    · subst c
      simp only [sput, if_true] at mz
      exact I.sub z (List.mem_of_mem_take mz)
    · simp only [sput, if_neg c] at mz
      exact V.g y my z mz
  · intro y my
    by_cases c : y = x
    · subst c
      simp only [sput, if_true]
      rw [List.length_take]
      omega
    · simp only [sput, if_neg c]
      exact V.ne y my
end
/-! ### what comes of it -/
section
variable {P : Pst} {SN : List (Str × D)} {L : Lo} {sn : Str → List Str} {ws : List Str} {i : Nat} {fr : List Str}
theorem idx_nth {ys : List Str} {k : Nat} (nd : ys.Nodup) (c : k < ys.length) : ys.idxOf (nth ys k) = k := by
  have e := nth_at c
  obtain ⟨h1, h2⟩ := List.getElem?_eq_some_iff.mp e
  rw [← h2]
  exact nd.idxOf_getElem k c
def still (ys : List Str) (l : List Str) : List Str := l.filter fun y => decide (y ∈ ys)
def gone (ys : List Str) (l : List Str) : List Str := l.filter fun y => !decide (y ∈ ys)
theorem still_gone (ys l : List Str) : (still ys l).length + (gone ys l).length = l.length := by
  induction l with
  | nil => rfl
  | cons y l ih =>
    unfold still gone at ih ⊢
    rw [List.filter_cons, List.filter_cons]
    by_cases c : y ∈ ys
    · simp [c]
      omega
    · simp [c]
      omega
theorem SV.over (V : SV P SN L sn) (I : Inv ws i P fr) {k : Nat} (c : k < P.sheets.length) : ∀ y, (y ∈ sortN P.sheets ∧ (L.ca y < L.lo (nth P.sheets k) ∧ (y ∈ P.sheets.take k ∧ y ≠ nth P.sheets k))) ↔ y ∈ still P.sheets (sn (nth P.sheets k)) := by
  intro y
  have m := nth_mem c
  have ik := idx_nth I.nd c
  unfold still
  rw [List.mem_filter, decide_eq_true_iff, (sortN_perm P.sheets).mem_iff]
  constructor
  · rintro ⟨h1, h2, h3, h4⟩
    rw [← ik, bf_take I.nd m] at h3
    exact ⟨(V.d _ m y h1 h4 h2).mpr h3, h1⟩
  · rintro ⟨h1, h2⟩
    have n : y ≠ nth P.sheets k := fun q => (V.nd _ m).2 (q ▸ h1)
    have lt := V.e _ m y h2 h1
    refine ⟨h2, lt, ?_, n⟩
    rw [← ik, bf_take I.nd m]
    exact (V.d _ m y h2 n lt).mp h1
theorem cnt_mem {L : Lo} {ns ys : List Str} {x y : Str} : y ∈ (ns.filter fun y => decide (L.ca y < L.lo x) && (decide (y ∈ ys) && !(y == x))) ↔ (y ∈ ns ∧ (L.ca y < L.lo x ∧ (y ∈ ys ∧ y ≠ x))) := by
  rw [List.mem_filter]
  simp
theorem SV.count (V : SV P SN L sn) (I : Inv ws i P fr) {k : Nat} (c : k < P.sheets.length) : ly L (sortN P.sheets) P.sheets k = (still P.sheets (sn (nth P.sheets k))).length := by
  unfold ly cnt
  refine List.Perm.length_eq ((List.perm_ext_iff_of_nodup ?_ ?_).mpr fun y => ?_)
  · exact ((sortN_perm P.sheets).nodup_iff.mpr I.nd).filter _
  · exact ((V.nd _ (nth_mem c)).1).filter _
  · rw [cnt_mem]
    exact V.over I c y
theorem SV.diff (V : SV P SN L sn) (I : Inv ws i P fr) {k : Nat} (c : k < P.sheets.length) : L.ov (nth P.sheets k) - (ly L (sortN P.sheets) P.sheets k : Int) = ((gone P.sheets (sn (nth P.sheets k))).length : Int) := by
  rw [V.ov _ (nth_mem c), V.count I c]
  have := still_gone P.sheets (sn (nth P.sheets k))
  omega
theorem SV.quiet (V : SV P SN L sn) (I : Inv ws i P fr) : prL L (sortN P.sheets) P.sheets P.sheets.length = [] := by
  unfold prL
  rw [List.filter_eq_nil_iff.mpr]
  · rfl
  · intro k m
    have := V.diff I (List.mem_range.mp m)
    unfold prB
    rw [decide_eq_true_iff]
    omega
theorem SV.elders (V : SV P SN L sn) (I : Inv ws i P fr) {k : Nat} (c : k < P.sheets.length) : sortN (still P.sheets (sn (nth P.sheets k))) = (eld L (sortN P.sheets) (nth P.sheets k)).filter fun y => decide (y ∈ P.sheets.take k) := by
  refine sortN_eq ((List.perm_ext_iff_of_nodup ?_ ?_).mpr fun y => ?_) ?_
  · exact (((sortN_perm P.sheets).nodup_iff.mpr I.nd).filter _).filter _
  · exact ((V.nd _ (nth_mem c)).1).filter _
  · rw [← V.over I c y]
    unfold eld
    simp only [List.mem_filter, Bool.and_eq_true, decide_eq_true_iff, Bool.not_eq_true', beq_eq_false_iff_ne]
    constructor
    · rintro ⟨⟨h1, h2, h3⟩, h4⟩
      exact ⟨h1, h3, h4, h2⟩
    · rintro ⟨h1, h3, h4, h2⟩
      exact ⟨⟨h1, h2, h3⟩, h4⟩
  · exact ((sortN_pw P.sheets).sublist List.filter_sublist).sublist List.filter_sublist
end
end Dk
end S_Q22_k37
end
section
set_option Elab.async false
set_option linter.all false
set_option maxRecDepth 100000
set_option maxHeartbeats 1000000
noncomputable section S_Q24_k37
namespace Dk
open PySem PySem.Spec PyProof.Rows L2
open Classical
/-! ### dicts of pairs -/
theorem pairs_map {α : Type} {f : α → Str} {g : α → D} : ∀ {l : List α}, pairsD (l.map fun a => D.tup [.str (f a), g a]) = some (l.map fun a => ((.inr (f a) : Key), g a))
  | [] => rfl
  | a :: l => by
    rw [List.map_cons]
    unfold pairsD
    rw [pairs_map]
    rfl
theorem getK_put {kvs : List (Key × D)} {k j : Key} {v : D} : getK (putD kvs k v) j = if j = k then some v else getK kvs j := by
  induction kvs with
  | nil =>
    by_cases e : j = k
    · subst e; simp [putD, getK]
    · have e' : ¬ k = j := fun q => e q.symm
      simp [putD, getK, e, e']
  | cons p kvs ih =>
    obtain ⟨k0, v0⟩ := p
    unfold putD getK at ih ⊢
    by_cases e0 : k0 = k
    · subst e0
      by_cases e : j = k0
      · subst e
        simp
      · have e' : ¬ k0 = j := fun q => e q.symm
        simp only [List.any_cons, decide_true, Bool.true_or, if_true, List.map_cons, List.find?_cons, e', decide_false, if_neg e]
        by_cases hh : (kvs.any fun kv => decide (kv.1 = k0)) = true
        · rw [if_pos hh, if_neg e] at ih
          exact ih
        · have : (kvs.map fun kv => if kv.1 = k0 then (kv.1, v) else kv) = kvs := by
            conv => rhs; rw [← List.map_id kvs]
            refine List.map_congr_left fun q m => ?_
            have : ¬ q.1 = k0 := fun z => hh (List.any_eq_true.mpr ⟨q, m, decide_eq_true z⟩)
            rw [if_neg this]
            rfl
          rw [this]
    · by_cases hh : (kvs.any fun kv => decide (kv.1 = k)) = true
      · rw [if_pos hh] at ih
        simp only [List.any_cons, e0, decide_false, Bool.false_or, hh, if_true, List.map_cons, if_false, List.find?_cons]
        by_cases e : k0 = j
        · subst e
          simp [e0]
        · simp only [e, decide_false]
          exact ih
      · rw [if_neg hh] at ih
        simp only [List.any_cons, e0, decide_false, Bool.false_or, if_neg hh, List.cons_append, List.find?_cons]
        by_cases e : k0 = j
        · subst e
          simp [e0]
        · simp only [e, decide_false]
          exact ih
theorem getK_cons {kvs : List (Key × D)} {k j : Key} {v : D} : getK ((k, v) :: kvs) j = if j = k then some v else getK kvs j := by
  unfold getK
  rw [List.find?_cons]
  by_cases e : j = k
  · subst e; simp
  · have e' : ¬ k = j := fun q => e q.symm
    simp [e, e']
theorem getK_miss {α : Type} {f : α → Str} {g : α → D} {x : Str} : ∀ {l : List α}, (∀ a ∈ l, f a ≠ x) → getK (l.map fun a => ((.inr (f a) : Key), g a)) (.inr x) = none
  | [], _ => rfl
  | a :: l, n => by
    rw [List.map_cons, getK_cons, if_neg fun e => n a (List.mem_cons_self ..) (Sum.inr.inj e).symm]
    exact getK_miss fun b m => n b (List.mem_cons_of_mem _ m)
theorem getK_hit {α : Type} {f : α → Str} {g : α → D} {a0 : α} : ∀ {l : List α}, a0 ∈ l → (∀ a ∈ l, f a = f a0 → a = a0) → getK (l.map fun a => ((.inr (f a) : Key), g a)) (.inr (f a0)) = some (g a0)
  | a :: l, m, inj => by
    rw [List.map_cons, getK_cons]
    by_cases e : f a = f a0
    · rw [if_pos (by rw [e]), inj a (List.mem_cons_self ..) e]
    · rw [if_neg fun q => e (Sum.inr.inj q).symm]
      rcases List.mem_cons.mp m with q | m
      · exact absurd (by rw [q]) e
      · exact getK_hit m fun b mb => inj b (List.mem_cons_of_mem _ mb)
theorem getK_merge {k : Key} : ∀ {l acc : List (Key × D)}, (l.map (·.1)).Nodup → getK (mergeD acc l) k = (getK l k).or (getK acc k)
  | [], acc, _ => rfl
  | (k0, v) :: l, acc, nd => by
    obtain ⟨n1, n2⟩ := List.nodup_cons.mp nd
    unfold mergeD
    rw [List.foldl_cons]
    show getK (mergeD (putD acc k0 v) l) k = _
    rw [getK_merge n2, getK_put, getK_cons]
    by_cases e : k = k0
    · subst e
      have : getK l k = none := by
        unfold getK
        rw [List.find?_eq_none.mpr]
        · rfl
        · intro q m
          simp only [decide_eq_true_eq]
          exact fun z => n1 (List.mem_map.mpr ⟨q, m, z⟩)
      rw [this, if_pos rfl, if_pos rfl]
      rfl
    · rw [if_neg e, if_neg e]
theorem dct_pairs {α : Type} {f : α → Str} {g : α → D} {l : List α} {h : Hd} {d : D} (hd : d = .tup (l.map fun a => D.tup [.str (f a), g a]) ∨ d = .lst (l.map fun a => D.tup [.str (f a), g a])) : dctD h [d] = some (.d (mergeD [] (l.map fun a => ((.inr (f a) : Key), g a)))) := by
  rcases hd with rfl | rfl
  · simp [dctD, asK, asS, pairs_map]
  · simp [dctD, asK, asS, asL, pairs_map]
theorem keys_nd {α : Type} {f : α → Str} {g : α → D} {l : List α} (nd : (l.map f).Nodup) : ((l.map fun a => ((.inr (f a) : Key), g a)).map (·.1)).Nodup := by
  rw [List.map_map]
  have : ((fun x : Key × D => x.1) ∘ fun a => ((.inr (f a) : Key), g a)) = fun a => (Sum.inr (f a) : Key) := rfl
  rw [this]
  have e : (l.map fun a => (Sum.inr (f a) : Key)) = (l.map f).map Sum.inr := by rw [List.map_map]; rfl
  rw [e]
  exact List.Pairwise.map Sum.inr (fun a b n z => n (Sum.inr.inj z)) nd
/-! ### counting -/
section
variable {L : Lo} {ns : List Str} {x y : Str} {zs zs' : List Str}
theorem cnt_congr (k : ∀ z, z ∈ zs ↔ z ∈ zs') : cnt L ns zs x = cnt L ns zs' x := by
  unfold cnt
  congr 2
  funext y
  have : decide (y ∈ zs) = decide (y ∈ zs') := by simp [k]
  rw [this]
theorem cnt_mono (nd : ns.Nodup) (k : ∀ z, z ∈ zs → z ∈ zs') : cnt L ns zs x ≤ cnt L ns zs' x := by
  unfold cnt
  rw [← List.countP_eq_length_filter, ← List.countP_eq_length_filter]
  refine List.countP_mono_left fun w mw => ?_
  simp only [Bool.and_eq_true, decide_eq_true_iff]
  exact fun ⟨h1, h2, h3⟩ => ⟨h1, k w h2, h3⟩
theorem cnt_add (nd : ns.Nodup) (my : y ∈ ns) (n : y ∉ zs) (nx : y ≠ x) : cnt L ns (zs ++ [y]) x = cnt L ns zs x + if L.ca y < L.lo x then 1 else 0 := by
  by_cases c : L.ca y < L.lo x
  · rw [if_pos c]
    have : (ns.filter fun w => decide (L.ca w < L.lo x) && (decide (w ∈ zs ++ [y]) && !(w == x))).Perm (y :: ns.filter fun w => decide (L.ca w < L.lo x) && (decide (w ∈ zs) && !(w == x))) := by
      refine (List.perm_ext_iff_of_nodup (nd.filter _) (List.nodup_cons.mpr ⟨fun m => n (cnt_mem.mp m).2.2.1, nd.filter _⟩)).mpr fun w => ?_
      rw [List.mem_cons, cnt_mem, cnt_mem, List.mem_append, List.mem_singleton]
      constructor
      · rintro ⟨h1, h2, h3 | h3, h4⟩
        · exact .inr ⟨h1, h2, h3, h4⟩
        · exact .inl h3
      · rintro (rfl | ⟨h1, h2, h3, h4⟩)
        · exact ⟨my, c, .inr rfl, nx⟩
        · exact ⟨h1, h2, .inl h3, h4⟩
    have e := this.length_eq
    rw [List.length_cons] at e
    exact e
  · rw [if_neg c, Nat.add_zero]
    unfold cnt
    congr 1
    refine List.filter_congr fun w mw => ?_
    by_cases e : w = y
    · subst e
      simp [c]
    · simp [e]
end
/-! ### two neighbours exchanged -/
theorem two_gt {l t : List Str} {a b : Str} {i : Nat} (hi : l.length + 1 < i) : nth (l ++ [b, a] ++ t) i = nth (l ++ [a, b] ++ t) i ∧ ∀ z, z ∈ (l ++ [b, a] ++ t).take i ↔ z ∈ (l ++ [a, b] ++ t).take i := by
  have la : (l ++ [b, a]).length = l.length + 2 := by simp
  have lb : (l ++ [a, b]).length = l.length + 2 := by simp
  constructor
  · unfold nth
    rw [List.getD_eq_getElem?_getD, List.getD_eq_getElem?_getD, List.getElem?_append_right (by omega), List.getElem?_append_right (by omega), la, lb]
  · intro z
    rw [List.take_append (l₁ := l ++ [b, a]), List.take_append (l₁ := l ++ [a, b]), la, lb, List.take_of_length_le (l := l ++ [b, a]) (by omega), List.take_of_length_le (l := l ++ [a, b]) (by omega)]
    simp only [List.mem_append, List.mem_cons, List.not_mem_nil, or_false]
    constructor <;> (rintro ((h | h | h) | h)) <;> simp [h]
def sw (ys : List Str) (k : Nat) : List Str := ys.take k ++ [nth ys (k + 1), nth ys k] ++ ys.drop (k + 2)
section
variable {ys : List Str} {k : Nat} (c : k + 1 < ys.length)
include c
theorem cut2 : ys = ys.take k ++ [nth ys k, nth ys (k + 1)] ++ ys.drop (k + 2) := by
  have h1 : ys.drop k = nth ys k :: ys.drop (k + 1) := by
    rw [List.drop_eq_getElem_cons (by omega)]
    have := nth_at (ys := ys) (i := k) (by omega)
    rw [List.getElem?_eq_getElem (by omega)] at this
    rw [Option.some.inj this]
  have h2 : ys.drop (k + 1) = nth ys (k + 1) :: ys.drop (k + 2) := by
    rw [List.drop_eq_getElem_cons c]
    have := nth_at c
    rw [List.getElem?_eq_getElem c] at this
    rw [Option.some.inj this]
  conv => lhs; rw [← List.take_append_drop k ys, h1, h2]
  simp
theorem sw_len : (sw ys k).length = ys.length := by
  unfold sw
  simp
  omega
theorem sw_perm : (sw ys k).Perm ys := by
  conv => rhs; rw [cut2 c]
  unfold sw
  exact ((List.Perm.swap ..).append_left _).append_right _
theorem sw_lt {i : Nat} (hi : i < k) : nth (sw ys k) i = nth ys i ∧ (sw ys k).take i = ys.take i := by
  have lt : (ys.take k).length = k := by rw [List.length_take]; omega
  constructor
  · unfold nth sw
    rw [List.append_assoc, List.getD_eq_getElem?_getD, List.getD_eq_getElem?_getD, List.getElem?_append_left (by omega), List.getElem?_take_of_lt hi]
  · unfold sw
    rw [List.append_assoc, List.take_append_of_le_length (by omega), List.take_take, Nat.min_eq_left (by omega)]
theorem sw_k : nth (sw ys k) k = nth ys (k + 1) ∧ (sw ys k).take k = ys.take k := by
  have lt : (ys.take k).length = k := by rw [List.length_take]; omega
  constructor
  · unfold sw
    rw [nth, List.append_assoc, List.getD_eq_getElem?_getD, List.getElem?_append_right (by omega), lt]
    simp
  · unfold sw
    rw [List.append_assoc, List.take_append_of_le_length (by omega), List.take_take, Nat.min_self]
theorem sw_k1 : nth (sw ys k) (k + 1) = nth ys k ∧ (sw ys k).take (k + 1) = ys.take k ++ [nth ys (k + 1)] := by
  have lt : (ys.take k).length = k := by rw [List.length_take]; omega
  constructor
  · unfold sw
    rw [nth, List.append_assoc, List.getD_eq_getElem?_getD, List.getElem?_append_right (by omega), lt]
    simp
  · unfold sw
    rw [List.append_assoc, List.take_append, lt, List.take_of_length_le (by omega)]
    simp
theorem sw_gt {i : Nat} (hi : k + 1 < i) : nth (sw ys k) i = nth ys i ∧ ∀ z, z ∈ (sw ys k).take i ↔ z ∈ ys.take i := by
  have lt : (ys.take k).length = k := by rw [List.length_take]; omega
  obtain ⟨h1, h2⟩ := two_gt (l := ys.take k) (t := ys.drop (k + 2)) (a := nth ys k) (b := nth ys (k + 1)) (i := i) (by omega)
  rw [← cut2 c] at h1 h2
  exact ⟨h1, h2⟩
end
section
variable {P : Pst} {SN : List (Str × D)} {L : Lo} {sn : Str → List Str} {ws : List Str} {i k : Nat} {fr : List Str}
def dueB (L : Lo) (ys : List Str) (k : Nat) : Bool := !lkB L (sortN ys) ys k && decide (L.ca (nth ys (k + 1)) < L.lo (nth ys k))
theorem range_one {n k : Nat} {p : Nat → Bool} (hk : k < n) (h : ∀ i, i < n → i ≠ k → p i = false) : (List.range n).filter p = if p k = true then [k] else [] := by
  induction n with
  | zero => omega
  | succ n ih =>
    rw [List.range_succ, List.filter_append, List.filter_cons, List.filter_nil]
    by_cases e : k = n
    · subst e
      rw [List.filter_eq_nil_iff.mpr fun i m => by rw [h i (by have := List.mem_range.mp m; omega) (by have := List.mem_range.mp m; omega)]; simp]
      rfl
    · rw [ih (by omega) fun i hi n' => h i (by omega) n', h n (by omega) (Ne.symm e)]
      simp
theorem SV.swapped (V : SV P SN L sn) (I : Inv ws i P fr) (c : k + 1 < P.sheets.length) : prL L (sortN P.sheets) (sw P.sheets k) (sw P.sheets k).length = if dueB L P.sheets k = true then [.tup [.str (nth P.sheets k), .int (L.ov (nth P.sheets k) + 1), .int (L.ov (nth P.sheets k))]] else [] := by
  have ndn : (sortN P.sheets).Nodup := (sortN_perm P.sheets).nodup_iff.mpr I.nd
  have dk := V.diff I (k := k) (by omega)
  have dk1 := V.diff I c
  have m1 := nth_mem c
  have ne : nth P.sheets (k + 1) ≠ nth P.sheets k := fun q => by
    have h1 := idx_nth I.nd c
    rw [q, idx_nth I.nd (by omega)] at h1
    omega
  have nt : nth P.sheets (k + 1) ∉ P.sheets.take k := fun m => by
    have e := cut2 c
    have nd := I.nd
    rw [e, List.append_assoc, List.nodup_append] at nd
    exact nd.2.2 _ m _ (by simp) rfl
  have lk1 : ly L (sortN P.sheets) (sw P.sheets k) (k + 1) = ly L (sortN P.sheets) P.sheets k + if L.ca (nth P.sheets (k + 1)) < L.lo (nth P.sheets k) then 1 else 0 := by
    unfold ly
    rw [(sw_k1 c).1, (sw_k1 c).2, cnt_add ndn ((sortN_perm _).mem_iff.mpr m1) nt ne]
  have fl : ∀ j, j < (sw P.sheets k).length → j ≠ k + 1 → prB L (sortN P.sheets) (sw P.sheets k) j = false := by
    intro j hj n
    rw [sw_len c] at hj
    unfold prB
    rw [decide_eq_false_iff_not]
    by_cases h1 : j < k
    · have : ly L (sortN P.sheets) (sw P.sheets k) j = ly L (sortN P.sheets) P.sheets j := by
        unfold ly
        rw [(sw_lt c h1).1, (sw_lt c h1).2]
      rw [this, (sw_lt c h1).1]
      have := V.diff I hj
      omega
    · by_cases h2 : j = k
      · subst h2
        have : ly L (sortN P.sheets) (sw P.sheets j) j ≤ ly L (sortN P.sheets) P.sheets (j + 1) := by
          unfold ly
          rw [(sw_k c).1, (sw_k c).2]
          exact cnt_mono ndn fun z m => by
            rw [List.take_succ]
            exact List.mem_append_left _ m
        rw [(sw_k c).1]
        omega
      · have h3 : k + 1 < j := by omega
        have : ly L (sortN P.sheets) (sw P.sheets k) j = ly L (sortN P.sheets) P.sheets j := by
          unfold ly
          rw [(sw_gt c h3).1, cnt_congr (sw_gt c h3).2]
        rw [this, (sw_gt c h3).1]
        have := V.diff I hj
        omega
  unfold prL
  rw [range_one (by rw [sw_len c]; exact c) fl]
  have pe : prB L (sortN P.sheets) (sw P.sheets k) (k + 1) = dueB L P.sheets k := by
    unfold prB dueB lkB
    rw [lk1, (sw_k1 c).1]
    by_cases h1 : L.ca (nth P.sheets (k + 1)) < L.lo (nth P.sheets k)
    · simp only [h1, if_true, decide_true, Bool.and_true]
      rw [Bool.eq_iff_iff]
      simp only [decide_eq_true_iff, Bool.not_eq_true', decide_eq_false_iff_not]
      omega
    · simp only [h1, if_false, decide_false, Bool.and_false, decide_eq_false_iff_not]
      omega
  rw [pe]
  by_cases d : dueB L P.sheets k = true
  · rw [if_pos d, if_pos d, List.map_cons, List.map_nil]
    unfold prR
    rw [(sw_k1 c).1, lk1]
    unfold dueB lkB at d
    simp only [Bool.and_eq_true, Bool.not_eq_true', decide_eq_false_iff_not, decide_eq_true_iff] at d
    rw [if_pos d.2]
    have : ((ly L (sortN P.sheets) P.sheets k + 1 : Nat) : Int) = L.ov (nth P.sheets k) + 1 := by omega
    rw [this]
  · rw [if_neg d, if_neg d]
    rfl
end
end Dk
end S_Q24_k37
end
section
set_option Elab.async false
set_option linter.all false
set_option maxRecDepth 100000
set_option maxHeartbeats 1000000
noncomputable section S_Q25_k37
namespace Dk
open PySem PySem.Spec PyProof.Rows L2
open Classical
theorem cmp_self {d : D} {h : Hd} (e : rs h d = d) (p : Pl 40 d) : cmpB .Eq h d d = some true := by rw [cmp_eq, e, eqD_self p]
theorem cmp_nil {h : Hd} {l : List D} : cmpB .Eq h (.tup l) (.tup []) = some l.isEmpty := by
  rw [cmp_eq, rs_tup, rs_tup, eqD_tup]
  cases l <;> rfl
theorem lcGo_none {α : Type} {g : TgF} {t : ST} {f : SE} {e : Env} {h : Hd} {Q : List D → Hd → Prop} (enc : α → D) (xs : List α) (J : Hd → Prop) (h0 : J h)
    (st : ∀ a ∈ xs, ∀ h, J h → ∃ e1, g (enc a) e h = some (e1, h) ∧ wp (t e1 h) fun c h' => c = false ∧ J h') (k : ∀ h', J h' → Q [] h') : wp (lcGo [] g t f e (xs.map enc) h) Q := by
  refine lcGo_inv (Q := fun ys h' => Q ys h') (fun rest acc h => acc = [] ∧ J h ∧ ∃ ys, rest = ys.map enc ∧ ∀ a ∈ ys, a ∈ xs) ?_ ?_ _ [] h ⟨rfl, h0, xs, rfl, fun _ m => m⟩
  · rintro acc h' ⟨rfl, j, _⟩
    exact ⟨srcOk_nil _, k h' j⟩
  · rintro d ds acc h' ⟨rfl, j, ys, e, sb⟩
    cases ys with
    | nil => cases e
    | cons a ys =>
      rw [List.map_cons] at e
      injection e with e1 e2
      subst e1 e2
      obtain ⟨en, g1, w⟩ := st a (sb a (List.mem_cons_self ..)) h' j
      refine ⟨srcOk_nil _, en, h', g1, wp_imp w ?_⟩
      rintro c h2 ⟨rfl, j2⟩
      exact ⟨rfl, j2, ys, rfl, fun b m => sb b (List.mem_cons_of_mem _ m)⟩
section
variable {P : Pst} {SN : List (Str × D)} {L : Lo} {sn : Str → List Str} {ws : List Str} {i k : Nat} {fr : List Str} {h : Hd}
theorem idxN {h : Hd} {ys : List Str} {k : Nat} (c : k < ys.length) : idxD h (.tup (ys.map D.str)) (.int (k : Int)) = some (.v (.str (nth ys k))) := by
  rw [idx_tup, atI_nat, List.getElem?_map, nth_at c]
  rfl
theorem lk_names {ys : List Str} (nd : ys.Nodup) (c : k < ys.length) : decide (nth ys k ∈ ((List.range ys.length).filter (lkB L (sortN ys) ys)).map (nth ys)) = lkB L (sortN ys) ys k := by
  rw [Bool.eq_iff_iff, decide_eq_true_iff, List.mem_map]
  constructor
  · rintro ⟨j, m, e⟩
    obtain ⟨m1, m2⟩ := List.mem_filter.mp m
    have h1 := idx_nth nd (List.mem_range.mp m1)
    rw [e, idx_nth nd c] at h1
    rw [h1]
    exact m2
  · exact fun q => ⟨k, List.mem_filter.mpr ⟨List.mem_range.mpr c, q⟩, rfl⟩
end
end Dk
end S_Q25_k37
end
section
set_option Elab.async false
set_option linter.all false
set_option maxRecDepth 100000
set_option maxHeartbeats 1000000
noncomputable section S_Q30_k37
namespace Dk
open PySem PySem.Spec PyProof.Rows L2
open Classical
/-! ### the well -/
theorem wn1 : ((Sum.inr (S "cells") : Key) = Sum.inr (S "at")) = False := eq_false fun z => absurd (Sum.inr.inj z) (by decide +kernel)
theorem wn2 : ((Sum.inr (S "cells") : Key) = Sum.inr (S "rest")) = False := eq_false fun z => absurd (Sum.inr.inj z) (by decide +kernel)
theorem wn3 : ((Sum.inr (S "cells") : Key) = Sum.inr (S "mix")) = False := eq_false fun z => absurd (Sum.inr.inj z) (by decide +kernel)
theorem wn4 : ((Sum.inr (S "at") : Key) = Sum.inr (S "cells")) = False := eq_false fun z => absurd (Sum.inr.inj z) (by decide +kernel)
theorem wn5 : ((Sum.inr (S "at") : Key) = Sum.inr (S "rest")) = False := eq_false fun z => absurd (Sum.inr.inj z) (by decide +kernel)
theorem wn6 : ((Sum.inr (S "at") : Key) = Sum.inr (S "mix")) = False := eq_false fun z => absurd (Sum.inr.inj z) (by decide +kernel)
theorem wn7 : ((Sum.inr (S "rest") : Key) = Sum.inr (S "cells")) = False := eq_false fun z => absurd (Sum.inr.inj z) (by decide +kernel)
theorem wn8 : ((Sum.inr (S "rest") : Key) = Sum.inr (S "at")) = False := eq_false fun z => absurd (Sum.inr.inj z) (by decide +kernel)
theorem wn9 : ((Sum.inr (S "rest") : Key) = Sum.inr (S "mix")) = False := eq_false fun z => absurd (Sum.inr.inj z) (by decide +kernel)
theorem wn10 : ((Sum.inr (S "mix") : Key) = Sum.inr (S "cells")) = False := eq_false fun z => absurd (Sum.inr.inj z) (by decide +kernel)
theorem wn11 : ((Sum.inr (S "mix") : Key) = Sum.inr (S "at")) = False := eq_false fun z => absurd (Sum.inr.inj z) (by decide +kernel)
theorem wn12 : ((Sum.inr (S "mix") : Key) = Sum.inr (S "rest")) = False := eq_false fun z => absurd (Sum.inr.inj z) (by decide +kernel)
def wns := And.intro wn1 <| And.intro wn2 <| And.intro wn3 <| And.intro wn4 <| And.intro wn5 <| And.intro wn6 <| And.intro wn7 <| And.intro wn8 <| And.intro wn9 <| And.intro wn10 <| And.intro wn11 wn12
def wfs (c : Nat) (a r m : Int) : List (Key × D) := [(.inr (S "cells"), .ref c), (.inr (S "at"), .int a), (.inr (S "rest"), .int r), (.inr (S "mix"), .int m)]
section
variable {h : Hd} {w c : Nat} {a r m x : Int}
theorem wg_cells (e : h[w]? = some (.dct (wfs c a r m))) : idxD h (.ref w) (.str (S "cells")) = some (.v (.ref c)) := by
  have g : getK (wfs c a r m) (.inr (S "cells")) = some (.ref c) := by simp only [getK, wfs, List.find?_cons, wns, decide_false, decide_true, Option.map_some]
  simp only [idxD, asK, e, g, Option.map_some]
theorem wg_at (e : h[w]? = some (.dct (wfs c a r m))) : idxD h (.ref w) (.str (S "at")) = some (.v (.int a)) := by
  have g : getK (wfs c a r m) (.inr (S "at")) = some (.int a) := by simp only [getK, wfs, List.find?_cons, wns, decide_false, decide_true, Option.map_some]
  simp only [idxD, asK, e, g, Option.map_some]
theorem wg_rest (e : h[w]? = some (.dct (wfs c a r m))) : idxD h (.ref w) (.str (S "rest")) = some (.v (.int r)) := by
  have g : getK (wfs c a r m) (.inr (S "rest")) = some (.int r) := by simp only [getK, wfs, List.find?_cons, wns, decide_false, decide_true, Option.map_some]
  simp only [idxD, asK, e, g, Option.map_some]
theorem wg_mix (e : h[w]? = some (.dct (wfs c a r m))) : idxD h (.ref w) (.str (S "mix")) = some (.v (.int m)) := by
  have g : getK (wfs c a r m) (.inr (S "mix")) = some (.int m) := by simp only [getK, wfs, List.find?_cons, wns, decide_false, decide_true, Option.map_some]
  simp only [idxD, asK, e, g, Option.map_some]
theorem ws_at (e : h[w]? = some (.dct (wfs c a r m))) : stoD (.ref w) (.str (S "at")) (.int x) h = some (h.set w (.dct (wfs c x r m))) := by
  rw [sto_dct e (by rw [sizeLine_val]; simp [wfs])]
  simp only [putD, wfs, List.any_cons, wns, decide_false, decide_true, Bool.false_or, Bool.true_or, if_true, List.map_cons, List.map_nil, if_false]
theorem ws_rest (e : h[w]? = some (.dct (wfs c a r m))) : stoD (.ref w) (.str (S "rest")) (.int x) h = some (h.set w (.dct (wfs c a x m))) := by
  rw [sto_dct e (by rw [sizeLine_val]; simp [wfs])]
  simp only [putD, wfs, List.any_cons, wns, decide_false, decide_true, Bool.false_or, Bool.true_or, if_true, List.map_cons, List.map_nil, if_false]
theorem ws_mix (e : h[w]? = some (.dct (wfs c a r m))) : stoD (.ref w) (.str (S "mix")) (.int x) h = some (h.set w (.dct (wfs c a r x))) := by
  rw [sto_dct e (by rw [sizeLine_val]; simp [wfs])]
  simp only [putD, wfs, List.any_cons, wns, decide_false, decide_true, Bool.false_or, Bool.true_or, if_true, List.map_cons, List.map_nil, if_false]
end
def WellAt (h : Hd) (w c : Nat) : Prop := ∃ (cs : List Int) (a r m : Int), h[w]? = some (.dct (wfs c a r m)) ∧ h[c]? = some (.lst (cs.map D.int)) ∧ w ≠ c ∧ cs ≠ [] ∧ (∀ x ∈ cs, 0 ≤ x) ∧ 0 ≤ a ∧ 0 ≤ r ∧ 0 ≤ m
theorem WellAt.fr {h h' : Hd} {w c : Nat} {B : List Nat} (A : WellAt h w c) (F : Fr B h h') (k : ∀ k ∈ [w, c], k ∉ B) : WellAt h' w c := by
  obtain ⟨cs, a, r, m, h1, h2, rest⟩ := A
  exact ⟨cs, a, r, m, F.at_ _ _ h1 (k _ (by simp)), F.at_ _ _ h2 (k _ (by simp)), rest⟩
end Dk
end S_Q30_k37
end
section
set_option Elab.async false
set_option linter.all false
set_option maxRecDepth 100000
set_option maxHeartbeats 1000000
noncomputable section S_Q31_k37
namespace Dk
open PySem PySem.Spec PyProof.Rows L2
open Classical
/-! ### quiet piles -/
section
variable {L : Lo} {ns : List Str} {x y : Str} {zs zs' : List Str}
theorem cnt_congr' (k : ∀ z, z ≠ x → (z ∈ zs ↔ z ∈ zs')) : cnt L ns zs x = cnt L ns zs' x := by
  unfold cnt
  congr 1
  refine List.filter_congr fun w _ => ?_
  by_cases e : w = x
  · subst e; simp
  · have : decide (w ∈ zs) = decide (w ∈ zs') := by simp [k w e]
    rw [this]
theorem cnt_mono' (k : ∀ z, z ≠ x → z ∈ zs → z ∈ zs') : cnt L ns zs x ≤ cnt L ns zs' x := by
  unfold cnt
  rw [← List.countP_eq_length_filter, ← List.countP_eq_length_filter]
  refine List.countP_mono_left fun w mw => ?_
  simp only [Bool.and_eq_true, decide_eq_true_iff, Bool.not_eq_true', beq_eq_false_iff_ne]
  exact fun ⟨h1, h2, h3⟩ => ⟨h1, k w h3 h2, h3⟩
end
def Qp (L : Lo) (ns q : List Str) : Prop := q.Perm ns ∧ ∀ u z v, q = u ++ z :: v → (cnt L ns u z : Int) ≤ L.ov z
def Fre (L : Lo) (ns left : List Str) (x : Str) : Prop := (cnt L ns left x : Int) ≤ L.ov x
theorem lowest {left : List Str} : ∀ {q : List Str}, (∃ z ∈ q, z ∈ left) → ∃ u z v, q = u ++ z :: v ∧ z ∈ left ∧ ∀ w ∈ v, w ∉ left
  | [], h => by obtain ⟨z, m, _⟩ := h; cases m
  | a :: q, h => by
    by_cases c : ∃ z ∈ q, z ∈ left
    · obtain ⟨u, z, v, e, h1, h2⟩ := lowest c
      exact ⟨a :: u, z, v, by rw [e]; rfl, h1, h2⟩
    · refine ⟨[], a, q, rfl, ?_, fun w m ml => c ⟨w, m, ml⟩⟩
      obtain ⟨z, m, ml⟩ := h
      rcases List.mem_cons.mp m with rfl | m
      · exact ml
      · exact absurd ⟨z, m, ml⟩ c
section
variable {L : Lo} {ns q : List Str} {x y : Str}
theorem Qp.free (Q : Qp L ns q) {left : List Str} (sub : ∀ z ∈ left, z ∈ ns) (ne : left ≠ []) : ∃ z ∈ left, Fre L ns left z := by
  obtain ⟨z0, m0⟩ := List.exists_mem_of_ne_nil left ne
  obtain ⟨u, z, v, e, h1, h2⟩ := lowest (q := q) (left := left) ⟨z0, Q.1.mem_iff.mpr (sub z0 m0), m0⟩
  refine ⟨z, h1, ?_⟩
  have := Q.2 u z v e
  have m := cnt_mono' (L := L) (ns := ns) (x := z) (zs := left) (zs' := u) fun w n mw => by
    have : w ∈ q := Q.1.mem_iff.mpr (sub w mw)
    rw [e, List.mem_append, List.mem_cons] at this
    rcases this with h | h | h
    · exact h
    · exact absurd h n
    · exact absurd mw (h2 w h)
  unfold Fre
  omega
theorem idx_mid {u v : List Str} {z : Str} (n : z ∉ u) : (u ++ z :: v).idxOf z = u.length := by
  rw [List.idxOf_append, if_neg n]
  simp
theorem take_mid {u v : List Str} {z : Str} (n : z ∉ u) : (u ++ z :: v).take ((u ++ z :: v).idxOf z) = u := by
  rw [idx_mid n, List.take_left']
  rfl
theorem nd_mid {u v : List Str} {z : Str} (nd : (u ++ z :: v).Nodup) : z ∉ u ∧ z ∉ v := by
  obtain ⟨n1, n2, n3⟩ := List.nodup_append.mp nd
  exact ⟨fun m => n3 z m z (List.mem_cons_self ..) rfl, (List.nodup_cons.mp n2).1⟩
theorem Qp.kept (Q : Qp L ns q) (nd : ns.Nodup) {O : List Str} (sub : ∀ z ∈ O, z ∈ ns) (mx : x ∈ ns) (hx : x ∉ O) (kp : ∀ y ∈ O, ¬ Fre L ns (O ++ [x]) y) : ∀ y ∈ O, y ∈ q.take (q.idxOf x) := by
  obtain ⟨u, z, v, e, h1, h2⟩ := lowest (q := q) (left := O ++ [x]) ⟨x, Q.1.mem_iff.mpr mx, by simp⟩
  have ndq : q.Nodup := Q.1.nodup_iff.mpr nd
  have up : ∀ w ∈ O ++ [x], w ≠ z → w ∈ u := fun w mw n => by
    have : w ∈ q := Q.1.mem_iff.mpr (by
      rcases List.mem_append.mp mw with m | m
      · exact sub w m
      · rw [List.mem_singleton.mp m]; exact mx)
    rw [e, List.mem_append, List.mem_cons] at this
    rcases this with h | h | h
    · exact h
    · exact absurd h n
    · exact absurd mw (h2 w h)
  rcases List.mem_append.mp h1 with hz | hz
  · refine absurd ?_ (kp z hz)
    have := Q.2 u z v e
    have m := cnt_mono' (L := L) (ns := ns) (x := z) (zs := O ++ [x]) (zs' := u) fun w n mw => up w mw n
    unfold Fre
    omega
  · have := List.mem_singleton.mp hz
    subst this
    intro y my
    rw [e] at ndq ⊢
    rw [take_mid (nd_mid ndq).1]
    exact up y (List.mem_append_left _ my) fun q => hx (q ▸ my)
/-- taken from below: the pile so far, from the top, and what is left -/
inductive Tk (L : Lo) (ns : List Str) : List Str → List Str → Prop
  | nil : Tk L ns [] ns
  | cons {p left : List Str} (y : Str) : Tk L ns p left → y ∈ left → Fre L ns left y → Tk L ns (y :: p) (left.erase y)
theorem Tk.perm {p left : List Str} (t : Tk L ns p left) : (p ++ left).Perm ns := by
  induction t with
  | nil => exact List.Perm.refl _
  | cons y t m f ih =>
    refine List.Perm.trans ?_ ih
    exact (List.perm_middle.symm).trans ((List.perm_cons_erase m).symm.append_left _)
theorem Tk.low {p left : List Str} (nd : ns.Nodup) (t : Tk L ns p left) : ∀ u z v, p = u ++ z :: v → (cnt L ns (u ++ left) z : Int) ≤ L.ov z := by
  induction t with
  | nil => intro u z v e; simp at e
  | @cons p left y t m f ih =>
    have nl : left.Nodup := ((t.perm.nodup_iff.mpr nd).sublist (List.sublist_append_right _ _))
    intro u z v e
    cases u with
    | nil =>
      rw [List.nil_append] at e
      injection e with e1 e2
      subst e1
      rw [List.nil_append, cnt_congr' (zs' := left) fun w n => by rw [nl.mem_erase_iff]; exact ⟨fun h => h.2, fun h => ⟨n, h⟩⟩]
      exact f
    | cons a u =>
      rw [List.cons_append] at e
      injection e with e1 e2
      subst e1
      have := ih u z v e2
      rw [cnt_congr (zs' := u ++ left) fun w => ?_]
      · exact this
      · rw [List.cons_append, List.mem_cons, List.mem_append, List.mem_append, nl.mem_erase_iff]
        constructor
        · rintro (rfl | h | h)
          · exact .inr m
          · exact .inl h
          · exact .inr h.2
        · rintro (h | h)
          · exact .inr (.inl h)
          · by_cases c : w = y
            · exact .inl c
            · exact .inr (.inr ⟨c, h⟩)
theorem Tk.quiet {p : List Str} (nd : ns.Nodup) (t : Tk L ns p []) : Qp L ns p := by
  refine ⟨by have := t.perm; rwa [List.append_nil] at this, fun u z v e => ?_⟩
  have := t.low nd u z v e
  rwa [List.append_nil] at this
/-- whoever lies over one in all quiet piles -/
def Sov (L : Lo) (ns : List Str) (x : Str) : List Str := ns.filter fun y => decide (∀ q, Qp L ns q → y ∈ q.take (q.idxOf x))
theorem sub_filter {O : List Str} (s : O.Sublist ns) (nd : ns.Nodup) : ns.filter (fun y => decide (y ∈ O)) = O := by
  induction s with
  | slnil => rfl
  | @cons l1 l2 a s ih =>
    obtain ⟨n1, n2⟩ := List.nodup_cons.mp nd
    rw [List.filter_cons, if_neg (by simpa using fun m => n1 (s.subset m))]
    exact ih n2
  | @cons_cons l1 l2 a s ih =>
    obtain ⟨n1, n2⟩ := List.nodup_cons.mp nd
    rw [List.filter_cons, if_pos (by simp)]
    congr 1
    have := ih n2
    conv => rhs; rw [← this]
    refine List.filter_congr fun w m => ?_
    have : w ≠ a := fun q => n1 (q ▸ m)
    simp [this]
structure Rs (L : Lo) (ns : List Str) (x : Str) (p O : List Str) : Prop where
  qp : Qp L ns p
  sub : O.Sublist ns
  ab : ∀ y, y ∈ O ↔ y ∈ p.take (p.idxOf x)
  kp : ∀ y ∈ O, ¬ Fre L ns (O ++ [x]) y
theorem Rs.so {p O : List Str} (R : Rs L ns x p O) (nd : ns.Nodup) (mx : x ∈ ns) : O = Sov L ns x := by
  have ndp : p.Nodup := R.qp.1.nodup_iff.mpr nd
  have xp : x ∈ p := R.qp.1.mem_iff.mpr mx
  have hx : x ∉ O := fun m => not_take ndp xp ((R.ab x).mp m)
  rw [← sub_filter R.sub nd]
  unfold Sov
  refine List.filter_congr fun y my => ?_
  rw [Bool.eq_iff_iff, decide_eq_true_iff, decide_eq_true_iff]
  constructor
  · exact fun m q Q => Q.kept nd (fun z mz => R.sub.subset mz) mx hx R.kp y m
  · exact fun k => (R.ab y).mpr (k p R.qp)
end
end Dk
end S_Q31_k37
end
section
set_option Elab.async false
set_option linter.all false
set_option maxRecDepth 100000
set_option maxHeartbeats 1000000
noncomputable section S_Q32_k37
namespace Dk
open PySem PySem.Spec PyProof.Rows L2
open Classical
/-! ### while, dicts made by comprehensions -/
theorem wGo_at {t : ST} {f : SS} {Q : Fl → Hd → Prop} (I : Nat → Env → Hd → Prop)
    (step : ∀ n e h, I n e h → wp (t e h) fun c h1 => match c with
      | true => wpS (f e h1) fun fl h2 => match fl with | .nx e2 => ∃ m, m < n ∧ I m e2 h2 | .ct e2 => ∃ m, m < n ∧ I m e2 h2 | .bk e2 => Q (.nx e2) h2 | fl => Q fl h2
      | false => Q (.nx e) h1) : ∀ (k n : Nat) (e : Env) (h : Hd), n < k → I n e h → wpS (wGo t f k e h) Q
  | 0, n, e, h, lt, _ => by omega
  | k + 1, n, e, h, lt, i => by
    unfold wGo
    rw [wpS_sE]
    refine wp_imp (step n e h i) fun c h1 hc => ?_
    cases c with
    | false => exact hc
    | true =>
      simp only [if_true]
      cases z : f e h1 with
      | fail => rw [z] at hc; exact hc.elim
      | ok fl h2 =>
        rw [z] at hc
        cases fl with
        | nx e2 =>
          obtain ⟨m, lm, im⟩ := hc
          exact wGo_at I step k m e2 h2 (by omega) im
        | ct e2 =>
          obtain ⟨m, lm, im⟩ := hc
          exact wGo_at I step k m e2 h2 (by omega) im
        | bk e2 => exact hc
        | rt d => exact hc
        | ex c fs e2 => exact hc
theorem whl_at {t : ST} {f : SS} {Q : Fl → Hd → Prop} (I : Nat → Env → Hd → Prop)
    (step : ∀ n e h, I n e h → wp (t e h) fun c h1 => match c with
      | true => wpS (f e h1) fun fl h2 => match fl with | .nx e2 => ∃ m, m < n ∧ I m e2 h2 | .ct e2 => ∃ m, m < n ∧ I m e2 h2 | .bk e2 => Q (.nx e2) h2 | fl => Q fl h2
      | false => Q (.nx e) h1) {n : Nat} {e : Env} {h : Hd} (lt : n < 100000) (i : I n e h) : wpS (sWhl t f e h) Q :=
  wGo_at I step turns n e h lt i
theorem whl_is {t : ST} {f : SS} {Q : Fl → Hd → Prop} (I : Nat → Env → Hd → Prop)
    (step : ∀ n e h, I n e h → ∃ b, (wp (t e h) fun c h' => c = b ∧ h' = h) ∧ (b = true → wpS (f e h) fun fl h2 => match fl with | .nx e2 => ∃ m, m < n ∧ I m e2 h2 | .ct e2 => ∃ m, m < n ∧ I m e2 h2 | .bk e2 => Q (.nx e2) h2 | fl => Q fl h2) ∧ (b = false → Q (.nx e) h))
    {n : Nat} {e : Env} {h : Hd} (lt : n < 100000) (i : I n e h) : wpS (sWhl t f e h) Q := by
  refine whl_at I (fun n e h i => ?_) lt i
  obtain ⟨b, w, h1, h2⟩ := step n e h i
  refine wp_imp w ?_
  rintro c h' ⟨rfl, rfl⟩
  cases c with
  | true => exact h1 rfl
  | false => exact h2 rfl
theorem dcGo_all {α : Type} {src : List (Nat × Ob)} {g : TgF} {fk fv : SE} {e : Env} {h : Hd} (enc : α → D) (kf : α → Str) (vf : α → D) (ok : srcOk src h) : ∀ (xs : List α) (acc : List (Key × D)), (∀ a ∈ xs, ∃ e1, g (enc a) e h = some (e1, h) ∧ (wp (fk e1 h) fun d h' => d = .str (kf a) ∧ h' = h) ∧ (wp (fv e1 h) fun d h' => d = vf a ∧ h' = h)) → acc.length + xs.length < sizeLine →
    dcGo src g (fun _ => pu true) fk fv e (xs.map enc) acc h = .ok (mergeD acc (xs.map fun a => ((.inr (kf a) : Key), vf a))) h
  | [], acc, _, _ => by
    rw [List.map_nil]
    show (if srcOk src h then _ else _) = _
    rw [if_pos ok]
    rfl
  | a :: xs, acc, k, z => by
    rw [List.length_cons] at z
    obtain ⟨e1, g1, w1, w2⟩ := k a (List.mem_cons_self ..)
    rw [List.map_cons]
    unfold dcGo
    rw [if_pos ⟨ok, by omega⟩, g1]
    have f1 := wp_is w1
    have f2 := wp_is w2
    have hl : (putD acc (.inr (kf a)) (vf a)).length ≤ acc.length + 1 := by
      unfold putD
      split
      · rw [List.length_map]; omega
      · simp
    simp only [pu, f1, f2, keyOf]
    rw [dcGo_all enc kf vf ok xs _ (fun b m => k b (List.mem_cons_of_mem _ m)) (by omega)]
    rfl
theorem lcGo_grow {α : Type} {g : TgF} {t : ST} {f : SE} {e : Env} {h : Hd} {Q : List D → Hd → Prop} (enc : α → D) (p : α → Bool) (y : α → D) (xs : List α) (J : Hd → Prop) (h0 : J h)
    (st : ∀ a ∈ xs, ∀ h, J h → ∃ e1, g (enc a) e h = some (e1, h) ∧ wp (t e1 h) fun c h' => c = p a ∧ J h' ∧ (p a = true → wp (f e1 h') fun d h'' => d = y a ∧ J h'')) (k : ∀ h', J h' → Q ((xs.filter p).map y) h') : wp (lcGo [] g t f e (xs.map enc) h) Q := by
  refine lcGo_inv (Q := fun ys h' => Q ys h') (fun rest acc h => J h ∧ ∃ us vs, xs = us ++ vs ∧ rest = vs.map enc ∧ acc = (us.filter p).map y) ?_ ?_ _ [] h ⟨h0, [], xs, rfl, rfl, rfl⟩
  · rintro acc h' ⟨j, us, vs, e1, e2, rfl⟩
    have : vs = [] := by
      cases vs with
      | nil => rfl
      | cons _ _ => cases e2
    subst this
    rw [List.append_nil] at e1
    subst e1
    exact ⟨srcOk_nil _, k h' j⟩
  · rintro d ds acc h' ⟨j, us, vs, e1, e2, rfl⟩
    cases vs with
    | nil => cases e2
    | cons a vs =>
      rw [List.map_cons] at e2
      injection e2 with e3 e4
      subst e3 e4
      obtain ⟨en, g1, w⟩ := st a (by rw [e1]; simp) h' j
      refine ⟨srcOk_nil _, en, h', g1, wp_imp w ?_⟩
      rintro c h2 ⟨rfl, j2, w2⟩
      cases hp : p a with
      | true =>
        refine wp_imp (w2 hp) ?_
        rintro d h3 ⟨rfl, j3⟩
        exact ⟨j3, us ++ [a], vs, by rw [e1]; simp, rfl, by rw [List.filter_append, List.filter_cons, hp]; simp⟩
      | false => exact ⟨j2, us ++ [a], vs, by rw [e1]; simp, rfl, by rw [List.filter_append, List.filter_cons, hp]; simp⟩
theorem eraseI {z : Str} : ∀ {l : List Str}, l.eraseIdx (l.idxOf z) = l.erase z
  | [] => rfl
  | a :: l => by
    rw [List.idxOf_cons, List.erase_cons]
    cases e : (a == z) with
    | true => simp
    | false => simp [eraseI]
/-! ### counted elders -/
def AH (L : Lo) (ns : List Str) : List (Key × D) := mergeD [] (ns.map fun x => ((.inr x : Key), D.dct (mergeD [] ((eld L ns x).map fun y => ((.inr y : Key), D.bl true)))))
def CO (L : Lo) (ns : List Str) : List (Key × D) := mergeD [] (ns.map fun x => ((.inr x : Key), D.int (L.ov x)))
def cfs (L : Lo) (ns : List Str) : Fs := [("names", .tup (ns.map D.str)), ("ahead", .dct (AH L ns)), ("counts", .dct (CO L ns))]
theorem fld_names : fld "Counted" "names" = true := by decide
theorem fld_ahead : fld "Counted" "ahead" = true := by decide
theorem fld_counts : fld "Counted" "counts" = true := by decide
section
variable {L : Lo} {ns ys : List Str} {h : Hd} {x : Str} {o : Nat}
theorem ah_at (nd : ns.Nodup) (m : x ∈ ns) {h : Hd} : idxD h (.dct (AH L ns)) (.str x) = some (.v (.dct (mergeD [] ((eld L ns x).map fun y => ((.inr y : Key), D.bl true))))) := by
  have g : getK (AH L ns) (.inr x) = some (.dct (mergeD [] ((eld L ns x).map fun y => ((.inr y : Key), D.bl true)))) := by
    unfold AH
    rw [getK_merge (keys_nd (f := fun x : Str => x) (by rw [List.map_id']; exact nd)), getK_hit (f := fun x : Str => x) (g := fun x => D.dct (mergeD [] ((eld L ns x).map fun y => ((.inr y : Key), D.bl true)))) m fun _ _ z => z]
    rfl
  simp [idxD, asK, g]
theorem co_at (nd : ns.Nodup) (m : x ∈ ns) {h : Hd} : idxD h (.dct (CO L ns)) (.str x) = some (.v (.int (L.ov x))) := by
  have g : getK (CO L ns) (.inr x) = some (.int (L.ov x)) := by
    unfold CO
    rw [getK_merge (keys_nd (f := fun x : Str => x) (by rw [List.map_id']; exact nd)), getK_hit (f := fun x : Str => x) (g := fun x => D.int (L.ov x)) m fun _ _ z => z]
    rfl
  simp [idxD, asK, g]
theorem in_eld (nd : ns.Nodup) {y : Str} {h : Hd} : inD h (.str y) (.dct (mergeD [] ((eld L ns x).map fun y => ((.inr y : Key), D.bl true)))) = some (decide (y ∈ eld L ns x)) := by
  have nde : (eld L ns x).Nodup := nd.filter _
  have g : (getK (mergeD [] ((eld L ns x).map fun y => ((.inr y : Key), D.bl true))) (.inr y)).isSome = decide (y ∈ eld L ns x) := by
    rw [getK_merge (keys_nd (f := fun x : Str => x) (by rw [List.map_id']; exact nde))]
    by_cases m : y ∈ eld L ns x
    · rw [getK_hit (f := fun x : Str => x) (g := fun _ => D.bl true) m fun _ _ z => z]
      simp [m]
    · rw [getK_miss (f := fun x : Str => x) (g := fun _ => D.bl true) (x := y) fun a ma e => m (by rw [← e]; exact ma)]
      simp [m, getK]
  simp [inD, asS, asL, asK, keyOf, g]
theorem counted_ok (z : ns.length ≤ 1000) (nd : ns.Nodup) : mkM "Counted" [] m_Counted___init__ [loreD L ns] h = .ok (.ref h.length) (h ++ [.ins "Counted" (cfs L ns)]) := by
  have at0 : ∀ (fs : Fs) (f : String) (v : D), fld "Counted" f = true → fs.length < 1000 → attD fld f (.ref h.length) v (h ++ [.ins "Counted" fs]) = some (h ++ [.ins "Counted" (putFs f v fs)]) := by
    intro fs f v hf hl
    unfold attD
    have : (h ++ [Ob.ins "Counted" fs])[h.length]? = some (.ins "Counted" fs) := by simp
    simp only [this]
    rw [if_pos ⟨hf, hl⟩]
    simp
  have p1 : ∀ v, putFs "names" v [] = [("names", v)] := fun _ => rfl
  have p2 : ∀ v w, putFs "ahead" v [("names", w)] = [("names", w), ("ahead", v)] := fun _ _ => rfl
  have p3 : ∀ v w u, putFs "counts" v [("names", w), ("ahead", u)] = [("names", w), ("ahead", u), ("counts", v)] := fun _ _ _ => rfl
  have q : m_Counted___init__ [.ref h.length, loreD L ns] (h ++ [.ins "Counted" []]) = .ok .non (h ++ [.ins "Counted" (cfs L ns)]) := by
    refine wp_is (wp_mF rfl ?_)
    unfold f_Counted___init__
    rw [wpS_cut 1]
    simp only [List.take_succ_cons, List.take_zero, lsx, List.replicate, wps, here_ok z, at0 _ _ _ fld_names (by decide : ([] : Fs).length < 1000), p1]
    unfold hid
    simp only [List.drop_succ_cons, List.drop_zero]
    generalize hh : h ++ [Ob.ins "Counted" [("names", .tup (ns.map D.str))]] = h1
    have o1 : h1[h.length]? = some (.ins "Counted" [("names", .tup (ns.map D.str))]) := by rw [← hh]; simp
    have lk : ([("names", D.tup (ns.map D.str))] : Fs).lookup "names" = some (.tup (ns.map D.str)) := rfl
    rw [wpS_cut 1]
    simp only [List.take_succ_cons, List.take_zero, lsx, wps, asIns_ob o1, fld_names, lk, itD_tup, wipeE]
    rw [dcGo_all D.str (fun x => x) (fun x => D.dct (mergeD [] ((eld L ns x).map fun y => ((.inr y : Key), D.bl true)))) (srcOk_nil h1) ns [] (fun x m => ⟨_, rfl, by simp only [lsx, wps, and_self], ?_⟩) (by rw [sizeLine_val]; simp; omega)]
    · have a2 : attD fld "ahead" (.ref h.length) (.dct (AH L ns)) h1 = some (h ++ [.ins "Counted" [("names", .tup (ns.map D.str)), ("ahead", .dct (AH L ns))]]) := by
        rw [← hh, at0 _ _ _ fld_ahead (by simp), p2]
      unfold AH at a2
      simp only [lsx, wps, a2]
      unfold hid
      simp only [List.drop_succ_cons, List.drop_zero]
      have a3 : attD fld "counts" (.ref h.length) (.dct (CO L ns)) (h ++ [.ins "Counted" [("names", .tup (ns.map D.str)), ("ahead", .dct (AH L ns))]]) = some (h ++ [.ins "Counted" (cfs L ns)]) := by
        rw [at0 _ _ _ fld_counts (by simp), p3]
        rfl
      have ah : mergeD [] (ns.map fun x => ((.inr x : Key), D.dct (mergeD [] ((eld L ns x).map fun y => ((.inr y : Key), D.bl true))))) = AH L ns := rfl
      rw [ah]
      generalize h ++ [Ob.ins "Counted" [("names", .tup (ns.map D.str)), ("ahead", .dct (AH L ns))]] = h2 at a3
      unfold loreD
      simp only [lsx, wps, itD_tup, wipeE]
      rw [dcGo_all (rw4 L) (fun x => x) (fun x => D.int (L.ov x)) (srcOk_nil h2) ns [] (fun x m => ⟨_, rfl, by simp only [lsx, wps, rw4, idx_tup, atIs, opt, and_self], ?_⟩) (by rw [sizeLine_val]; simp; omega)]
      · unfold CO at a3
        simp only [lsx, wps, a3, and_self]
      · have i3 : idxD h2 (rw4 L x) (.int 3) = some (.v (.int (L.ov x))) := rfl
        simp only [lsx, wps, i3, and_self]
    · simp only [lsx, wps, elders_ok (h := h1) z m, itD_tup, wipeE]
      have le := List.length_filter_le (fun y => !(y == x) && decide (L.ca y < L.lo x)) ns
      rw [dcGo_all D.str (fun x => x) (fun _ => D.bl true) (srcOk_nil h1) (eld L ns x) [] (fun y my => ⟨_, rfl, by simp only [lsx, wps, and_self], by simp only [lsx, wps, and_self]⟩) (by rw [sizeLine_val]; unfold eld; simp; omega)]
      simp only [lsx, wps, and_self]
  unfold mkM
  simp only [List.append_nil, List.nil_append, q]
def frB (L : Lo) (ns ys : List Str) (x : Str) : Bool := decide (((ys.filter fun y => decide (y ∈ eld L ns x)).length : Int) ≤ L.ov x)
theorem frB_cnt (nd : ns.Nodup) (ndy : ys.Nodup) (sub : ∀ y ∈ ys, y ∈ ns) : frB L ns ys x = true ↔ Fre L ns ys x := by
  unfold frB Fre cnt
  rw [decide_eq_true_iff]
  have : (ys.filter fun y => decide (y ∈ eld L ns x)).Perm (ns.filter fun y => decide (L.ca y < L.lo x) && (decide (y ∈ ys) && !(y == x))) := by
    refine (List.perm_ext_iff_of_nodup (ndy.filter _) (nd.filter _)).mpr fun y => ?_
    rw [cnt_mem]
    unfold eld
    simp only [List.mem_filter, decide_eq_true_iff, Bool.and_eq_true, Bool.not_eq_true', beq_eq_false_iff_ne]
    constructor
    · rintro ⟨h1, h2, h3, h4⟩
      exact ⟨h2, h4, h1, h3⟩
    · rintro ⟨h1, h2, h3, h4⟩
      exact ⟨h3, h1, h4, h2⟩
  rw [this.length_eq]
theorem lkc {a : String} {v : D} (e : (cfs L ns).lookup a = some v) : (cfs L ns).lookup a = some v := e
theorem cf_ahead : (cfs L ns).lookup "ahead" = some (.dct (AH L ns)) := rfl
theorem cf_counts : (cfs L ns).lookup "counts" = some (.dct (CO L ns)) := rfl
theorem cf_is_free : (cfs L ns).lookup "is_free" = none := rfl
theorem cf_free_in : (cfs L ns).lookup "free_in" = none := rfl
theorem cf_taken : (cfs L ns).lookup "taken" = none := rfl
theorem cf_left_of : (cfs L ns).lookup "left_of" = none := rfl
theorem c_is_free_ok (nd : ns.Nodup) (e : h[o]? = some (.ins "Counted" (cfs L ns))) (zy : ys.length ≤ 1000) (m : x ∈ ns) : m_Counted_is_free [.ref o, .tup (ys.map D.str), .str x] h = .ok (.bl (frB L ns ys x)) h := by
  refine wp_is (wp_mF rfl ?_)
  unfold f_Counted_is_free
  simp only [lsx, List.replicate, wps, itD_tup, wipeE]
  rw [lcGo_map D.str (fun y => decide (y ∈ eld L ns x)) D.str (srcOk_nil h) ys fun y my => ⟨_, rfl, by simp only [lsx, wps, asIns_ob e, cf_ahead, fld_ahead, ah_at nd m, cmp_in, in_eld nd, tru_bl, and_self], fun _ => by simp only [lsx, wps, and_self]⟩]
  have le := List.length_filter_le (fun y => decide (y ∈ eld L ns x)) ys
  have zl : ((ys.filter fun y => decide (y ∈ eld L ns x)).map D.str).length ≤ 16777216 := by rw [List.length_map]; omega
  simp only [lsx, wps, zl, len_lst, asIns_ob e, cf_counts, fld_counts, co_at nd m, cmp_le]
  rw [List.length_map]
  exact ⟨rfl, trivial⟩
theorem free_in_ok (nd : ns.Nodup) (e : h[o]? = some (.ins "Counted" (cfs L ns))) (zy : ys.length ≤ 1000) (sub : ∀ y ∈ ys, y ∈ ns) : m_Counted_free_in [.ref o, .tup (ys.map D.str)] h = .ok (.lst ((ys.filter (frB L ns ys)).map D.str)) h := by
  refine wp_is (wp_mF rfl ?_)
  unfold f_Counted_free_in
  have t : tb_Counted_free_in "Counted" "is_free" = some (2, m_Counted_is_free) := by simp [tb_Counted_free_in, addM]
  simp only [lsx, List.replicate, wps, itD_tup, wipeE]
  rw [lcGo_map D.str (frB L ns ys) D.str (srcOk_nil h) ys fun y my => ⟨_, rfl, by simp only [lsx, wps, asIns_ob e, t, cf_is_free, c_is_free_ok nd e zy (sub y my), tru_bl, and_self], fun _ => by simp only [lsx, wps, and_self]⟩]
  have le := List.length_filter_le (frB L ns ys) ys
  have zl : ((ys.filter (frB L ns ys)).map D.str).length ≤ 16777216 := by rw [List.length_map]; omega
  simp only [lsx, wps, zl, and_self]
theorem without_all_ok {gone : List Str} {d : D} (hd : ∀ y, inD h (.str y) d = some (decide (y ∈ gone))) (zy : ys.length ≤ 1000) : m_without_all [.tup (ys.map D.str), d] h = .ok (.tup ((ys.filter fun y => !decide (y ∈ gone)).map D.str)) h := by
  refine wp_is (wp_mF rfl ?_)
  unfold f_without_all
  simp only [lsx, List.replicate, wps, itD_tup, wipeE]
  rw [lcGo_map D.str (fun y => !decide (y ∈ gone)) D.str (srcOk_nil h) ys fun y my => ⟨_, rfl, by simp only [lsx, wps, cmp_nin, hd, opt, tru_bl, and_self], fun _ => by simp only [lsx, wps, and_self]⟩]
  have le := List.length_filter_le (fun y => !decide (y ∈ gone)) ys
  have zl : ((ys.filter fun y => !decide (y ∈ gone)).map D.str).length ≤ 16777216 := by rw [List.length_map]; omega
  simp only [lsx, wps, zl, tup_lst, and_self]
end
end Dk
end S_Q32_k37
end
section
set_option Elab.async false
set_option linter.all false
set_option maxRecDepth 100000
set_option maxHeartbeats 1000000
noncomputable section S_Q33_k37
namespace Dk
open PySem PySem.Spec PyProof.Rows L2
open Classical
theorem ne_nilL {h : Hd} {l : List D} : cmpB .NotEq h (.lst l) (.lst []) = some (!l.isEmpty) := by
  rw [cmp_ne, rs_lst, rs_lst, eqD_lst]
  cases l <;> rfl
theorem eq_nilL {h : Hd} {l : List D} : cmpB .Eq h (.lst l) (.lst []) = some l.isEmpty := by
  rw [cmp_eq, rs_lst, rs_lst, eqD_lst]
  cases l <;> rfl
theorem ne_nilT {h : Hd} {l : List D} : cmpB .NotEq h (.tup l) (.tup []) = some (!l.isEmpty) := by
  rw [cmp_ne, rs_tup, rs_tup, eqD_tup]
  cases l <;> rfl
section
variable {L : Lo} {ns : List Str} {h : Hd} {x : Str} {o : Nat}
def fl (L : Lo) (ns left : List Str) : List Str := (left.filter (frB L ns left)).filter fun y => decide (y ∈ ns)
theorem fl_mem (nd : ns.Nodup) {left : List Str} (ndl : left.Nodup) (sub : ∀ y ∈ left, y ∈ ns) {y : Str} : y ∈ fl L ns left ↔ y ∈ left ∧ Fre L ns left y := by
  unfold fl
  rw [List.mem_filter, List.mem_filter, frB_cnt nd ndl sub, decide_eq_true_iff]
  exact ⟨fun z => z.1, fun z => ⟨z, sub y z.1⟩⟩
theorem taken_wp {Q : D → Hd → Prop} (hq : ∃ q, Qp L ns q) (z : ns.length ≤ 500) (nd : ns.Nodup) (e : h[o]? = some (.ins "Counted" (cfs L ns)))
    (k : ∀ (fd : List Str) (h' : Hd), (∀ y ∈ ns, y ∈ fd) → Fr [] h h' → Q (.tup (fd.map D.str)) h') : wp (m_Counted_taken [.ref o, .tup (ns.map D.str), .tup (ns.map D.str)] h) Q := by
  obtain ⟨q, hq⟩ := hq
  refine wp_mF rfl ?_
  unfold f_Counted_taken
  have t : tb_Counted_taken "Counted" "free_in" = some (1, m_Counted_free_in) := by simp [tb_Counted_taken, addM]
  have e' : ∀ l : List D, (h ++ [Ob.lst l])[o]? = some (.ins "Counted" (cfs L ns)) := fun l => by
    rw [List.getElem?_append_left (List.getElem?_eq_some_iff.mp e).1]
    exact e
  have fr : ∀ (l : List D) (left : List Str), left.length ≤ 1000 → (∀ y ∈ left, y ∈ ns) → ∀ x3 x4 x5 {R : Fl → Hd → Prop}, R (.nx [some (.ref o), some (.tup (left.map D.str)), some (.tup (ns.map D.str)), x3, some (.lst ((fl L ns left).map D.str)), x5]) (h ++ [.lst l]) →
      wpS (sAsg (gN 4) (lcX false false [5] (itX (mthX tb_Counted_taken "free_in" 1 (vX 0) (aList [(vX 1)]))) (gN 5) (tru (cmpX .In (vX 5) (vX 2))) (vX 5)) [some (.ref o), some (.tup (left.map D.str)), some (.tup (ns.map D.str)), x3, x4, x5] (h ++ [.lst l])) R := by
    intro l left zl sub x3 x4 x5 R r
    simp only [lsx, wps, asIns_ob (e' l), t, cf_free_in, free_in_ok nd (e' l) zl sub, itD_lst, wipeE]
    rw [lcGo_map D.str (fun y => decide (y ∈ ns)) D.str (srcOk_nil _) _ fun y my => ⟨_, rfl, by simp only [lsx, wps, cmp_in, in_tupS, tru_bl, and_self], fun _ => by simp only [lsx, wps, and_self]⟩]
    have l1 := List.length_filter_le (fun y => decide (y ∈ ns)) (left.filter (frB L ns left))
    have l2 := List.length_filter_le (frB L ns left) left
    simp only [lsx, wps, List.length_map]
    exact ⟨by omega, r⟩
  rw [wpS_cut 1]
  simp only [List.take_succ_cons, List.take_zero, lsx, List.replicate, wps, List.length_nil, Nat.zero_le]
  unfold hid
  simp only [List.drop_succ_cons, List.drop_zero]
  rw [wpS_cons]
  refine fr [] ns (by omega) (fun _ m => m) _ _ _ ?_
  simp only [nxt_nx]
  rw [wpS_cons]
  refine whl_is (fun n env h' => ∃ left fd x5, n = left.length ∧ env = [some (.ref o), some (.tup (left.map D.str)), some (.tup (ns.map D.str)), some (.ref h.length), some (.lst ((fl L ns left).map D.str)), x5] ∧ h' = h ++ [.lst (fd.map D.str)] ∧ (fd ++ left).Perm ns) ?_ (n := ns.length) (by omega) ⟨ns, [], none, rfl, rfl, rfl, List.Perm.refl _⟩
  rintro n env h' ⟨left, fd, x5, rfl, rfl, rfl, pm⟩
  have ndl : left.Nodup := (pm.nodup_iff.mpr nd).sublist (List.sublist_append_right _ _)
  have sub : ∀ y ∈ left, y ∈ ns := fun y m => pm.mem_iff.mp (List.mem_append_right _ m)
  have hlen := pm.length_eq
  rw [List.length_append] at hlen
  refine ⟨!(fl L ns left).isEmpty, by simp only [lsx, wps, ne_nilL, tru_bl, List.length_nil, Nat.zero_le, List.isEmpty_map, and_self], fun hb => ?_, fun hb => ?_⟩
  rotate_left
  · have ef : fl L ns left = [] := by simpa using hb
    simp only [nxt_nx]
    have le : left = [] := by
      cases left with
      | nil => rfl
      | cons a r =>
        obtain ⟨w, m, f⟩ := hq.free sub (List.cons_ne_nil _ _)
        have := (fl_mem nd ndl sub).mpr ⟨m, f⟩
        rw [ef] at this
        cases this
    subst le
    simp only [lsx, wps, tup_ref app_last]
    refine k fd _ (fun y m => ?_) Fr.refl.app
    have := pm.mem_iff.mpr m
    rwa [List.append_nil] at this
  · obtain ⟨w, r, ef⟩ : ∃ w r, fl L ns left = w :: r := by
      cases z : fl L ns left with
      | nil => rw [z] at hb; cases hb
      | cons w r => exact ⟨w, r, rfl⟩
    rw [ef]
    have mw : w ∈ left ∧ Fre L ns left w := (fl_mem nd ndl sub).mp (by rw [ef]; exact List.mem_cons_self ..)
    have ap := app_ref (y := .str w) (app_last (h := h) (o := .lst (fd.map D.str))) (by rw [List.length_map, sizeLine_val]; omega)
    have es : (h ++ [Ob.lst (fd.map D.str)]).set h.length (.lst (fd.map D.str ++ [.str w])) = h ++ [.lst ((fd ++ [w]).map D.str)] := by simp
    rw [es] at ap
    have wo := without_all_ok (h := h ++ [.lst ((fd ++ [w]).map D.str)]) (ys := left) (gone := [w]) (d := .lst [.str w]) (fun y => by rw [show ([D.str w] : List D) = [w].map D.str from rfl, in_lstS]) (by omega)
    rw [wpS_cut 2]
    simp only [List.take_succ_cons, List.take_zero, lsx, wps, asIns_lst app_last, selM_app app_last, BM.fn, idx_lst, atIs, opt, List.map_cons, ap, sl_lst, show (some (1 : Int)) = some ((1 : Nat) : Int) from rfl, cutD_take, wo]
    unfold hid
    simp only [List.drop_succ_cons, List.drop_zero]
    rw [wpS_cons]
    have pl : (left.filter fun y => !decide (y ∈ [w])).length < left.length := by
      refine List.length_filter_lt_length_iff_exists.mpr ⟨w, mw.1, by simp⟩
    refine fr _ _ (by omega) (fun y m => sub y (List.mem_filter.mp m).1) _ _ _ ?_
    simp only [nxt_nx, wpS_nil]
    refine ⟨_, pl, _, fd ++ [w], _, rfl, rfl, rfl, ?_⟩
    refine List.Perm.trans ?_ pm
    rw [List.append_assoc]
    refine List.Perm.append_left _ ?_
    have ef2 : (left.filter fun y => !decide (y ∈ [w])) = left.filter fun y => decide (y ≠ w) := List.filter_congr fun y _ => by simp
    rw [ef2, ← erase_filter ndl, eraseI]
    exact (List.perm_cons_erase mw.1).symm
theorem stuck_wp {Q : D → Hd → Prop} (hq : ∃ q, Qp L ns q) (z : ns.length ≤ 500) (nd : ns.Nodup) (k : ∀ h', Fr [] h h' → Q (.tup []) h') : wp (m_stuck [loreD L ns] h) Q := by
  refine wp_mF rfl ?_
  unfold f_stuck
  have t1 : tb_stuck "Counted" "left_of" = some (1, m_Counted_left_of) := by simp [tb_stuck, addM]
  have t2 : tb_Counted_left_of "Counted" "taken" = some (2, m_Counted_taken) := by simp [tb_Counted_left_of, addM]
  have o1 : (h ++ [Ob.ins "Counted" (cfs L ns)])[h.length]? = some (.ins "Counted" (cfs L ns)) := app_last
  have F : Fr [] h (h ++ [Ob.ins "Counted" (cfs L ns)]) := Fr.refl.app
  simp only [lsx, List.replicate, wps, counted_ok (L := L) (h := h) (by omega) nd, asIns_ob o1, t1, cf_left_of, here_ok (show ns.length ≤ 1000 by omega)]
  generalize h ++ [Ob.ins "Counted" (cfs L ns)] = h1 at o1 F
  refine wp_mF rfl ?_
  unfold f_Counted_left_of
  simp only [lsx, List.replicate, wps, asIns_ob o1, t2, cf_taken]
  refine taken_wp hq z nd o1 fun fd h2 all F2 => ?_
  rw [without_all_ok (h := h2) (ys := ns) (gone := fd) (fun y => in_tupS) (by omega)]
  simp only [wps]
  rw [List.filter_eq_nil_iff.mpr fun y m => by simp [all y m]]
  exact k h2 (F.trans F2)
/-! ### raised -/
theorem rev_ref {n : Nat} {xs : List D} (e : h[n]? = some (.lst xs)) : revD h (.ref n) = some (.l xs.reverse) := by simp [revD, asL, e]
theorem wp_revX {mu : Bool} {f g : SE} {e : Env} {Q : D → Hd → Prop} : wp (revX mu f g e h) Q = wp (f e h) fun d h1 => wp (g e h1) fun k h2 => match k with
    | .int i => i = -1 ∧ wp (lf mu (revD h2 d) h2) Q
    | _ => False := by
  unfold revX
  rw [wp_bd]
  congr
  funext d h1
  rw [wp_bd]
  congr
  funext k h2
  cases k with
  | int i =>
    by_cases c : i = -1
    · simp only [c, if_true, true_and]
    · simp only [if_neg c, c, false_and]
      rfl
  | _ => rfl
inductive Ph (L : Lo) (ns : List Str) (x : Str) (p left over : List Str) : Prop
  | one : x ∈ left → over = [] → Ph L ns x p left over
  | two (u v : List Str) : p = u ++ x :: v → (∀ y, y ∈ over ↔ y ∈ u ∨ y ∈ left) → over.Sublist ns → (∀ y ∈ over, ¬ Fre L ns (over ++ [x]) y) → Ph L ns x p left over
end
end Dk
end S_Q33_k37
end
section
set_option Elab.async false
set_option linter.all false
set_option maxRecDepth 100000
set_option maxHeartbeats 1000000
noncomputable section S_Q34_k37
namespace Dk
open PySem PySem.Spec PyProof.Rows L2
open Classical
section
variable {L : Lo} {ns : List Str} {h : Hd} {x : Str}
def Sun (L : Lo) (ns : List Str) (x : Str) : List Str := ns.filter fun y => !(y == x) && decide (x ∈ Sov L ns y)
def Tps (L : Lo) (ns : List Str) : List Str := ns.filter fun y => (Sov L ns y).isEmpty
/-! ### the law's own look -/
def calmB (L : Lo) (ns q : List Str) : Bool := ((List.range q.length).filter fun i => decide (0 < (ly L ns q i : Int) - L.ov (nth q i))).isEmpty
theorem calm_qp {q : List Str} (p : q.Perm ns) : calmB L ns q = true ↔ Qp L ns q := by
  unfold calmB
  rw [List.isEmpty_iff, List.filter_eq_nil_iff]
  constructor
  · refine fun k => ⟨p, fun u z v e => ?_⟩
    have hl : u.length < q.length := by rw [e]; simp
    have h1 := k u.length (List.mem_range.mpr hl)
    have h2 : nth q u.length = z := by
      have := nth_at hl
      rw [e, List.getElem?_append_right (by omega)] at this
      simp at this
      rw [e]
      exact this.symm
    have h3 : q.take u.length = u := by rw [e, List.take_left']; rfl
    unfold ly at h1
    rw [h2, h3] at h1
    simp at h1
    omega
  · intro Q i m
    have hl := List.mem_range.mp m
    have e : q = q.take i ++ nth q i :: q.drop (i + 1) := by
      conv => lhs; rw [← List.take_append_drop i q]
      congr 1
      rw [List.drop_eq_getElem_cons hl]
      have := nth_at hl
      rw [List.getElem?_eq_getElem hl] at this
      rw [Option.some.inj this]
    have := Q.2 _ _ _ e
    unfold ly
    simp
    omega
/-! ### all turns -/
def pms : Nat → List Str → List (List Str)
  | 0, _ => [[]]
  | n + 1, ys => (List.range ys.length).flatMap fun i => (pms n (ys.take i ++ ys.drop (i + 1))).map (nth ys i :: ·)
theorem cut_nth {ys : List Str} {i : Nat} (hl : i < ys.length) : ys = ys.take i ++ nth ys i :: ys.drop (i + 1) := by
  conv => lhs; rw [← List.take_append_drop i ys]
  congr 1
  rw [List.drop_eq_getElem_cons hl]
  have := nth_at hl
  rw [List.getElem?_eq_getElem hl] at this
  rw [Option.some.inj this]
theorem pms_mem : ∀ (n : Nat) (ys p : List Str), ys.length = n → (p ∈ pms n ys ↔ p.Perm ys)
  | 0, ys, p, e => by
    have : ys = [] := List.eq_nil_of_length_eq_zero e
    subst this
    simp [pms]
  | n + 1, ys, p, e => by
    unfold pms
    rw [List.mem_flatMap]
    constructor
    · rintro ⟨i, mi, m⟩
      have hl := List.mem_range.mp mi
      obtain ⟨p', mp, rfl⟩ := List.mem_map.mp m
      have := (pms_mem n _ p' (by rw [List.length_append, List.length_take, List.length_drop]; omega)).mp mp
      conv => rhs; rw [cut_nth hl]
      exact (List.Perm.cons _ this).trans List.perm_middle.symm
    · intro pm
      cases p with
      | nil =>
        have := pm.length_eq
        rw [e] at this
        cases this
      | cons a p' =>
        have ma : a ∈ ys := pm.mem_iff.mp (List.mem_cons_self ..)
        have hl := List.idxOf_lt_length_iff.mpr ma
        have en : nth ys (ys.idxOf a) = a := by
          have := nth_at hl
          rw [List.getElem?_eq_getElem hl, List.getElem_idxOf] at this
          exact (Option.some.inj this).symm
        refine ⟨ys.idxOf a, List.mem_range.mpr hl, List.mem_map.mpr ⟨p', ?_, by rw [en]⟩⟩
        rw [pms_mem n _ p' (by rw [List.length_append, List.length_take, List.length_drop]; omega)]
        have e2 := cut_nth hl
        rw [en] at e2
        have : (a :: p').Perm (a :: (ys.take (ys.idxOf a) ++ ys.drop (ys.idxOf a + 1))) := by
          refine pm.trans ?_
          conv => lhs; rw [e2]
          exact List.perm_middle
        exact List.Perm.cons_inv this
theorem flat_len {α β : Type} {f : α → List β} {b : Nat} : ∀ {l : List α}, (∀ a ∈ l, (f a).length ≤ b) → (l.flatMap f).length ≤ l.length * b
  | [], _ => by simp
  | a :: l, k => by
    rw [List.flatMap_cons, List.length_append, List.length_cons, Nat.add_mul, Nat.one_mul]
    have h1 := k a (List.mem_cons_self ..)
    have h2 := flat_len (f := f) (b := b) (l := l) fun c m => k c (List.mem_cons_of_mem _ m)
    omega
theorem pms_len : ∀ (n : Nat) (ys : List Str), ys.length = n → n ≤ 5 → (pms n ys).length ≤ 5 ^ n
  | 0, _, _, _ => by simp [pms]
  | n + 1, ys, e, le => by
    unfold pms
    have h1 := flat_len (l := List.range ys.length) (f := fun i => (pms n (ys.take i ++ ys.drop (i + 1))).map (nth ys i :: ·)) (b := 5 ^ n) fun i m => by
      have hl := List.mem_range.mp m
      rw [List.length_map]
      exact pms_len n _ (by rw [List.length_append, List.length_take, List.length_drop]; omega) (by omega)
    rw [List.length_range] at h1
    refine Nat.le_trans h1 ?_
    rw [Nat.pow_succ, Nat.mul_comm]
    exact Nat.mul_le_mul_left _ (by omega)
def encT (p : List Str) : D := .tup (p.map D.str)
def HP (L : Lo) (ns : List Str) : List (List Str) := (pms ns.length ns).filter (calmB L ns)
theorem hp_mem {q : List Str} : q ∈ HP L ns ↔ Qp L ns q := by
  unfold HP
  rw [List.mem_filter, pms_mem _ _ _ rfl]
  constructor
  · exact fun ⟨a, b⟩ => (calm_qp a).mp b
  · exact fun Q => ⟨Q.1, (calm_qp Q.1).mpr Q⟩
end
end Dk
end S_Q34_k37
end
section
set_option Elab.async false
set_option linter.all false
set_option maxRecDepth 100000
set_option maxHeartbeats 1000000
noncomputable section S_Q35_k37
namespace Dk
open PySem PySem.Spec PyProof.Rows L2
open Classical
section
variable {L : Lo} {ns : List Str} {h : Hd} {x y : Str}
theorem take_idx {q : List Str} (my : y ∈ q) : y ∈ q.take (q.idxOf x) ↔ q.idxOf y < q.idxOf x := by
  constructor
  · intro m
    have e : q.idxOf y = (q.take (q.idxOf x)).idxOf y := by
      conv => lhs; rw [← List.take_append_drop (q.idxOf x) q]
      rw [List.idxOf_append, if_pos m]
    have := List.idxOf_lt_length_iff.mpr m
    rw [List.length_take] at this
    omega
  · intro lt
    have hl := List.idxOf_lt_length_iff.mpr my
    have : (q.take (q.idxOf x))[q.idxOf y]? = some y := by
      rw [List.getElem?_take_of_lt lt, List.getElem?_eq_getElem hl, List.getElem_idxOf]
    exact List.mem_of_getElem? this
theorem above_is (mx : x ∈ ns) (my : y ∈ ns) : ((HP L ns).filter fun q => decide ((q.idxOf x : Int) ≤ (q.idxOf y : Int))).isEmpty = decide (∀ q, Qp L ns q → y ∈ q.take (q.idxOf x)) := by
  rw [Bool.eq_iff_iff, List.isEmpty_iff, List.filter_eq_nil_iff, decide_eq_true_iff]
  constructor
  · intro k q Q
    rw [take_idx (Q.1.mem_iff.mpr my)]
    have := k q (hp_mem.mpr Q)
    simp at this
    exact this
  · intro k q m
    have Q := hp_mem.mp m
    have := (take_idx (Q.1.mem_iff.mpr my)).mp (k q Q)
    simp
    exact this
theorem above_so (mx : x ∈ ns) : (ns.filter fun y => ((HP L ns).filter fun q => decide ((q.idxOf x : Int) ≤ (q.idxOf y : Int))).isEmpty) = Sov L ns x := List.filter_congr fun y my => above_is mx my
theorem below_su (nd : ns.Nodup) (mx : x ∈ ns) (hq : ∃ q, Qp L ns q) : (ns.filter fun y => ((HP L ns).filter fun q => decide ((q.idxOf y : Int) ≤ (q.idxOf x : Int))).isEmpty) = Sun L ns x := by
  refine List.filter_congr fun y my => ?_
  rw [above_is my mx]
  unfold Sov
  by_cases e : y = x
  · subst e
    obtain ⟨q, Q⟩ := hq
    have : ¬ ∀ q, Qp L ns q → y ∈ q.take (q.idxOf y) := fun k => not_take (Q.1.nodup_iff.mpr nd) (Q.1.mem_iff.mpr my) (k q Q)
    simp only [this, decide_false, beq_self_eq_true, Bool.not_true, Bool.false_and]
  · have e1 : (y == x) = false := beq_eq_false_iff_ne.mpr e
    rw [e1, Bool.eq_iff_iff]
    simp only [Bool.not_false, Bool.true_and, decide_eq_true_iff, List.mem_filter]
    exact ⟨fun k => ⟨mx, k⟩, fun k => k.2⟩
theorem so_nodup (nd : ns.Nodup) : (Sov L ns x).Nodup := nd.filter _
theorem so_le {q : List Str} (nd : ns.Nodup) (Q : Qp L ns q) : (Sov L ns x).length ≤ q.idxOf x := by
  have : ∀ y ∈ Sov L ns x, y ∈ q.take (q.idxOf x) := fun y m => (of_decide_eq_true (List.mem_filter.mp m).2) q Q
  have h1 : (Sov L ns x).length ≤ (q.take (q.idxOf x)).length := (List.subset_def.mpr fun {y} m => this y m) |> fun s => (so_nodup nd).length_le_of_subset s
  rw [List.length_take] at h1
  omega
theorem ints_map : ∀ {l : List Int}, intsD (l.map D.int) = some l
  | [] => rfl
  | i :: l => by
    rw [List.map_cons]
    unfold intsD
    rw [ints_map]
    rfl
end
/-! ### things shown -/
structure Shn (x : Str) : Prop where
  len : x.length ≤ 20
  sm : ∀ c ∈ x.cps.toList, c < 16 ^ 8
theorem lf_str {x : Str} (s : Shn x) : Lf 0 64 (toP (.str x)) ∧ plainB (.str x) = true := by
  refine ⟨⟨?_, by simp [toP, PyData.showable], by simp [toP, PyData.depth], ?_⟩, rfl⟩
  · simp only [toP, PyData.leavesShort, List.all_eq_true, decide_eq_true_eq]
    exact s.sm
  · simp only [toP, PyData.weight]
    have : x.cps.size = x.length := rfl
    have := s.len
    omega
theorem lf_int {i : Int} (h0 : 0 ≤ i) (h1 : i < 10 ^ 18) : Lf 0 64 (toP (.int i)) ∧ plainB (.int i) = true := by
  have lg : i.natAbs.log2 < 60 := by
    by_cases c : i.natAbs = 0
    · rw [c]; decide
    · refine (Nat.log2_lt c).mpr ?_
      have : (10 : Int) ^ 18 < 2 ^ 60 := by decide
      omega
  refine ⟨⟨?_, ?_, by simp [toP, PyData.depth], ?_⟩, rfl⟩
  · simp only [toP, PyData.leavesShort, decide_eq_true_eq]
    have := toString_length_le (v := i) h0 (k := 18) (by decide) h1
    simp only [PyData.shown]
    show (Str.ofString (toString i)).length ≤ 100
    omega
  · simp only [toP, PyData.showable, decide_eq_true_eq]
    omega
  · simp only [toP, PyData.weight]
    split <;> omega
theorem lf_tup {xs : List D} {k w n : Nat} (h : ∀ x ∈ xs, Lf k w (toP x) ∧ plainB x = true) (hl : xs.length ≤ n) : Lf (k + 1) (n * (w + 1)) (toP (.tup xs)) ∧ plainB (.tup xs) = true := by
  obtain ⟨⟨g1, g2, g3, g4⟩, g5⟩ := lf_all h
  refine ⟨⟨?_, ?_, ?_, ?_⟩, ?_⟩
  · simpa [toP, PyData.leavesShort] using g1
  · simpa [toP, PyData.showable] using g2
  · simp only [toP, PyData.depth]
    omega
  · simp only [toP, PyData.weight]
    exact Nat.le_trans g4 (Nat.mul_le_mul_right _ hl)
  · simpa [plainB] using g5
theorem Lf.up {k w k' w' : Nat} {P : PyData} (l : Lf k w P) (h1 : k ≤ k') (h2 : w ≤ w') : Lf k' w' P := ⟨l.a, l.b, Nat.le_trans l.c h1, Nat.le_trans l.d h2⟩
theorem repr_tup {xs : List D} {k w : Nat} (l : Lf k w (toP (.tup xs)) ∧ plainB (.tup xs) = true) (hk : k ≤ 30) (hw : w ≤ 150000) : ∃ s, ∀ h : Hd, reprD h [.tup xs] = some (.v (.str s)) := by
  obtain ⟨⟨a, b, c, d⟩, p⟩ := l
  refine ⟨(PyData.tuple (toPs xs)).shown, fun h => ?_⟩
  have z := PyData.shown_le 100 (by decide) (.tuple (toPs xs)) a
  simp only [reprD]
  rw [if_pos (by simpa [plainB] using p)]
  unfold reprR
  rw [if_pos]
  refine ⟨b, Nat.le_trans c hk, ?_⟩
  rw [sizeLine_val]
  have d' : (PyData.tuple (toPs xs)).weight ≤ w := d
  have : 102 * (PyData.tuple (toPs xs)).weight ≤ 102 * 150000 := Nat.mul_le_mul_left _ (by omega)
  omega
theorem repr_lst {xs : List D} {k w n : Nat} (h : ∀ x ∈ xs, Lf k w (toP x) ∧ plainB x = true) (hl : xs.length ≤ n) (hk : k ≤ 29) (hw : n * (w + 1) ≤ 150000) : ∃ s, ∀ h : Hd, reprD h [.lst xs] = some (.v (.str s)) := by
  obtain ⟨⟨g1, g2, g3, g4⟩, g5⟩ := lf_all h
  refine ⟨(PyData.list (toPs xs)).shown, fun h => ?_⟩
  have z := PyData.shown_le 100 (by decide) (.list (toPs xs)) (by simpa [PyData.leavesShort] using g1)
  have ea : asL h (.lst xs) = some xs := rfl
  simp only [reprD, ea, g5, if_true]
  unfold reprR
  rw [if_pos]
  refine ⟨by simpa [PyData.showable] using g2, by simp only [PyData.depth]; omega, ?_⟩
  rw [sizeLine_val]
  have d' : (PyData.list (toPs xs)).weight ≤ n * (w + 1) := by
    simp only [PyData.weight]
    exact Nat.le_trans g4 (Nat.mul_le_mul_right _ hl)
  have : 102 * (PyData.list (toPs xs)).weight ≤ 102 * 150000 := Nat.mul_le_mul_left _ (by omega)
  omega
end Dk
end S_Q35_k37
end
section
set_option Elab.async false
set_option linter.all false
set_option maxRecDepth 100000
set_option maxHeartbeats 1000000
noncomputable section S_Q36_k37
namespace Dk
open PySem PySem.Spec PyProof.Rows L2
open Classical
/-! ### names -/
theorem join_empty : ∀ (ys : List Str), (Str.join (S "") ys).cps.toList = (ys.map fun y => y.cps.toList).flatten
  | [] => rfl
  | [x] => by simp [Str.join]
  | x :: y :: r => by
    have e : Str.join (S "") (x :: y :: r) = x ++ S "" ++ Str.join (S "") (y :: r) := rfl
    have e0 : (S "").cps.toList = [] := by decide +kernel
    rw [e, str_app, str_app, e0, join_empty (y :: r)]
    simp
theorem join_is {sep : Str} {ys : List Str} : Txt.join sep ys = Str.join sep ys := eq_of_beq (join_plain_closes sep ys)
theorem join_wp {h : Hd} {ys : List Str} (hy : ∀ y ∈ ys, y.length = 1) (hl : ys.length ≤ 1000) : joinM (.str (S "")) [.lst (ys.map D.str)] h = .ok (.str (Str.join (S "") ys)) h := by
  have e : asS h (.lst (ys.map D.str)) = some (ys.map D.str) := rfl
  simp only [joinM, e, strsD_map]
  have l0 : (S "").length = 0 := by decide +kernel
  have hs : ∀ (l : List Str), (∀ y ∈ l, y.length = 1) → (l.map (·.length)).sum = l.length := fun l k => by
    induction l with
    | nil => rfl
    | cons a l ih =>
      rw [List.map_cons, List.sum_cons, List.length_cons, ih fun y m => k y (List.mem_cons_of_mem _ m), k a (List.mem_cons_self ..)]
      omega
  rw [if_pos (by rw [hs ys hy, l0]; omega), join_is]
def nl (f t : Nat) (st : List Nat) (k : Nat) : List Nat := ((97 + (f + t * (k / 2)) % 26) :: st).take (1 + 2 * (k / 2) % 7) ++ (if k % 2 = 1 then [113] else [])
theorem nl_inj {f t k k' : Nat} {st : List Nat} (ht : t = 1 ∨ t = 5 ∨ t = 7 ∨ t = 11) (hk : k < 24) (hk' : k' < 24) (e : nl f t st k = nl f t st k') : k = k' := by
  unfold nl at e
  have g : ∀ (a : Nat) (l : List Nat) (m : Nat), (a :: l).take (1 + m) = a :: l.take m := fun a l m => by rw [Nat.add_comm, List.take_succ_cons]
  rw [g, g, List.cons_append, List.cons_append] at e
  injection e with e1 e2
  have ej : k / 2 = k' / 2 := by
    have h1 : (f + t * (k / 2)) % 26 = (f + t * (k' / 2)) % 26 := by omega
    rcases ht with rfl | rfl | rfl | rfl <;> omega
  rw [ej] at e2
  have e3 := congrArg List.length (List.append_cancel_left e2)
  by_cases c : k % 2 = 1 <;> by_cases c' : k' % 2 = 1
  · omega
  · rw [if_pos c, if_neg c'] at e3; cases e3
  · rw [if_neg c, if_pos c'] at e3; cases e3
  · omega
theorem nl_sh {f t k : Nat} {st : List Nat} (hs : st.length ≤ 6) (hc : ∀ c ∈ st, c ≤ 122) : (nl f t st k).length ≤ 20 ∧ ∀ c ∈ nl f t st k, c < 16 ^ 8 := by
  have l3 : (if k % 2 = 1 then [113] else ([] : List Nat)).length ≤ 1 := by split <;> simp
  unfold nl
  refine ⟨?_, fun c m => ?_⟩
  · rw [List.length_append, List.length_take, List.length_cons]
    omega
  · rcases List.mem_append.mp m with m | m
    · rcases List.mem_cons.mp (List.mem_of_mem_take m) with rfl | m
      · omega
      · have := hc c m
        omega
    · split at m
      · simp at m; omega
      · cases m
theorem four_at {i : Int} (h0 : 0 ≤ i) (h1 : i < 4) : ∃ t : Nat, (t = 1 ∨ t = 5 ∨ t = 7 ∨ t = 11) ∧ atI [D.int 1, .int 5, .int 7, .int 11] i = some (.int t) := by
  obtain ⟨k, rfl⟩ := Int.eq_ofNat_of_zero_le h0
  rw [atI_nat]
  match k, h1 with
  | 0, _ => exact ⟨1, by simp, rfl⟩
  | 1, _ => exact ⟨5, by simp, rfl⟩
  | 2, _ => exact ⟨7, by simp, rfl⟩
  | 3, _ => exact ⟨11, by simp, rfl⟩
  | k + 4, z => omega
def nstr (f t : Nat) (st : List Nat) (k : Nat) : Str := ⟨(nl f t st k).toArray⟩
end Dk
end S_Q36_k37
end
section
set_option Elab.async false
set_option linter.all false
set_option maxRecDepth 100000
set_option maxHeartbeats 1000000
noncomputable section S_Q37_k37
namespace Dk
open PySem PySem.Spec PyProof.Rows L2
open Classical
/-! ### lots -/
theorem Fr.setn {A : List Nat} {h h' : Hd} {n : Nat} {o : Ob} (x : Fr A h h') (m : h.length ≤ n) : Fr A h (h'.set n o) :=
  ⟨fun k p e nk => by
    have := (List.getElem?_eq_some_iff.mp e).1
    rw [List.getElem?_set_ne (by omega)]
    exact x.at_ k p e nk, by rw [List.length_set]; exact x.len⟩
def T3B (v : D) : Prop := ∃ a b c : Int, v = .tup [.int a, .int b, .int c] ∧ (0 ≤ a ∧ a ≤ 1000000000) ∧ (0 ≤ b ∧ b ≤ 1000000000) ∧ 0 ≤ c ∧ c ≤ 1000
def tri (v : Option D) : Int × Int × Int := match v with
  | some (.tup [.int a, .int b, .int c]) => (a, b, c)
  | _ => (0, 0, 0)
def Lof (wr : List (Str × D)) : Lo := ⟨fun x => (tri (wr.lookup x)).1, fun x => (tri (wr.lookup x)).2.1, fun x => (tri (wr.lookup x)).2.2⟩
def LB (L : Lo) (x : Str) : Prop := (0 ≤ L.ca x ∧ L.ca x ≤ 1000000000) ∧ (0 ≤ L.lo x ∧ L.lo x ≤ 1000000000) ∧ 0 ≤ L.ov x ∧ L.ov x ≤ 1000
theorem lof_at {wr : List (Str × D)} {x : Str} {v : D} (e : wr.lookup x = some v) (t : T3B v) : v = .tup [.int ((Lof wr).ca x), .int ((Lof wr).lo x), .int ((Lof wr).ov x)] ∧ LB (Lof wr) x := by
  obtain ⟨a, b, c, rfl, h1, h2, h3⟩ := t
  have e1 : (Lof wr).ca x = a := by simp [Lof, e, tri]
  have e2 : (Lof wr).lo x = b := by simp [Lof, e, tri]
  have e3 : (Lof wr).ov x = c := by simp [Lof, e, tri]
  unfold LB
  rw [e1, e2, e3]
  exact ⟨rfl, h1, h2, h3⟩
theorem rows_go {h : Hd} {b : Nat} {wr : List (Str × D)} {ys : List Str} {e1 : Str → Env} {e : Env} {g : TgF} {f : SE} (eb : h[b]? = some (.dct (encW wr))) (hy : ∀ x ∈ ys, ∃ v, wr.lookup x = some v ∧ T3B v) (hg : ∀ x, g (.str x) e h = some (e1 x, h))
    (hf : ∀ x ∈ ys, ∀ v, idxD h (.ref b) (.str x) = some (.v (.tup v)) → v.length = 3 → wp (f (e1 x) h) fun d h' => d = .tup (.str x :: v) ∧ h' = h) : lcGo [] g (fun _ => pu true) f e (ys.map D.str) h = .ok (ys.map (rw4 (Lof wr))) h := by
  refine lcGo_all D.str (rw4 (Lof wr)) (srcOk_nil h) ys fun x m => ⟨e1 x, hg x, ?_⟩
  obtain ⟨v, h1, h2⟩ := hy x m
  obtain ⟨h3, h4⟩ := lof_at h1 h2
  have := hf x m _ (by rw [idx_dct eb, h1, h3]; rfl) rfl
  exact this
theorem putD_any {SN : List (Str × D)} {x : Str} {v : D} : ∃ SN', putD (encW SN) (.inr x) v = encW SN' ∧ SN'.lookup x = some v ∧ (∀ y, y ≠ x → SN'.lookup y = SN.lookup y) ∧ SN'.length ≤ SN.length + 1 := by
  by_cases c : x ∈ SN.map (·.1)
  · exact ⟨setW SN x v, putD_set c, lookup_set_at c, fun y n => lookup_set n, by unfold setW; rw [List.length_map]; omega⟩
  · exact ⟨SN ++ [(x, v)], putD_encW c, lookup_app_new c, fun y n => lookup_app_old n, by simp⟩
structure GI (h h' : Hd) (w c a : Nat) (bound : Nat) (nm : List Str) (i : Nat) (hp fr : List Str) (wr : List (Str × D)) (num : Int) : Prop where
  we : WellAt h' w c
  pa : h'[a]? = some (.lst (hp.map D.str))
  pb : h'[a + 1]? = some (.dct (encW wr))
  pf : h'[a + 2]? = some (.lst (fr.map D.str))
  F : Fr [w] h h'
  nd : (hp ++ fr).Nodup
  sub : ∀ x ∈ hp ++ fr, x ∈ nm
  len : hp.length ≤ bound
  lk : ∀ x ∈ hp, ∃ v, wr.lookup x = some v ∧ T3B v
  wl : wr.length ≤ i
  n0 : 0 ≤ num
  n1 : num ≤ 10 + i * 1000001
theorem far_at {i : Int} {h : Hd} (h0 : 0 ≤ i) (h1 : i < 3) : ∃ t : Nat, 0 < t ∧ t ≤ 1000000 ∧ idxD h (.lst [.int 1, .int 3, .int (10 ^ 6)]) (.int i) = some (.v (.int t)) := by
  obtain ⟨k, rfl⟩ := Int.eq_ofNat_of_zero_le h0
  rw [idx_lst, atI_nat]
  match k, h1 with
  | 0, _ => exact ⟨1, by decide, by decide, rfl⟩
  | 1, _ => exact ⟨3, by decide, by decide, rfl⟩
  | 2, _ => exact ⟨1000000, by decide, by decide, rfl⟩
  | k + 3, z => omega
end Dk
end S_Q37_k37
end
section
set_option Elab.async false
set_option linter.all false
set_option maxRecDepth 100000
set_option maxHeartbeats 1000000
noncomputable section S_Q38_k37
namespace Dk
open PySem PySem.Spec PyProof.Rows L2
open Classical
theorem putD_keys {SN : List (Str × D)} {x : Str} {v : D} : ∃ SN', putD (encW SN) (.inr x) v = encW SN' ∧ SN'.lookup x = some v ∧ (∀ y, y ≠ x → SN'.lookup y = SN.lookup y) ∧ SN'.length ≤ SN.length + 1 ∧ (SN'.map (·.1) = SN.map (·.1) ∨ (x ∉ SN.map (·.1) ∧ SN'.map (·.1) = SN.map (·.1) ++ [x])) := by
  by_cases c : x ∈ SN.map (·.1)
  · exact ⟨setW SN x v, putD_set c, lookup_set_at c, fun y n => lookup_set n, by unfold setW; rw [List.length_map]; omega, .inl keys_set⟩
  · exact ⟨SN ++ [(x, v)], putD_encW c, lookup_app_new c, fun y n => lookup_app_old n, by simp, .inr ⟨c, by simp⟩⟩
theorem key_lookup {x : Str} : ∀ {l : List (Str × D)}, x ∈ l.map (·.1) → ∃ v, l.lookup x = some v
  | (z, w) :: l, m => by
    rw [List.lookup_cons]
    by_cases q : x = z
    · subst q
      exact ⟨w, by simp⟩
    · have e2 : (x == z) = false := beq_eq_false_iff_ne.mpr q
      rw [e2]
      exact key_lookup ((List.mem_cons.mp m).resolve_left q)
theorem sorted_keysW {h : Hd} {n : Nat} {l : List (Str × D)} (e : h[n]? = some (.dct (encW l))) (z : l.length ≤ sizeLine) : sortedD h [.ref n] = some (.l ((sortN (l.map (·.1))).map D.str)) := by
  have e1 : asS h (.ref n) = none := by simp [asS, asL, e]
  have e2 : asK h (.ref n) = some (encW l) := by simp [asK, e]
  have e3 : keysD (encW l) = (l.map (·.1)).map D.str := by
    unfold keysD encW
    rw [List.map_map, List.map_map]
    rfl
  simp only [sortedD, e1, e2, e3]
  exact sorted_strs (h := h) (by rw [List.length_map]; exact z)
theorem dget_ref {h : Hd} {n : Nat} {l : List (Str × D)} {x : Str} {z : D} (e : h[n]? = some (.dct (encW l))) : dgetM (.ref n) [.str x, z] h = .ok ((l.lookup x).getD z) h := by
  have e2 : asK h (.ref n) = some (encW l) := by simp [asK, e]
  simp only [dgetM, e2, keyOf, getK_encW]
theorem selM_dget {h : Hd} {n : Nat} {xs : List (Key × D)} (e : h[n]? = some (.dct xs)) : selM "get" h (.ref n) = some .dget := by
  unfold selM
  rw [kd_dct e]
  rfl
structure MI (h h' : Hd) (w c : Nat) (nm left : List Str) (wr : List (Str × D)) (num : Int) : Prop where
  we : WellAt h' w c
  pa : h'[h.length]? = some (.lst (left.map D.str))
  pb : h'[h.length + 1]? = some (.dct (encW wr))
  F : Fr [w] h h'
  sub : ∀ x ∈ left, x ∈ nm
  ll : left.length ≤ 2 * nm.length
  kn : (wr.map (·.1)).Nodup
  ks : ∀ x ∈ wr.map (·.1), x ∈ nm
  lk : ∀ x v, wr.lookup x = some v → T3B v
  wl : wr.length ≤ 2 * nm.length - left.length
  n0 : 0 ≤ num
  n1 : num ≤ 3 * ((2 * nm.length - left.length : Nat) : Int)
/-! ### a lot -/
def Lo.no (L : Lo) (x : Str) (v : Int) : Lo := ⟨L.ca, L.lo, fun y => if y = x then v else L.ov y⟩
theorem rows_no {L : Lo} {ns : List Str} {k : Nat} {v : Int} (nd : ns.Nodup) (c : k < ns.length) : (ns.map (rw4 L)).take k ++ [rw4 (L.no (nth ns k) v) (nth ns k)] ++ (ns.map (rw4 L)).drop (k + 1) = ns.map (rw4 (L.no (nth ns k) v)) := by
  have e := cut_nth c
  have nd2 := nd
  rw [e] at nd2
  obtain ⟨h1, h2⟩ := nd_mid nd2
  have q : ∀ y, y ≠ nth ns k → rw4 (L.no (nth ns k) v) y = rw4 L y := fun y n => by simp [rw4, Lo.no, n]
  generalize hL : L.no (nth ns k) v = L' at q ⊢
  generalize hx : nth ns k = x at *
  conv => rhs; rw [e]
  rw [List.map_append, List.map_cons, ← List.map_take, ← List.map_drop]
  have m1 : (ns.take k).map (rw4 L') = (ns.take k).map (rw4 L) := List.map_congr_left fun y m => q y fun z => h1 (z ▸ m)
  have m2 : (ns.drop (k + 1)).map (rw4 L') = (ns.drop (k + 1)).map (rw4 L) := List.map_congr_left fun y m => q y fun z => h2 (z ▸ m)
  rw [m1, m2]
  simp
structure Lot (L : Lo) (ns : List Str) : Prop where
  nd : ns.Nodup
  len : ns.length ≤ 5
  sh : ∀ x ∈ ns, Shn x
  lb : ∀ x ∈ ns, LB L x
theorem max_min {h : Hd} {a b : Int} : maxD h [.int a, .int b] = some (.v (.int (max a b))) ∧ minD h [.int a, .int b] = some (.v (.int (min a b))) := ⟨rfl, rfl⟩
end Dk
end S_Q38_k37
end
section
set_option Elab.async false
set_option linter.all false
set_option maxRecDepth 100000
set_option maxHeartbeats 1000000
noncomputable section S_Q60_k37
namespace Dk
open PySem PySem.Spec PyProof.Rows L2
open Classical
section
/-! ### the well of the laws about peelings: cells, rests, how many were drawn (at most b) -/
def WlAt (h : Hd) (w r b : Nat) : Prop := ∃ (cs rs : List Int) (n : Nat), h[w]? = some (.lst [.lst (cs.map D.int), .ref r, .int (n : Int)]) ∧ h[r]? = some (.lst (rs.map D.int)) ∧ w ≠ r ∧ cs ≠ [] ∧ rs.length = cs.length ∧ (∀ x ∈ rs, 0 ≤ x) ∧ n ≤ b
theorem WlAt.fr {h h' : Hd} {w r b : Nat} {B : List Nat} (A : WlAt h w r b) (F : Fr B h h') (k : ∀ k ∈ [w, r], k ∉ B) : WlAt h' w r b := by
  obtain ⟨cs, rs, n, h1, h2, rest⟩ := A
  exact ⟨cs, rs, n, F.at_ _ _ h1 (k _ (by simp)), F.at_ _ _ h2 (k _ (by simp)), rest⟩
theorem WlAt.up {h : Hd} {w r b b' : Nat} (A : WlAt h w r b) (l : b ≤ b') : WlAt h w r b' := by
  obtain ⟨cs, rs, n, h1, h2, h3, h4, h5, h6, h7⟩ := A
  exact ⟨cs, rs, n, h1, h2, h3, h4, h5, h6, by omega⟩
theorem WlAt.lt {h : Hd} {w r b : Nat} (A : WlAt h w r b) : w < h.length ∧ r < h.length := by
  obtain ⟨cs, rs, n, h1, h2, _⟩ := A
  exact ⟨(List.getElem?_eq_some_iff.mp h1).1, (List.getElem?_eq_some_iff.mp h2).1⟩
theorem pow3 {h : Hd} {a : Int} (h0 : 0 ≤ a) (h1 : a < 10 ^ 18) : binD .Pow h (.int a) (.int 3) = some (.v (.int (a ^ 3))) := bin_pow (by decide) (by decide) (by omega)
theorem pow2 {h : Hd} {a : Int} (h0 : 0 ≤ a) (h1 : a < 10 ^ 18) : binD .Pow h (.int a) (.int 2) = some (.v (.int (a ^ 2))) := bin_pow (by decide) (by decide) (by omega)
theorem draw_wp {h : Hd} {w r b : Nat} {many : Int} {Q : D → Hd → Prop} (A : WlAt h w r b) (hb : b < 10 ^ 12) (hm : 0 < many) (hm2 : many < 1073741824)
    (k : ∀ x h', 0 ≤ x → x < many → WlAt h' w r (b + 1) → Fr [w, r] h h' → h'.length = h.length → Q (.int x) h') : wp (m__law_draw [.ref w, .int many] h) Q := by
  obtain ⟨cs, rs, n, h1, h2, hne, hs, hl, hc, hn⟩ := A
  have r0 : ∀ x : Int, 0 ≤ x % many ∧ x % many < many := fun x => ⟨Int.emod_nonneg _ (by omega), Int.emod_lt_of_pos _ hm⟩
  have hsl : 0 < cs.length := List.length_pos_iff.mpr hs
  refine wp_mF rfl ?_
  unfold f__law_draw
  have gt : ∀ e : Env, gT [gN 2, gN 3, gN 4] (.ref w) e h = some (((e.set 2 (some (.lst (cs.map D.int)))).set 3 (some (.ref r))).set 4 (some (.int (n : Int))), h) := fun e => by
    unfold gT
    simp only [asL, h1]
    rfl
  have s1 := sto_ref (k := 2) (d := .int ((n : Int) + 1)) h1 (by simp)
  have q1 := set_at (o := .lst [.lst (cs.map D.int), .ref r, .int ((n : Int) + 1)]) h1
  have q2 : (h.set w (.lst [.lst (cs.map D.int), .ref r, .int ((n : Int) + 1)]))[r]? = some (.lst (rs.map D.int)) := by rw [set_out hne]; exact h2
  have i1 : n % cs.length < cs.length := Nat.mod_lt _ hsl
  have em : (n : Int) % (cs.length : Int) = ((n % cs.length : Nat) : Int) := by first | exact (Int.natCast_emod _ _).symm | exact (Int.ofNat_emod _ _).symm | norm_cast
  obtain ⟨y, hy⟩ : ∃ y, rs[n % cs.length]? = some y := ⟨_, List.getElem?_eq_getElem (by omega)⟩
  obtain ⟨c, hcc⟩ : ∃ y, cs[n % cs.length]? = some y := ⟨_, List.getElem?_eq_getElem (by omega)⟩
  have y0 : 0 ≤ y := hc y (List.mem_of_getElem? hy)
  have md : ∀ {h : Hd}, binD .Mod h (.int (n : Int)) (.int (cs.length : Int)) = some (.v (.int ((n % cs.length : Nat) : Int))) := fun {h} => by rw [bin_mod (by omega), em]
  have n1 : (n : Int) + 1 = ((n + 1 : Nat) : Int) := by omega
  have sets : [D.lst (cs.map D.int), .ref r, .int (n : Int)].set 2 (.int ((n : Int) + 1)) = [D.lst (cs.map D.int), .ref r, .int ((n : Int) + 1)] := rfl
  rw [sets] at s1
  have s1' : stoD (.ref w) (.int 2) (.int ((n : Int) + 1)) h = some (h.set w (.lst [.lst (cs.map D.int), .ref r, .int ((n : Int) + 1)])) := s1
  rw [wpS_cut 3]
  simp only [List.take_succ_cons, List.take_zero, lsx, List.replicate, wps, gt, bin_add, s1', len_lst, List.length_map, md]
  unfold hid
  simp only [List.drop_succ_cons, List.drop_zero]
  have ir : ∀ {h : Hd}, h[r]? = some (.lst (rs.map D.int)) → idxD h (.ref r) (.int ((n % cs.length : Nat) : Int)) = some (.v (.int y)) := fun {h} e => by rw [idx_ref e, atI_nat, List.getElem?_map, hy]; rfl
  have ic : ∀ {h : Hd}, idxD h (.lst (cs.map D.int)) (.int ((n % cs.length : Nat) : Int)) = some (.v (.int c)) := fun {h} => by rw [idx_lst, atI_nat, List.getElem?_map, hcc]; rfl
  rw [wpS_cut 1]
  simp only [List.take_succ_cons, List.take_zero, lsx, List.replicate, wps, ir q2, cmp_gt, tru_bl]
  by_cases hy0 : 0 < y
  · have s2 := sto_ref (k := n % cs.length) (d := .int (y / many)) q2 (by rw [List.length_map]; omega)
    simp only [hy0, decide_true, lsx, wps, ir q2, bin_mod hm, bin_div hm hm2, s2]
    refine k _ _ (r0 y).1 (r0 y).2 ⟨cs, rs.set (n % cs.length) (y / many), n + 1, ?_, ?_, hne, hs, by rw [List.length_set]; exact hl, fun x m => ?_, by omega⟩ ((Fr.refl.set (by simp)).set (by simp)) (by simp only [List.length_set])
    · rw [set_out (Ne.symm hne), q1, n1]
    · rw [set_at q2, List.map_set]
    · rcases List.mem_or_eq_of_mem_set m with m | rfl
      · exact hc x m
      · exact Int.ediv_nonneg (by omega) (by omega)
  · simp only [hy0, decide_false, lsx, wps]
    unfold hid
    simp only [List.drop_succ_cons, List.drop_zero]
    have c0 := Int.emod_nonneg c (show (2147483563 : Int) ≠ 0 by decide)
    have c1 := Int.emod_lt_of_pos c (show (0 : Int) < 2147483563 by decide)
    generalize ec : c % 2147483563 = cm at c0 c1
    have hn2 : (n : Int) < 10 ^ 12 := by omega
    have p3 := fun {h : Hd} => pow3 (h := h) (a := cm + 40014 * (n : Int) + 7) (by omega) (by omega)
    have m0 := Int.emod_nonneg ((cm + 40014 * (n : Int) + 7) ^ 3) (show (2147483399 : Int) ≠ 0 by decide)
    have m1 := Int.emod_lt_of_pos ((cm + 40014 * (n : Int) + 7) ^ 3) (show (0 : Int) < 2147483399 by decide)
    generalize em2 : (cm + 40014 * (n : Int) + 7) ^ 3 % 2147483399 = mm at m0 m1
    have p2 := fun {h : Hd} => pow2 (h := h) (a := mm * 40692 + 12345 * (n : Int)) (by omega) (by omega)
    simp only [lsx, wps, ic, bin_mod (show (0 : Int) < 2147483563 by decide), ec, bin_mulA (show (-(2 ^ 64) < (40014 : Int)) by decide) (by decide), bin_add, p3, bin_mod (show (0 : Int) < 2147483399 by decide), em2, bin_mulB (show (-(2 ^ 64) < (40692 : Int)) by decide) (by decide), bin_mulA (show (-(2 ^ 64) < (12345 : Int)) by decide) (by decide), p2, bin_div (show (0 : Int) < 8 by decide) (by decide), bin_mod hm]
    refine k _ _ (r0 _).1 (r0 _).2 ⟨cs, rs, n + 1, by rw [q1, n1], q2, hne, hs, hl, hc, by omega⟩ (Fr.refl.set (by simp)) (by simp only [List.length_set])
theorem one_of_wp {h : Hd} {w r b : Nat} {xs : List D} {Q : D → Hd → Prop} (A : WlAt h w r b) (hb : b < 10 ^ 12) (hl : 0 < xs.length) (hl2 : xs.length < 1073741824)
    (k : ∀ d h', d ∈ xs → WlAt h' w r (b + 1) → Fr [w, r] h h' → h'.length = h.length → Q d h') : wp (m__law_one_of [.ref w, .lst xs] h) Q := by
  refine wp_mF rfl ?_
  unfold f__law_one_of
  simp only [lsx, List.replicate, wps, len_lst]
  refine draw_wp A hb (by omega) (by omega) fun x h' x0 x1 A' F' L' => ?_
  obtain ⟨j, rfl⟩ := Int.eq_ofNat_of_zero_le x0
  have hj : j < xs.length := by omega
  have ix : idxD h' (.lst xs) (.int (j : Int)) = some (.v xs[j]) := by rw [idx_lst, atI_nat, List.getElem?_eq_getElem hj]; rfl
  simp only [ix, lsx, wps]
  exact k _ h' (List.getElem_mem hj) A' F' L'
theorem open_wp {h : Hd} {ns : List Int} {Q : D → Hd → Prop} (k : ∀ h', WlAt h' (h.length + 1) h.length 0 → Fr [] h h' → h'.length = h.length + 2 → Q (.ref (h.length + 1)) h') : wp (m__law_open [.scr ns] h) Q := by
  refine wp_mF rfl ?_
  unfold f__law_open
  have ls : ∀ {tb : MTab}, lenM tb [.scr ns] h = .ok (.int ns.length) h := fun {tb} => by unfold lenM; simp [isObj, asIns, lenD, asS, asL, lf]
  have ce : cmpB .Eq h (.int (ns.length : Int)) (.int 0) = some (ns.length == 0) := by
    rw [cmp_eq]
    show some ((ns.length : Int) == 0) = _
    congr 1
    rw [Bool.eq_iff_iff]
    simp
  have mu : binD .Mult h (.lst [.int 11]) (.int (if (ns.length == 0) = true then 1 else 0)) = some (.l ((if (ns.length == 0) = true then [11] else []).map D.int)) := by
    have ea : asL h (.lst [.int 11]) = some [.int 11] := rfl
    cases (ns.length == 0) with
    | true => simp only [binD, ea, if_true]; rw [if_pos (by rw [sizeLine_val]; decide)]; rfl
    | false => simp only [binD, ea, Bool.false_eq_true, if_false]; rw [if_pos (by rw [sizeLine_val]; decide)]; rfl
  have zl : ((ns.take 63).map fun x : Int => D.int x.natAbs).length ≤ 16777216 := by rw [List.length_map, List.length_take]; omega
  rw [wpS_cut 1]
  simp only [List.take_succ_cons, List.take_zero, lsx, List.replicate, wps, sl_scr, itD_lst, show (some (63 : Int)) = some ((63 : Nat) : Int) from rfl, cutD_take, ← List.map_take, wipeE]
  rw [lcGo_all D.int (fun x => .int x.natAbs) (srcOk_nil h) (ns.take 63) fun a m => ⟨_, rfl, by simp only [wps, lsx, abs_int]⟩]
  obtain ⟨cs, hcs⟩ : ∃ cs, cs = ((ns.take 63).map fun x : Int => (x.natAbs : Int)) ++ (if (ns.length == 0) = true then [11] else []) := ⟨_, rfl⟩
  have cl : cs.length ≤ 64 ∧ cs ≠ [] ∧ ∀ x ∈ cs, 0 ≤ x := by
    subst hcs
    refine ⟨by rw [List.length_append, List.length_map, List.length_take]; split <;> simp <;> omega, ?_, fun x m => ?_⟩
    · cases ns with
      | nil => simp
      | cons a l => simp
    · rcases List.mem_append.mp m with m | m
      · obtain ⟨y, _, rfl⟩ := List.mem_map.mp m
        omega
      · split at m
        · rw [List.mem_singleton.mp m]; decide
        · cases m
  have ct : binD .Add h (.lst ((ns.take 63).map fun x : Int => D.int x.natAbs)) (.lst ((if (ns.length == 0) = true then [11] else []).map D.int)) = some (.l (cs.map D.int)) := by
    rw [bin_cat (by rw [sizeLine_val, List.length_map, List.length_map, List.length_take]; split <;> simp <;> omega), hcs, List.map_append, List.map_map]
    rfl
  simp only [lsx, wps, zl, ls, ce, intD, mu, ct, List.length_cons, List.length_nil, Nat.zero_le, Nat.reduceAdd, Nat.reduceLeDiff]
  unfold hid
  simp only [List.drop_succ_cons, List.drop_zero]
  have pw : binD .Pow h (.int 10) (.int 18) = some (.v (.int (10 ^ 18))) := bin_pow (show (0 : Int) ≤ 18 by decide) (by decide) (show (10 : Int).natAbs < 2 ^ 64 by decide)
  have mb : ∀ (x : Int) (c : Bool), binD .Mult h (.int x) (.int (if c = true then 1 else 0)) = some (.v (.int (x * (if c = true then 1 else 0)))) := fun x c => bin_mulB (by split <;> decide) (by split <;> decide)
  simp only [lsx, wps, itD_lst, wipeE]
  rw [lcGo_all D.int (fun x => .int (x * (if decide ((10 : Int) ^ 18 ≤ x) = true then 1 else 0))) (srcOk_nil h) cs fun a m => ⟨_, rfl, by simp only [wps, lsx, pw, cmp_ge, intD, mb, and_self]⟩]
  have zr : (cs.map fun x : Int => D.int (x * (if decide ((10 : Int) ^ 18 ≤ x) = true then 1 else 0))).length ≤ 16777216 := by rw [List.length_map]; omega
  simp only [lsx, wps, zr, List.length_cons, List.length_nil, Nat.zero_le, Nat.reduceAdd, Nat.reduceLeDiff]
  have e2 : (cs.map fun x : Int => D.int (x * (if decide ((10 : Int) ^ 18 ≤ x) = true then 1 else 0))) = (cs.map fun x : Int => x * (if decide ((10 : Int) ^ 18 ≤ x) = true then 1 else 0)).map D.int := by rw [List.map_map]; rfl
  rw [e2]
  have hl : (h ++ [Ob.lst ((cs.map fun x : Int => x * (if decide ((10 : Int) ^ 18 ≤ x) = true then 1 else 0)).map D.int)]).length = h.length + 1 := by simp
  rw [hl]
  refine k _ ⟨cs, cs.map fun x : Int => x * (if decide ((10 : Int) ^ 18 ≤ x) = true then 1 else 0), 0, ?_, ?_, by omega, cl.2.1, by rw [List.length_map], fun x m => ?_, by omega⟩ ?_ (by simp)
  · rw [← hl]; simp
  · simp
  · obtain ⟨y, my, rfl⟩ := List.mem_map.mp m
    have := cl.2.2 y my
    split <;> omega
  · exact ⟨fun k o e _ => by rw [List.append_assoc, List.getElem?_append_left (List.getElem?_eq_some_iff.mp e).1]; exact e, by simp⟩
end
end Dk
end S_Q60_k37
end
section
set_option Elab.async false
set_option linter.all false
set_option maxRecDepth 100000
set_option maxHeartbeats 1000000
noncomputable section S_Q61_k37
namespace Dk
open PySem PySem.Spec PyProof.Rows L2
open Classical
/-! ### names -/
def sgl (f : Nat) (t : List Nat) (k : Nat) : List Nat := (97 + (f + 9 * k) % 26) :: t.take (k % (t.length + 1))
def sstr (f : Nat) (t : List Nat) (k : Nat) : Str := ⟨(sgl f t k).toArray⟩
theorem sgl_inj {f k k' : Nat} {t : List Nat} (hk : k < 26) (hk' : k' < 26) (e : sgl f t k = sgl f t k') : k = k' := by
  have := (List.cons.inj e).1
  omega
theorem sstr_sh {f k : Nat} {t : List Nat} (hs : t.length ≤ 7) (hc : ∀ c ∈ t, 97 ≤ c ∧ c ≤ 122) : Shn (sstr f t k) ∧ Nm (sstr f t k) := by
  have e : (sstr f t k).cps.toList = sgl f t k := by simp [sstr]
  have l : (sgl f t k).length ≤ 8 := by
    unfold sgl
    rw [List.length_cons, List.length_take]
    omega
  have c : ∀ x ∈ sgl f t k, 97 ≤ x ∧ x ≤ 122 := fun x m => by
    unfold sgl at m
    rcases List.mem_cons.mp m with rfl | m
    · omega
    · exact hc x (List.mem_of_mem_take m)
  refine ⟨⟨by rw [str_len, e]; omega, fun x m => ?_⟩, ⟨by rw [str_len, e]; simp [sgl], by rw [str_len, e]; omega, fun x m => c x (by rwa [e] at m)⟩⟩
  rw [e] at m
  have := c x m
  omega
theorem signs_wp {h : Hd} {w r b many : Nat} {Q : D → Hd → Prop} (A : WlAt h w r b) (hb : b < 10 ^ 11) (hm : many ≤ 26)
    (k : ∀ (ws : List Str) h', ws.length = many → ws.Nodup → (∀ x ∈ ws, Shn x ∧ Nm x) → WlAt h' w r (b + 9) → Fr [w, r] h h' → h'.length = h.length → Q (.lst (ws.map D.str)) h') : wp (m__law_signs [.ref w, .int many] h) Q := by
  refine wp_mF rfl ?_
  unfold f__law_signs
  rw [wpS_cut 1]
  simp only [List.take_succ_cons, List.take_zero, lsx, List.replicate, wps]
  unfold hid
  simp only [List.drop_succ_cons, List.drop_zero]
  have aS : ∀ {h : Hd} {x : Str}, asIns h (.str x) = none := rfl
  have jS : ∀ {h : Hd} {x : Str}, selM "join" h (.str x) = some .join := rfl
  rw [wpS_cut 1]
  simp only [List.take_succ_cons, List.take_zero, lsx, List.replicate, wps, aS, jS, BM.fn]
  refine draw_wp A (by omega) (by decide) (by decide) fun r1 h1 a1 b1 A1 F1 L1 => ?_
  obtain ⟨m, rfl⟩ := Int.eq_ofNat_of_zero_le a1
  simp only [rngD_1 (show m < 2 ^ 62 by omega), if_true, wipeE, lsx, wps]
  refine wp_imp (lcGo_inv (Q := fun ys h' => ∃ zs : List Str, ys = zs.map D.str ∧ zs.length = m ∧ (∀ z ∈ zs, z.length = 1 ∧ ∀ x ∈ z.cps.toList, 97 ≤ x ∧ x ≤ 122) ∧ WlAt h' w r (b + 1 + m) ∧ Fr [w, r] h h' ∧ h'.length = h.length) (fun rest acc h' => ∃ (j : Nat) (zs : List Str), j ≤ m ∧ rest = ((List.range m).drop j).map (fun (i : Nat) => D.int (i : Int)) ∧ acc = zs.map D.str ∧ zs.length = j ∧ (∀ z ∈ zs, z.length = 1 ∧ ∀ x ∈ z.cps.toList, 97 ≤ x ∧ x ≤ 122) ∧ WlAt h' w r (b + 1 + j) ∧ Fr [w, r] h h' ∧ h'.length = h.length) ?_ ?_ _ [] h1 ⟨0, [], Nat.zero_le _, by rw [List.drop_zero], rfl, rfl, (fun z mz => by cases mz), A1, F1, L1⟩) ?_
  · rintro acc h' ⟨j, zs, le, e1, rfl, e3, e4, e5, e6, e7⟩
    have : j = m := by
      have := congrArg List.length e1
      rw [List.length_nil, List.length_map, List.length_drop, List.length_range] at this
      omega
    subst this
    exact ⟨srcOk_nil _, zs, rfl, e3, e4, e5, e6, e7⟩
  · rintro d ds acc h' ⟨j, zs, le, e1, rfl, e3, e4, e5, e6, e7⟩
    have hj : j < m := by
      have := congrArg List.length e1
      rw [List.length_cons, List.length_map, List.length_drop, List.length_range] at this
      omega
    rw [List.drop_eq_getElem_cons (by simpa using hj), List.map_cons] at e1
    injection e1 with e8 e9
    refine ⟨srcOk_nil _, _, _, rfl, ?_⟩
    simp only [wps]
    simp only [lsx, wps]
    refine draw_wp e5 (by omega) (by decide) (by decide) fun r h2 b0 b1 A2 F2 L2 => ?_
    simp only [idx_str letters_len, letters_at b0 b1, Option.map_some, wps]
    refine ⟨j + 1, zs ++ [⟨#[97 + r.toNat]⟩], by omega, e9, by simp, by simp [e3], ?_, A2, e6.trans F2, by omega⟩
    intro z mz
    rcases List.mem_append.mp mz with mz | mz
    · exact e4 z mz
    · rw [List.mem_singleton.mp mz]
      refine ⟨rfl, fun x hx => ?_⟩
      have : x = 97 + r.toNat := by simpa using hx
      omega
  · rintro ys h2 ⟨zs, rfl, e3, e4, e5, e6, e7⟩
    have jw := join_wp (h := h2) (ys := zs) (fun y my => (e4 y my).1) (by omega)
    have zl : (zs.map D.str).length ≤ 16777216 := by rw [List.length_map]; omega
    simp only [List.nil_append, zl, jw, wps]
    have je := join_empty zs
    have jc : ∀ x ∈ (Str.join (S "") zs).cps.toList, 97 ≤ x ∧ x ≤ 122 := fun x mx => by
      rw [je, List.mem_flatten] at mx
      obtain ⟨l, ml, mx⟩ := mx
      obtain ⟨z, mz, rfl⟩ := List.mem_map.mp ml
      exact (e4 z mz).2 x mx
    have jl : (Str.join (S "") zs).cps.toList.length = m := by
      rw [je, List.length_flatten, List.map_map]
      have : ∀ l : List Str, (∀ z ∈ l, z.length = 1) → (l.map (List.length ∘ fun y : Str => y.cps.toList)).sum = l.length := fun l k => by
        induction l with
        | nil => rfl
        | cons a l ih =>
          rw [List.map_cons, List.sum_cons, List.length_cons, ih fun y m => k y (List.mem_cons_of_mem _ m)]
          have := k a (List.mem_cons_self ..)
          rw [str_len] at this
          show a.cps.toList.length + _ = _
          omega
      rw [this zs fun z mz => (e4 z mz).1, e3]
    generalize Str.join (S "") zs = tail at jc jl
    unfold hid
    simp only [List.drop_succ_cons, List.drop_zero]
    rw [wpS_cut 1]
    simp only [List.take_succ_cons, List.take_zero, lsx, List.replicate, wps]
    refine draw_wp e5 (by omega) (by decide) (by decide) fun r3 h3 b0 b1 A3 F3 L3 => ?_
    obtain ⟨f, rfl⟩ := Int.eq_ofNat_of_zero_le b0
    unfold hid
    simp only [List.drop_succ_cons, List.drop_zero, lsx, wps, rngD_1 (show many < 2 ^ 62 by omega), if_true, wipeE]
    have tl : tail.length = m := by rw [str_len]; exact jl
    rw [lcGo_all (fun (i : Nat) => D.int (i : Int)) (fun i => D.str (sstr f tail.cps.toList i)) (srcOk_nil h3) (List.range many) fun a ma => ⟨_, rfl, by
      have i0 : 0 ≤ ((f : Int) + 9 * (a : Int)) % 26 := by omega
      have i1 : ((f : Int) + 9 * (a : Int)) % 26 < 26 := by omega
      have lt : (⟨#[97 + (((f : Int) + 9 * (a : Int)) % 26).toNat]⟩ : Str).length = 1 := rfl
      have mo : (a : Int) % ((tail.length : Int) + 1) = ((a % (tail.length + 1) : Nat) : Int) := by
        rw [show (tail.length : Int) + 1 = ((tail.length + 1 : Nat) : Int) by omega]
        exact (Int.natCast_emod _ _).symm
      have lc : (cutS tail none (some ((a % (tail.length + 1) : Nat) : Int))).length ≤ m := by
        rw [str_len, cutS_take, List.length_take]
        omega
      simp only [lsx, wps, bin_mulA (show -(2 ^ 64) < (9 : Int) by decide) (by decide), bin_add, bin_mod (show (0 : Int) < 26 by decide), idx_str letters_len, letters_at i0 i1, Option.map_some, len_str (show tail.length ≤ sizeLine by rw [sizeLine_val]; omega), bin_mod (show (0 : Int) < (tail.length : Int) + 1 by omega), mo, sl_str (show tail.length ≤ sizeLine by rw [sizeLine_val]; omega), bin_catS (show (⟨#[97 + (((f : Int) + 9 * (a : Int)) % 26).toNat]⟩ : Str).length + (cutS tail none (some ((a % (tail.length + 1) : Nat) : Int))).length ≤ sizeLine by rw [sizeLine_val]; omega), and_true]
      congr 1
      refine str_ext ?_
      rw [str_app, cutS_take]
      show _ = (sgl f tail.cps.toList a).toArray.toList
      unfold sgl
      have t1 : (((f : Int) + 9 * (a : Int)) % 26).toNat = (f + 9 * a) % 26 := by omega
      rw [t1]
      rfl⟩]
    have zm : ((List.range many).map fun i => D.str (sstr f tail.cps.toList i)).length ≤ 16777216 := by rw [List.length_map, List.length_range]; omega
    simp only [lsx, wps, zm]
    rw [show (fun k => D.str (sstr f tail.cps.toList k)) = D.str ∘ (fun k => sstr f tail.cps.toList k) from rfl, ← List.map_map]
    refine k _ h3 (by simp) (nodup_map_range fun i j hi hj e => sgl_inj (f := f) (t := tail.cps.toList) (by omega) (by omega) (by
        have := congrArg (fun z : Str => z.cps.toList) e
        simpa [sstr] using this)) (fun x hx => ?_) (A3.up (by omega)) (e6.trans F3) (by omega)
    obtain ⟨j, _, rfl⟩ := List.mem_map.mp hx
    exact sstr_sh (by omega) jc
end Dk
end S_Q61_k37
end
section
set_option Elab.async false
set_option linter.all false
set_option maxRecDepth 100000
set_option maxHeartbeats 1000000
noncomputable section S_Q62_k37
namespace Dk
open PySem PySem.Spec PyProof.Rows L2
open Classical
/-! ### rows by names -/
def encR (L : Lo) (ks : List Str) : List (Str × D) := ks.map fun x => (x, rw4 L x)
theorem encR_keys {L : Lo} {ks : List Str} : (encR L ks).map (·.1) = ks := by
  unfold encR
  rw [List.map_map]
  exact List.map_id _
theorem encR_at {L : Lo} {x : Str} : ∀ {ks : List Str}, x ∈ ks → (encR L ks).lookup x = some (rw4 L x)
  | [], m => by cases m
  | y :: ks, m => by
    unfold encR
    rw [List.map_cons, List.lookup_cons]
    by_cases c : x = y
    · subst c
      simp
    · rw [beq_eq_false_iff_ne.mpr c]
      exact encR_at ((List.mem_cons.mp m).resolve_left c)
theorem put_ne {L : Lo} {x y : Str} {a b c : Int} (n : y ≠ x) : rw4 (L.put x a b c) y = rw4 L y := by simp [rw4, Lo.put, n]
theorem put_eq {L : Lo} {x : Str} {a b c : Int} : rw4 (L.put x a b c) x = .tup [.str x, .int a, .int b, .int c] := by simp [rw4, Lo.put]
theorem encR_set {L : Lo} {ks : List Str} {x : Str} {a b c : Int} (m : x ∈ ks) : putD (encW (encR L ks)) (.inr x) (.tup [.str x, .int a, .int b, .int c]) = encW (encR (L.put x a b c) ks) := by
  rw [putD_set (by rw [encR_keys]; exact m)]
  congr 1
  unfold setW encR
  rw [List.map_map]
  refine List.map_congr_left fun y my => ?_
  show (if y = x then (y, _) else (y, rw4 L y)) = _
  by_cases e : y = x
  · subst e
    rw [if_pos rfl, put_eq]
  · rw [if_neg e, put_ne e]
theorem encR_new {L : Lo} {ks : List Str} {x : Str} {a b c : Int} (m : x ∉ ks) : putD (encW (encR L ks)) (.inr x) (.tup [.str x, .int a, .int b, .int c]) = encW (encR (L.put x a b c) (ks ++ [x])) := by
  rw [putD_encW (by rw [encR_keys]; exact m)]
  congr 1
  unfold encR
  rw [List.map_append, List.map_cons, List.map_nil, put_eq]
  congr 1
  exact List.map_congr_left fun y my => by rw [put_ne (x := x) (y := y) fun e => m (by rw [← e]; exact my)]
theorem encR_out {L : Lo} {ks : List Str} {x : Str} : outW (encR L ks) x = encR L (ks.filter fun y => decide (y ≠ x)) := by
  unfold outW encR
  rw [List.filter_map]
  rfl
theorem sortR_R {L : Lo} {ks : List Str} (nd : ks.Nodup) (z : ks.length ≤ sizeLine) : sortR (ks.map (rw4 L)) = some (.l ((sortN ks).map (rw4 L))) := by
  rw [sortR_rows (fun d m => by
    obtain ⟨x, _, rfl⟩ := List.mem_map.mp m
    exact ⟨x, _, _, _, rfl⟩) (by rw [List.length_map]; exact z)]
  rw [sortL_rows (f := fun x => [.int (L.ca x), .int (L.lo x), .int (L.ov x)]) (l := ks.map (rw4 L)) nd (List.Perm.refl _)]
  rfl
theorem wp_svX {mu : Bool} {f : SE} {e : Env} {h : Hd} {Q : D → Hd → Prop} : wp (svX mu f e h) Q = wp (f e h) fun d h1 => wp (lf mu (svD h1 d) h1) Q := by
  unfold svX
  rw [wp_bd]
theorem svD_R {h : Hd} {n : Nat} {L : Lo} {ks : List Str} (e : h[n]? = some (.dct (encW (encR L ks)))) (nd : ks.Nodup) (z : ks.length ≤ sizeLine) : svD h (.ref n) = some (.l ((sortN ks).map (rw4 L))) := by
  have e2 : asK h (.ref n) = some (encW (encR L ks)) := by simp [asK, e]
  have e3 : (encW (encR L ks)).map (·.2) = ks.map (rw4 L) := by
    unfold encW encR
    rw [List.map_map, List.map_map]
    rfl
  simp only [svD, e2, e3]
  exact sortR_R nd z
theorem pop_last {h : Hd} {n : Nat} {xs : List D} {x : D} (e : h[n]? = some (.lst (xs ++ [x]))) : popM (.ref n) [] h = .ok x (h.set n (.lst xs)) := by
  have q : (xs ++ [x])[(xs ++ [x]).length - 1]? = some x := by simp
  simp only [popM, onL, e, q, List.dropLast_concat]
/-! ### right lores -/
structure Vl (L : Lo) (ns : List Str) (num : Int) : Prop where
  lb : ∀ x ∈ ns, 1 ≤ L.ca x ∧ L.ca x ≤ L.lo x ∧ L.lo x ≤ num ∧ 0 ≤ L.ov x ∧ L.ov x ≤ 23
  di : ∀ x ∈ ns, ∀ y ∈ ns, x ≠ y → L.ca x ≠ L.ca y ∧ L.ca x ≠ L.lo y ∧ L.lo x ≠ L.lo y
theorem Vl.mono {L : Lo} {ns ns' : List Str} {num num' : Int} (V : Vl L ns num) (s : ∀ x ∈ ns', x ∈ ns) (l : num ≤ num') : Vl L ns' num' :=
  ⟨fun x m => by have := V.lb x (s x m); omega, fun x mx y my n => V.di x (s x mx) y (s y my) n⟩
theorem Vl.put {L : Lo} {ns : List Str} {x : Str} {num n c : Int} (V : Vl L ns num) (h0 : 0 ≤ num) (hn : num < n) (c0 : 0 ≤ c) (c1 : c ≤ 23) : Vl (L.put x n n c) (x :: ns) n := by
  have e : ∀ y, y ∈ x :: ns → (y = x ∧ (L.put x n n c).ca y = n ∧ (L.put x n n c).lo y = n ∧ (L.put x n n c).ov y = c) ∨ (y ≠ x ∧ y ∈ ns ∧ (L.put x n n c).ca y = L.ca y ∧ (L.put x n n c).lo y = L.lo y ∧ (L.put x n n c).ov y = L.ov y) := fun y m => by
    by_cases q : y = x
    · exact .inl ⟨q, by simp [Lo.put, q], by simp [Lo.put, q], by simp [Lo.put, q]⟩
    · exact .inr ⟨q, (List.mem_cons.mp m).resolve_left q, by simp [Lo.put, q], by simp [Lo.put, q], by simp [Lo.put, q]⟩
  refine ⟨fun y m => ?_, fun y my z mz ne => ?_⟩
  · rcases e y m with ⟨_, e1, e2, e3⟩ | ⟨_, m2, e1, e2, e3⟩
    · rw [e1, e2, e3]; omega
    · rw [e1, e2, e3]; have := V.lb y m2; omega
  · rcases e y my with ⟨p1, e1, e2, e3⟩ | ⟨_, m1, e1, e2, e3⟩ <;> rcases e z mz with ⟨p2, f1, f2, f3⟩ | ⟨_, m2, f1, f2, f3⟩
    · exact absurd (p1.trans p2.symm) ne
    · rw [e1, e2, f1, f2]; have := V.lb z m2; omega
    · rw [e1, e2, f1, f2]; have := V.lb y m1; omega
    · rw [e1, e2, f1, f2]; exact V.di y m1 z m2 ne
theorem Vl.look {L : Lo} {ns : List Str} {x : Str} {num n c : Int} (V : Vl L ns num) (mx : x ∈ ns) (hn : num < n) (c0 : 0 ≤ c) (c1 : c ≤ 23) : Vl (L.put x (L.ca x) n c) ns n := by
  have bx := V.lb x mx
  have e : ∀ y, y ∈ ns → (y = x ∧ (L.put x (L.ca x) n c).ca y = L.ca x ∧ (L.put x (L.ca x) n c).lo y = n ∧ (L.put x (L.ca x) n c).ov y = c) ∨ (y ≠ x ∧ (L.put x (L.ca x) n c).ca y = L.ca y ∧ (L.put x (L.ca x) n c).lo y = L.lo y ∧ (L.put x (L.ca x) n c).ov y = L.ov y) := fun y m => by
    by_cases q : y = x
    · exact .inl ⟨q, by simp [Lo.put, q], by simp [Lo.put, q], by simp [Lo.put, q]⟩
    · exact .inr ⟨q, by simp [Lo.put, q], by simp [Lo.put, q], by simp [Lo.put, q]⟩
  refine ⟨fun y m => ?_, fun y my z mz ne => ?_⟩
  · rcases e y m with ⟨_, e1, e2, e3⟩ | ⟨_, e1, e2, e3⟩
    · rw [e1, e2, e3]; omega
    · rw [e1, e2, e3]; have := V.lb y m; omega
  · have b1 := V.lb y my
    have b2 := V.lb z mz
    rcases e y my with ⟨p1, e1, e2, e3⟩ | ⟨q1, e1, e2, e3⟩ <;> rcases e z mz with ⟨p2, f1, f2, f3⟩ | ⟨q2, f1, f2, f3⟩
    · exact absurd (p1.trans p2.symm) ne
    · rw [e1, e2, f1, f2]; have := V.di x mx z mz (Ne.symm q2); omega
    · rw [e1, e2, f1, f2]; have := V.di y my x mx q1; omega
    · rw [e1, e2, f1, f2]; exact V.di y my z mz ne
/-! ### grown -/
structure GR (h h' : Hd) (w r up : Nat) (nm : List Str) (b i : Nat) (hp fr ks : List Str) (L : Lo) (num : Int) : Prop where
  we : WlAt h' w r b
  pa : h'[h.length]? = some (.lst (hp.map D.str))
  pb : h'[h.length + 1]? = some (.dct (encW (encR L ks)))
  pf : h'[h.length + 2]? = some (.lst (fr.map D.str))
  F : Fr [w, r] h h'
  nd : (hp ++ fr).Nodup
  sub : ∀ x ∈ hp ++ fr, x ∈ nm
  len : hp.length ≤ up
  km : ks.Perm hp
  va : Vl L hp num
  n0 : 0 ≤ num
  n1 : num ≤ i * 1000001
theorem draw_gr {h h' : Hd} {w r up b i : Nat} {nm hp fr ks : List Str} {L : Lo} {num many : Int} {Q : D → Hd → Prop} (hw : w < h.length ∧ r < h.length) (G : GR h h' w r up nm b i hp fr ks L num) (hb : b < 10 ^ 12) (hm : 0 < many) (hm2 : many < 1073741824)
    (k : ∀ x h'', 0 ≤ x → x < many → GR h h'' w r up nm (b + 1) i hp fr ks L num → Q (.int x) h'') : wp (m__law_draw [.ref w, .int many] h') Q := by
  refine draw_wp G.we hb hm hm2 fun x h2 r0 r1 A2 F2 L2 => ?_
  exact k x h2 r0 r1 ⟨A2, F2.at_ _ _ G.pa (by simp; omega), F2.at_ _ _ G.pb (by simp; omega), F2.at_ _ _ G.pf (by simp; omega), G.F.trans F2, G.nd, G.sub, G.len, G.km, G.va, G.n0, G.n1⟩
theorem grown_wp {h : Hd} {w r b up deeds : Nat} {nm : List Str} {Q : D → Hd → Prop} (A : WlAt h w r b) (hb : b < 10 ^ 11) (nd : nm.Nodup) (zn : nm.length ≤ 100) (hu : up ≤ 24) (hd : deeds ≤ 200)
    (k : ∀ (L : Lo) (hp : List Str) (h' : Hd), hp.Nodup → (∀ x ∈ hp, x ∈ nm) → hp.length ≤ up → Vl L hp 1000000000 → WlAt h' w r (b + 1000) → Fr [w, r] h h' → Q (loreD L (sortN hp)) h') : wp (m__law_grown [.ref w, .lst (nm.map D.str), .int up, .int deeds] h) Q := by
  have hw := A.lt
  refine wp_mF rfl ?_
  unfold f__law_grown
  have G0 : ∀ d1 d2 d3 d4 e h, gT [gN 4, gN 5, gN 6, gN 7] (.tup [d1, d2, d3, d4]) e h = some ((((e.set 4 (some d1)).set 5 (some d2)).set 6 (some d3)).set 7 (some d4), h) := fun _ _ _ _ _ _ => rfl
  have l0 : ∀ {h : Hd}, lstD h [.lst (nm.map D.str)] = some (.l (nm.map D.str)) := fun {h} => by simp [lstD, asS, asL]
  rw [wpS_cut 1]
  simp only [List.take_succ_cons, List.take_zero, lsx, List.replicate, wps, l0, G0, List.length_append, List.length_cons, List.length_nil, Nat.zero_le, Nat.reduceAdd, Nat.reduceLeDiff, Nat.zero_add]
  unfold hid
  simp only [List.drop_succ_cons, List.drop_zero]
  have g0 : GR h (h ++ [Ob.lst []] ++ [.dct []] ++ [.lst (nm.map D.str)]) w r up nm b 0 [] nm [] ⟨fun _ => 0, fun _ => 0, fun _ => 0⟩ 0 := by
    refine ⟨A.fr (B := []) Fr.refl.app.app.app (by simp), ?_, ?_, ?_, Fr.refl.app.app.app, by simpa using nd, fun x m => m, Nat.zero_le _, List.Perm.refl _, ⟨(fun x m => by cases m), (fun x m => by cases m)⟩, by omega, by omega⟩ <;> simp [List.getElem?_append, encW, encR]
  generalize h ++ [Ob.lst []] ++ [.dct []] ++ [.lst (nm.map D.str)] = h1 at g0
  have pw : binD .Pow h1 (.int 10) (.int 6) = some (.v (.int (10 ^ 6))) := bin_pow (show (0 : Int) ≤ 6 by decide) (by decide) (show (10 : Int).natAbs < 2 ^ 64 by decide)
  rw [wpS_cut 1]
  simp only [List.take_succ_cons, List.take_zero, lsx, List.replicate, wps, pw, List.length_cons, List.length_nil, Nat.zero_le, Nat.reduceAdd, Nat.reduceLeDiff]
  refine one_of_wp g0.we (by omega) (by simp) (by simp) fun d h2 md A2 F2 L2 => ?_
  obtain ⟨far, fa, fb, rfl⟩ : ∃ t : Nat, 0 < t ∧ t ≤ 1000000 ∧ d = .int t := by
    simp only [List.mem_cons, List.not_mem_nil, or_false] at md
    rcases md with rfl | rfl | rfl
    · exact ⟨1, by decide, by decide, rfl⟩
    · exact ⟨3, by decide, by decide, rfl⟩
    · exact ⟨1000000, by decide, by decide, rfl⟩
  have g1 : GR h h2 w r up nm (b + 1) 0 [] nm [] ⟨fun _ => 0, fun _ => 0, fun _ => 0⟩ 0 := ⟨A2, F2.at_ _ _ g0.pa (by simp; omega), F2.at_ _ _ g0.pb (by simp; omega), F2.at_ _ _ g0.pf (by simp; omega), g0.F.trans F2, g0.nd, g0.sub, g0.len, g0.km, g0.va, g0.n0, g0.n1⟩
  unfold hid
  simp only [List.drop_succ_cons, List.drop_zero]
  rw [wpS_cut 1]
  simp only [List.take_succ_cons, List.take_zero, lsx, List.replicate, wps, rngD_1 (show deeds < 2 ^ 62 by omega), if_true]
  unfold hid
  simp only [List.drop_succ_cons, List.drop_zero]
  refine forL_at (fun (i : Nat) => D.int (i : Int)) (List.range deeds) (fun i env h' => ∃ hp fr ks L num x9 x10 x11, env = [some (.ref w), some (.lst (nm.map D.str)), some (.int up), some (.int deeds), some (.ref h.length), some (.ref (h.length + 1)), some (.ref (h.length + 2)), some (.int num), some (.int far), x9, x10, x11] ∧ GR h h' w r up nm (b + 1 + 3 * i) i hp fr ks L num) ?_ ?_ ?_
  · rintro env h' ⟨hp, fr, ks, L, num, x9, x10, x11, rfl, g⟩
    refine ⟨srcOk_nil _, ?_⟩
    rw [List.length_range] at g
    have hl := g.len
    have ndp : hp.Nodup := g.nd.sublist (List.sublist_append_left _ _)
    have kl := g.km.length_eq
    simp only [nxt_nx, lsx, wps, wp_svX, svD_R g.pb (g.km.nodup_iff.mpr ndp) (by rw [sizeLine_val]; omega), tup_lst]
    rw [sortN_congr g.km]
    refine k L hp h' ndp (fun x m => g.sub x (List.mem_append_left _ m)) hl (g.va.mono (fun _ m => m) ?_) (g.we.up (by omega)) g.F
    have := g.n1
    omega
  · rintro i a env h' hi ⟨hp, fr, ks, L, num, x9, x10, x11, rfl, g⟩
    obtain ⟨hi1, hi2⟩ := List.getElem?_eq_some_iff.mp hi
    rw [List.length_range] at hi1
    have ea : a = i := by rw [← hi2]; simp
    subst ea
    refine ⟨srcOk_nil _, _, _, rfl, ?_⟩
    have hl := g.len
    rw [wpS_cut 3]
    simp only [List.take_succ_cons, List.take_zero, lsx, List.replicate, wps, bin_add]
    refine draw_gr hw g (by omega) (by omega) (by omega) fun s1 h4 c1 d1 g4 => ?_
    simp only [lsx, wps, bin_add]
    refine draw_gr hw g4 (by omega) (by decide) (by decide) fun kind h5 c2 d2 g5 => ?_
    simp only [lsx, wps, len_ref g5.pa, List.length_map, bin_add]
    refine draw_gr hw g5 (by omega) (by omega) (by omega) fun s3 h6 c3 d3 g6 => ?_
    obtain ⟨at_, rfl⟩ := Int.eq_ofNat_of_zero_le c3
    unfold hid
    simp only [List.drop_succ_cons, List.drop_zero]
    have n0 : 0 ≤ num + 1 + s1 := by have := g.n0; omega
    have n1 : num + 1 + s1 ≤ ((a + 1 : Nat) : Int) * 1000001 := by have := g.n1; omega
    have n2 : num < num + 1 + s1 := by omega
    have nb : (h.length : Nat) ≠ h.length + 1 := by omega
    have nf : (h.length : Nat) ≠ h.length + 2 := by omega
    have nbf : h.length + 1 ≠ h.length + 2 := by omega
    have ndp : hp.Nodup := g.nd.sublist (List.sublist_append_left _ _)
    have kl := g.km.length_eq
    have lR : (encW (encR L ks)).length = hp.length := by rw [encW, List.length_map, encR, List.length_map, kl]
    have cb : b + 1 + 3 * (a + 1) = b + 1 + 3 * a + 1 + 1 + 1 := by omega
    rw [wpS_cons, wpS_if]
    have tst : wp (bAndT [(bOrT [(tru (cmpX .Lt (vX 10) (cX (.int 2)))), (tru (cmpX .Eq (vX 4) (lstX false (aList []))))]), (tru (cmpX .NotEq (vX 6) (lstX false (aList [])))), (tru (cmpX .Lt (callX (lenM tb__law_grown) (aList [(vX 4)])) (vX 2)))] [some (.ref w), some (.lst (nm.map D.str)), some (.int up), some (.int deeds), some (.ref h.length), some (.ref (h.length + 1)), some (.ref (h.length + 2)), some (.int (num + 1 + s1)), some (.int far), some (.int (a : Int)), some (.int kind), some (.int (at_ : Int))] h6) fun c h' => c = ((decide (kind < 2) || hp.isEmpty) && (!fr.isEmpty && decide ((hp.length : Int) < (up : Int)))) ∧ h' = h6 := by
      cases t1 : decide (kind < 2) <;> cases t2 : hp.isEmpty <;> cases t3 : fr.isEmpty <;> cases t4 : decide ((hp.length : Int) < (up : Int)) <;> simp only [bAndT, bOrT, lsx, wps, cmp_lt, t1, eq_nil g6.pa, t2, ne_nil g6.pf, t3, len_ref g6.pa, List.length_map, t4, tru_bl, List.length_nil, Nat.zero_le, Bool.not_true, Bool.not_false, Bool.and_true, Bool.and_false, Bool.or_true, Bool.or_false, Bool.true_and, Bool.false_and, Bool.true_or, Bool.false_or, and_self]
    rw [wp_eq (wp_is tst)]
    cases tb : ((decide (kind < 2) || hp.isEmpty) && (!fr.isEmpty && decide ((hp.length : Int) < (up : Int)))) with
    | true =>
      simp only [Bool.and_eq_true, Bool.not_eq_true', decide_eq_true_iff] at tb
      obtain ⟨fr', x, rfl⟩ : ∃ fr' x, fr = fr' ++ [x] := by
        rcases List.eq_nil_or_concat fr with e | ⟨l, y, e⟩
        · rw [e] at tb; simp at tb
        · exact ⟨l, y, by rw [e, List.concat_eq_append]⟩
      have hat : at_ ≤ hp.length := by omega
      have q1 : h6[h.length + 2]? = some (.lst (fr'.map D.str ++ [.str x])) := by rw [g6.pf, List.map_append]; rfl
      have pp := pop_last q1
      have p1 : (h6.set (h.length + 2) (.lst (fr'.map D.str)))[h.length]? = some (.lst (hp.map D.str)) := by rw [set_out (Ne.symm nf)]; exact g6.pa
      have b1 : (h6.set (h.length + 2) (.lst (fr'.map D.str)))[h.length + 1]? = some (.dct (encW (encR L ks))) := by rw [set_out (Ne.symm nbf)]; exact g6.pb
      have f1 : (h6.set (h.length + 2) (.lst (fr'.map D.str)))[h.length + 2]? = some (.lst (fr'.map D.str)) := set_at q1
      have F1 : Fr [w, r] h (h6.set (h.length + 2) (.lst (fr'.map D.str))) := g6.F.setn (by omega)
      have W1 : WlAt (h6.set (h.length + 2) (.lst (fr'.map D.str))) w r (b + 1 + 3 * (a + 1)) := (g6.we.up (by omega)).fr (B := [h.length + 2]) (Fr.refl.set (by simp)) (by simp; omega)
      generalize h6.set (h.length + 2) (.lst (fr'.map D.str)) = h7 at p1 b1 f1 F1 W1 pp
      have i1 := ins_strs (y := .str x) (k := at_) p1 (by rw [List.length_map, sizeLine_val]; omega) (by omega)
      have hsl : (hp.map D.str).take at_ ++ [D.str x] ++ (hp.map D.str).drop at_ = (hp.take at_ ++ [x] ++ hp.drop at_).map D.str := by simp [List.map_take, List.map_drop]
      rw [hsl] at i1
      have p2 : (h7.set h.length (.lst ((hp.take at_ ++ [x] ++ hp.drop at_).map D.str)))[h.length]? = some (.lst ((hp.take at_ ++ [x] ++ hp.drop at_).map D.str)) := set_at p1
      have b2 : (h7.set h.length (.lst ((hp.take at_ ++ [x] ++ hp.drop at_).map D.str)))[h.length + 1]? = some (.dct (encW (encR L ks))) := by rw [set_out nb]; exact b1
      have f2 : (h7.set h.length (.lst ((hp.take at_ ++ [x] ++ hp.drop at_).map D.str)))[h.length + 2]? = some (.lst (fr'.map D.str)) := by rw [set_out nf]; exact f1
      have F2 : Fr [w, r] h (h7.set h.length (.lst ((hp.take at_ ++ [x] ++ hp.drop at_).map D.str))) := F1.setn (by omega)
      have W2 : WlAt (h7.set h.length (.lst ((hp.take at_ ++ [x] ++ hp.drop at_).map D.str))) w r (b + 1 + 3 * (a + 1)) := W1.fr (B := [h.length]) (Fr.refl.set (by simp)) (by simp; omega)
      generalize h7.set h.length (.lst ((hp.take at_ ++ [x] ++ hp.drop at_).map D.str)) = h8 at i1 p2 b2 f2 F2 W2
      have ix : idxD h8 (.ref h.length) (.int (at_ : Int)) = some (.v (.str x)) := by
        rw [idx_ref p2, atI_nat, List.getElem?_map, List.append_assoc, List.getElem?_append_right (by rw [List.length_take]; omega), List.length_take, Nat.min_eq_left hat]
        simp
      have ph : (hp.take at_ ++ [x] ++ hp.drop at_).Perm (x :: hp) := by
        rw [List.append_assoc]
        refine (List.perm_append_comm_assoc _ _ _).trans ?_
        rw [List.take_append_drop]
        exact List.Perm.refl _
      have pm : (hp.take at_ ++ [x] ++ hp.drop at_ ++ fr').Perm (hp ++ (fr' ++ [x])) := by
        refine (ph.append_right fr').trans ?_
        rw [← List.append_assoc]
        exact (List.perm_append_comm (l₁ := hp ++ fr') (l₂ := [x])).symm
      have hx : x ∉ hp := fun m => by
        have z := g.nd
        rw [List.nodup_append] at z
        exact z.2.2 x m x (by simp) rfl
      have hk : x ∉ ks := fun m => hx (g.km.mem_iff.mp m)
      have st := sto_dct (x := x) (y := .tup [.str x, .int (num + 1 + s1), .int (num + 1 + s1), .int (at_ : Int)]) b2 (by rw [lR, sizeLine_val]; omega)
      rw [encR_new hk] at st
      simp only [lsx, wps, asIns_lst g6.pa, selM_ins g6.pa, BM.fn, asIns_lst q1, selM_pop q1, pp, i1, ix, st, List.length_cons, List.length_nil, Nat.zero_le, Nat.reduceAdd, Nat.reduceLeDiff]
      refine ⟨hp.take at_ ++ [x] ++ hp.drop at_, fr', ks ++ [x], L.put x (num + 1 + s1) (num + 1 + s1) (at_ : Int), _, _, _, _, rfl, ?_⟩
      refine ⟨W2.fr (B := [h.length + 1]) (Fr.refl.set (by simp)) (by simp; omega), by rw [set_out (Ne.symm nb)]; exact p2, set_at b2, by rw [set_out nbf]; exact f2, F2.setn (by omega), pm.nodup_iff.mpr g.nd, fun y m => g.sub y (pm.mem_iff.mp m), by rw [ph.length_eq, List.length_cons]; omega, ?_, (g.va.put g.n0 n2 (by omega) (by omega)).mono (fun y m => ph.mem_iff.mp m) (Int.le_refl _), n0, n1⟩
      exact ((List.perm_append_comm (l₁ := ks) (l₂ := [x])).trans (g.km.cons x)).trans ph.symm
    | false =>
      show wpS (sList _ _ _) _
      rw [wpS_cons, wpS_if]
      have tst2 : wp (bAndT [(tru (cmpX .Lt (vX 11) (callX (lenM tb__law_grown) (aList [(vX 4)])))), (tru (cmpX .Eq (vX 10) (cX (.int 2))))] [some (.ref w), some (.lst (nm.map D.str)), some (.int up), some (.int deeds), some (.ref h.length), some (.ref (h.length + 1)), some (.ref (h.length + 2)), some (.int (num + 1 + s1)), some (.int far), some (.int (a : Int)), some (.int kind), some (.int (at_ : Int))] h6) fun c h' => c = (decide ((at_ : Int) < (hp.length : Int)) && (kind == 2)) ∧ h' = h6 := by
        cases t1 : (kind == 2) <;> cases t4 : decide ((at_ : Int) < (hp.length : Int)) <;> simp only [bAndT, lsx, wps, cmp_lt, cmp_eq, rs_int, eqD_int, t1, len_ref g6.pa, List.length_map, t4, tru_bl, Bool.and_true, Bool.and_false, Bool.true_and, Bool.false_and, and_self]
      rw [wp_eq (wp_is tst2)]
      cases tb2 : (decide ((at_ : Int) < (hp.length : Int)) && (kind == 2)) with
      | true =>
        simp only [Bool.and_eq_true, decide_eq_true_iff] at tb2
        have j1 : at_ < hp.length := by omega
        have gy : (hp.map D.str)[at_]? = some (.str (nth hp at_)) := by rw [List.getElem?_map, nth_at j1]; rfl
        have pp := pop_at g6.pa gy (by rw [List.length_map]; omega)
        rw [erase_map] at pp
        have mk : nth hp at_ ∈ ks := g.km.mem_iff.mpr (nth_mem j1)
        have b1 : (h6.set h.length (.lst ((hp.eraseIdx at_).map D.str)))[h.length + 1]? = some (.dct (encW (encR L ks))) := by rw [set_out nb]; exact g6.pb
        have p1 : (h6.set h.length (.lst ((hp.eraseIdx at_).map D.str)))[h.length]? = some (.lst ((hp.eraseIdx at_).map D.str)) := set_at g6.pa
        have f1 : (h6.set h.length (.lst ((hp.eraseIdx at_).map D.str)))[h.length + 2]? = some (.lst (fr.map D.str)) := by rw [set_out nf]; exact g6.pf
        have F1 : Fr [w, r] h (h6.set h.length (.lst ((hp.eraseIdx at_).map D.str))) := g6.F.setn (by omega)
        have W1 : WlAt (h6.set h.length (.lst ((hp.eraseIdx at_).map D.str))) w r (b + 1 + 3 * (a + 1)) := (g6.we.up (by omega)).fr (B := [h.length]) (Fr.refl.set (by simp)) (by simp; omega)
        generalize h6.set h.length (.lst ((hp.eraseIdx at_).map D.str)) = h7 at pp b1 p1 f1 F1 W1
        have dp := dpop_W b1 (encR_at mk)
        rw [encR_out] at dp
        simp only [lsx, wps, asIns_dct g6.pb, selM_dpop g6.pb, BM.fn, asIns_lst g6.pa, selM_pop g6.pa, pp, dp]
        have er : hp.eraseIdx at_ = hp.filter fun z => decide (z ≠ nth hp at_) := by
          have := erase_filter (z := nth hp at_) ndp
          rwa [idx_nth ndp j1] at this
        have sl : (hp.eraseIdx at_).Sublist hp := List.eraseIdx_sublist ..
        refine ⟨hp.eraseIdx at_, fr, ks.filter fun y => decide (y ≠ nth hp at_), L, _, _, _, _, rfl, ?_⟩
        refine ⟨W1.fr (B := [h.length + 1]) (Fr.refl.set (by simp)) (by simp; omega), by rw [set_out (Ne.symm nb)]; exact p1, set_at b1, by rw [set_out nbf]; exact f1, F1.setn (by omega), g.nd.sublist (sl.append_right fr), fun y m => g.sub y ((sl.append_right fr).subset m), Nat.le_trans sl.length_le g.len, ?_, g.va.mono (fun y m => sl.subset m) (by omega), n0, n1⟩
        rw [er]
        exact g.km.filter _
      | false =>
        show wpS (sList _ _ _) _
        rw [wpS_cons, wpS_if]
        have tst3 : wp (tru (cmpX .Lt (vX 11) (callX (lenM tb__law_grown) (aList [(vX 4)]))) [some (.ref w), some (.lst (nm.map D.str)), some (.int up), some (.int deeds), some (.ref h.length), some (.ref (h.length + 1)), some (.ref (h.length + 2)), some (.int (num + 1 + s1)), some (.int far), some (.int (a : Int)), some (.int kind), some (.int (at_ : Int))] h6) fun c h' => c = decide ((at_ : Int) < (hp.length : Int)) ∧ h' = h6 := by
          simp only [lsx, wps, cmp_lt, len_ref g6.pa, List.length_map, tru_bl, and_self]
        rw [wp_eq (wp_is tst3)]
        by_cases te : (at_ : Int) < (hp.length : Int)
        · have j1 : at_ < hp.length := by omega
          have ix : idxD h6 (.ref h.length) (.int (at_ : Int)) = some (.v (.str (nth hp at_))) := by
            rw [idx_ref g6.pa, atI_nat, List.getElem?_map, nth_at j1]
            rfl
          have mk : nth hp at_ ∈ ks := g.km.mem_iff.mpr (nth_mem j1)
          have iw : idxD h6 (.ref (h.length + 1)) (.str (nth hp at_)) = some (.v (rw4 L (nth hp at_))) := by rw [idx_dct g6.pb, encR_at mk]; rfl
          have i1 : idxD h6 (rw4 L (nth hp at_)) (.int 1) = some (.v (.int (L.ca (nth hp at_)))) := rfl
          have st := sto_dct (x := nth hp at_) (y := .tup [.str (nth hp at_), .int (L.ca (nth hp at_)), .int (num + 1 + s1), .int (at_ : Int)]) g6.pb (by rw [lR, sizeLine_val]; omega)
          rw [encR_set mk] at st
          simp only [decide_eq_true te, lsx, wps, ix, iw, i1, st, List.length_cons, List.length_nil, Nat.zero_le, Nat.reduceAdd, Nat.reduceLeDiff]
          exact ⟨hp, fr, ks, _, _, _, _, _, rfl, (g6.we.up (by omega)).fr (B := [h.length + 1]) (Fr.refl.set (by simp)) (by simp; omega), by rw [set_out (Ne.symm nb)]; exact g6.pa, set_at g6.pb, by rw [set_out nbf]; exact g6.pf, g6.F.setn (by omega), g6.nd, g6.sub, g6.len, g6.km, g.va.look (nth_mem j1) n2 (by omega) (by omega), n0, n1⟩
        · simp only [decide_eq_false te, lsx, wps]
          exact ⟨hp, fr, ks, L, _, _, _, _, rfl, g6.we.up (by omega), g6.pa, g6.pb, g6.pf, g6.F, g6.nd, g6.sub, g6.len, g6.km, g.va.mono (fun _ m => m) (by omega), n0, n1⟩
  · exact ⟨[], nm, [], _, _, _, _, _, rfl, g1⟩
end Dk
end S_Q62_k37
end
section
set_option Elab.async false
set_option linter.all false
set_option maxRecDepth 100000
set_option maxHeartbeats 1000000
noncomputable section S_Q63_k37
namespace Dk
open PySem PySem.Spec PyProof.Rows L2
open Classical
theorem wp_lrg2X {mu : Bool} {f g : SE} {e : Env} {h : Hd} {Q : D → Hd → Prop} : wp (lrg2X mu f g e h) Q = wp (f e h) fun x h1 => wp (g e h1) fun y h2 => match x, y with
    | .int a, .int b => RgOk a b ∧ wp (fin mu (.l (rgL a b)) h2) Q
    | _, _ => False := by
  unfold lrg2X
  rw [wp_bd]
  congr
  funext x h1
  rw [wp_bd]
  congr
  funext y h2
  cases x <;> cases y <;> first | rfl | skip
  next a b =>
    dsimp only
    by_cases c : RgOk a b
    · rw [if_pos c]; simp only [c, true_and]
    · rw [if_neg c]; simp only [c, false_and, wp_fail]
theorem rem_ints {h : Hd} {n : Nat} {l : List Int} {x : Int} (e : h[n]? = some (.lst (l.map D.int))) (m : x ∈ l) : remS (.ref n) [.int x] h = .ok .non (h.set n (.lst ((l.eraseIdx (l.idxOf x)).map D.int))) := by
  simp only [remS, onL, e, ints_map, m, if_true]
theorem Vl.add {L : Lo} {ns : List Str} {x : Str} {num a b c : Int} (V : Vl L ns num) (hx : x ∉ ns) (h1 : 1 ≤ a) (h2 : a ≤ b) (h3 : b ≤ num) (c0 : 0 ≤ c) (c1 : c ≤ 23) (hd : ∀ y ∈ ns, L.ca y ≠ a ∧ L.ca y ≠ b ∧ L.lo y ≠ a ∧ L.lo y ≠ b) : Vl (L.put x a b c) (ns ++ [x]) num := by
  have e : ∀ y, y ∈ ns ++ [x] → (y = x ∧ (L.put x a b c).ca y = a ∧ (L.put x a b c).lo y = b ∧ (L.put x a b c).ov y = c) ∨ (y ≠ x ∧ y ∈ ns ∧ (L.put x a b c).ca y = L.ca y ∧ (L.put x a b c).lo y = L.lo y ∧ (L.put x a b c).ov y = L.ov y) := fun y m => by
    by_cases q : y = x
    · exact .inl ⟨q, by simp [Lo.put, q], by simp [Lo.put, q], by simp [Lo.put, q]⟩
    · have m2 : y ∈ ns := by
        rcases List.mem_append.mp m with m | m
        · exact m
        · exact absurd (List.mem_singleton.mp m) q
      exact .inr ⟨q, m2, by simp [Lo.put, q], by simp [Lo.put, q], by simp [Lo.put, q]⟩
  refine ⟨fun y m => ?_, fun y my z mz ne => ?_⟩
  · rcases e y m with ⟨_, e1, e2, e3⟩ | ⟨_, m2, e1, e2, e3⟩
    · rw [e1, e2, e3]; omega
    · rw [e1, e2, e3]; exact V.lb y m2
  · rcases e y my with ⟨p1, e1, e2, e3⟩ | ⟨_, m1, e1, e2, e3⟩ <;> rcases e z mz with ⟨p2, f1, f2, f3⟩ | ⟨_, m2, f1, f2, f3⟩
    · exact absurd (p1.trans p2.symm) ne
    · rw [e1, e2, f1, f2]; have := hd z m2; omega
    · rw [e1, e2, f1, f2]; have := hd y m1; omega
    · rw [e1, e2, f1, f2]; exact V.di y m1 z m2 ne
theorem take_put {L : Lo} {nm : List Str} {i : Nat} {a b c : Int} (nd : nm.Nodup) (hi : i < nm.length) : (nm.take i).map (rw4 L) ++ [.tup [.str (nth nm i), .int a, .int b, .int c]] = (nm.take (i + 1)).map (rw4 (L.put (nth nm i) a b c)) := by
  have e : nm.take (i + 1) = nm.take i ++ [nth nm i] := by
    rw [List.take_add_one, nth_at hi]
    rfl
  have hn : nth nm i ∉ nm.take i := fun m => by
    have := nd.sublist (List.take_sublist (i + 1) nm)
    rw [e, List.nodup_append] at this
    exact this.2.2 _ m _ (by simp) rfl
  rw [e, List.map_append, List.map_cons, List.map_nil, put_eq]
  congr 1
  exact List.map_congr_left fun y my => by rw [put_ne (x := nth nm i) (y := y) fun q => hn (by rw [← q]; exact my)]
structure Lre (b : Nat) (L : Lo) (ns : List Str) : Prop where
  nd : ns.Nodup
  len : ns.length ≤ b
  sh : ∀ x ∈ ns, Shn x ∧ Nm x
  pw : ns.Pairwise fun a b => leS a b = true
  va : Vl L ns 1000000000
structure MR (h h' : Hd) (w r : Nat) (nm : List Str) (b i : Nat) (ms : List Int) (L : Lo) : Prop where
  we : WlAt h' w r b
  pa : h'[h.length]? = some (.lst (ms.map D.int))
  pb : h'[h.length + 1]? = some (.lst ((nm.take i).map (rw4 L)))
  F : Fr [w, r] h h'
  nd : ms.Nodup
  bd : ∀ x ∈ ms, 1 ≤ x ∧ x ≤ 3 * nm.length + 1
  len : 3 * nm.length + 1 ≤ ms.length + 2 * i
  len2 : ms.length ≤ 3 * nm.length + 1
  va : Vl L (nm.take i) (3 * nm.length + 1)
  di : ∀ y ∈ nm.take i, L.ca y ∉ ms ∧ L.lo y ∉ ms
theorem draw_mr {h h' : Hd} {w r b i : Nat} {nm : List Str} {ms : List Int} {L : Lo} {many : Int} {Q : D → Hd → Prop} (hw : w < h.length ∧ r < h.length) (G : MR h h' w r nm b i ms L) (hb : b < 10 ^ 12) (hm : 0 < many) (hm2 : many < 1073741824)
    (k : ∀ x h'', 0 ≤ x → x < many → MR h h'' w r nm (b + 1) i ms L → Q (.int x) h'') : wp (m__law_draw [.ref w, .int many] h') Q := by
  refine draw_wp G.we hb hm hm2 fun x h2 r0 r1 A2 F2 L2 => ?_
  exact k x h2 r0 r1 ⟨A2, F2.at_ _ _ G.pa (by simp; omega), F2.at_ _ _ G.pb (by simp; omega), G.F.trans F2, G.nd, G.bd, G.len, G.len2, G.va, G.di⟩
theorem made_up_wp {h : Hd} {w r b : Nat} {nm : List Str} {Q : D → Hd → Prop} (A : WlAt h w r b) (hb : b < 10 ^ 11) (nd : nm.Nodup) (zn : nm.length ≤ 23) (hs : ∀ x ∈ nm, Shn x ∧ Nm x)
    (k : ∀ (L : Lo) (ns : List Str) (h' : Hd), Lre nm.length L ns → ns.Perm nm → WlAt h' w r (b + 200) → Fr [w, r] h h' → Q (loreD L ns) h') : wp (m__law_made_up [.ref w, .lst (nm.map D.str)] h) Q := by
  have hw := A.lt
  refine wp_mF rfl ?_
  unfold f__law_made_up
  have rok : RgOk 1 (3 * (nm.length : Int) + 2) := ⟨by decide, by decide, by omega, by omega, by omega⟩
  have rg : rgL 1 (3 * (nm.length : Int) + 2) = ((List.range (3 * nm.length + 1)).map fun i => (1 : Int) + (i : Nat)).map D.int := by
    unfold rgL
    rw [List.map_map, show (3 * (nm.length : Int) + 2 - 1).toNat = 3 * nm.length + 1 by omega]
    rfl
  rw [wpS_cut 2]
  simp only [List.take_succ_cons, List.take_zero, lsx, List.replicate, wps, wp_lrg2X, len_lst, List.length_map, bin_mulA (show -(2 ^ 64) < (3 : Int) by decide) (by decide), bin_add, rok, rg, List.length_append, List.length_cons, List.length_nil, Nat.zero_le, Nat.reduceAdd, Nat.reduceLeDiff, Nat.zero_add]
  unfold hid
  simp only [List.drop_succ_cons, List.drop_zero]
  have g0 : MR h (h ++ [Ob.lst (((List.range (3 * nm.length + 1)).map fun i => (1 : Int) + (i : Nat)).map D.int)] ++ [.lst []]) w r nm b 0 ((List.range (3 * nm.length + 1)).map fun i => (1 : Int) + (i : Nat)) ⟨fun _ => 0, fun _ => 0, fun _ => 0⟩ := by
    refine ⟨A.fr (B := []) Fr.refl.app.app (by simp), ?_, ?_, Fr.refl.app.app, nodup_map_range fun i j _ _ e => by omega, fun x m => ?_, by simp, by simp, ⟨(fun x m => by simp at m), (fun x m => by simp at m)⟩, (fun x m => by simp at m)⟩
    · simp [List.getElem?_append]
    · simp [List.getElem?_append]
    · obtain ⟨j, mj, rfl⟩ := List.mem_map.mp m
      have := List.mem_range.mp mj
      omega
  generalize h ++ [Ob.lst (((List.range (3 * nm.length + 1)).map fun i => (1 : Int) + (i : Nat)).map D.int)] ++ [.lst []] = h1 at g0
  generalize ((List.range (3 * nm.length + 1)).map fun i => (1 : Int) + (i : Nat)) = ms0 at g0
  rw [wpS_cut 1]
  simp only [List.take_succ_cons, List.take_zero, lsx, List.replicate, wps, itD_lst]
  unfold hid
  simp only [List.drop_succ_cons, List.drop_zero]
  refine forL_at D.str nm (fun i env h' => ∃ ms L x4 x5 x6 x7 x8, env = [some (.ref w), some (.lst (nm.map D.str)), some (.ref h.length), some (.ref (h.length + 1)), x4, x5, x6, x7, x8] ∧ MR h h' w r nm (b + 4 * i) i ms L) ?_ ?_ ?_
  · rintro env h' ⟨ms, L, x4, x5, x6, x7, x8, rfl, g⟩
    refine ⟨srcOk_nil _, ?_⟩
    have pb := g.pb
    have va := g.va
    rw [List.take_length] at pb va
    have so : sortedD h' [.ref (h.length + 1)] = some (.l ((sortN nm).map (rw4 L))) := by
      have e1 : asS h' (.ref (h.length + 1)) = some (nm.map (rw4 L)) := by simp [asS, asL, pb]
      simp only [sortedD, e1]
      exact sortR_R nd (by rw [sizeLine_val]; omega)
    simp only [nxt_nx, lsx, wps, so, tup_lst]
    refine k L (sortN nm) h' ⟨(sortN_perm nm).nodup_iff.mpr nd, by rw [sortN_len]; omega, fun x m => hs x ((sortN_perm nm).mem_iff.mp m), sortN_pw nm, va.mono (fun x m => (sortN_perm nm).mem_iff.mp m) (by omega)⟩ (sortN_perm nm) (g.we.up (by omega)) g.F
  · rintro i nme env h' hi ⟨ms, L, x4, x5, x6, x7, x8, rfl, g⟩
    obtain ⟨hi1, hi2⟩ := List.getElem?_eq_some_iff.mp hi
    have en : nme = nth nm i := by
      have := nth_at hi1
      rw [hi] at this
      exact Option.some.inj this
    refine ⟨srcOk_nil _, _, _, rfl, ?_⟩
    have gl := g.len
    have gl2 := g.len2
    have nb : h.length ≠ h.length + 1 := by omega
    rw [wpS_cut 1]
    simp only [List.take_succ_cons, List.take_zero, lsx, List.replicate, wps, asIns_lst g.pa, selM_pop g.pa, BM.fn, len_ref g.pa, List.length_map]
    refine draw_mr hw g (by omega) (by omega) (by omega) fun s1 h2 a1 b1 g2 => ?_
    obtain ⟨j, rfl⟩ := Int.eq_ofNat_of_zero_le a1
    have hj : j < ms.length := by omega
    obtain ⟨cm, hcm⟩ : ∃ cm, ms[j]? = some cm := ⟨_, List.getElem?_eq_getElem hj⟩
    have mcm : cm ∈ ms := List.mem_of_getElem? hcm
    have gy : (ms.map D.int)[j]? = some (.int cm) := by rw [List.getElem?_map, hcm]; rfl
    have pp := pop_at g2.pa gy (by rw [List.length_map]; omega)
    rw [erase_map] at pp
    simp only [pp, wps]
    unfold hid
    simp only [List.drop_succ_cons, List.drop_zero]
    have sl1 : (ms.eraseIdx j).Sublist ms := List.eraseIdx_sublist ..
    have nd1 : (ms.eraseIdx j).Nodup := g.nd.sublist sl1
    have le1 : (ms.eraseIdx j).length = ms.length - 1 := by rw [List.length_eraseIdx_of_lt hj]
    have cn1 : cm ∉ ms.eraseIdx j := fun m => by
      rw [List.mem_eraseIdx_iff_getElem?] at m
      obtain ⟨i2, ne, e2⟩ := m
      obtain ⟨l2, e3⟩ := List.getElem?_eq_some_iff.mp e2
      obtain ⟨l1, e4⟩ := List.getElem?_eq_some_iff.mp hcm
      exact ne ((List.getElem_inj g.nd).mp (e3.trans e4.symm))
    have q1 : (h2.set h.length (.lst ((ms.eraseIdx j).map D.int)))[h.length]? = some (.lst ((ms.eraseIdx j).map D.int)) := set_at g2.pa
    have q2 : (h2.set h.length (.lst ((ms.eraseIdx j).map D.int)))[h.length + 1]? = some (.lst ((nm.take i).map (rw4 L))) := by rw [set_out nb]; exact g2.pb
    have q3 : WlAt (h2.set h.length (.lst ((ms.eraseIdx j).map D.int))) w r (b + 4 * i + 1) := g2.we.fr (B := [h.length]) (Fr.refl.set (by simp)) (by simp; omega)
    have q4 : Fr [w, r] h (h2.set h.length (.lst ((ms.eraseIdx j).map D.int))) := g2.F.setn (by omega)
    generalize h2.set h.length (.lst ((ms.eraseIdx j).map D.int)) = h3 at q1 q2 q3 q4
    generalize hms : ms.eraseIdx j = ms1 at *
    have lf := List.length_filter_le (fun x => decide (cm < x)) ms1
    have zf : ((ms1.filter fun x => decide (cm < x)).map D.int).length ≤ 16777216 := by rw [List.length_map]; omega
    rw [wpS_cut 1]
    simp only [List.take_succ_cons, List.take_zero, lsx, List.replicate, wps, itD_ref q1, wipeE]
    rw [lcGo_map D.int (fun x => decide (cm < x)) D.int (show srcOk [(h.length, Ob.lst (ms1.map D.int))] h3 by intro p m; rw [List.mem_singleton.mp m]; exact q1) ms1 fun x mx => ⟨_, rfl, by simp only [wps, lsx, cmp_gt, tru_bl, and_self], fun _ => by simp only [wps, lsx, and_self]⟩]
    simp only [lsx, wps, zf]
    unfold hid
    simp only [List.drop_succ_cons, List.drop_zero]
    have zc : [D.int cm].length + ((ms1.filter fun x => decide (cm < x)).map D.int).length ≤ sizeLine := by rw [sizeLine_val, List.length_map]; simp; omega
    rw [wpS_cut 1]
    simp only [List.take_succ_cons, List.take_zero, lsx, List.replicate, wps, bin_cat zc, List.length_cons, List.length_nil, Nat.zero_le, Nat.reduceAdd, Nat.reduceLeDiff]
    refine one_of_wp q3 (by omega) (by simp) (by rw [List.length_append, List.length_map]; simp; omega) fun d h4 md A4 F4 L4 => ?_
    obtain ⟨lk, rfl, hlk, lkm⟩ : ∃ lk : Int, d = .int lk ∧ (lk = cm ∨ (lk ∈ ms1 ∧ cm < lk)) ∧ lk ∈ ms := by
      rcases List.mem_append.mp md with m | m
      · exact ⟨cm, List.mem_singleton.mp m, .inl rfl, mcm⟩
      · obtain ⟨y, my, rfl⟩ := List.mem_map.mp m
        obtain ⟨m1, m2⟩ := List.mem_filter.mp my
        exact ⟨y, rfl, .inr ⟨m1, of_decide_eq_true m2⟩, sl1.subset m1⟩
    unfold hid
    simp only [List.drop_succ_cons, List.drop_zero]
    have r1 := F4.at_ _ _ q1 (by simp; omega)
    have r2 := F4.at_ _ _ q2 (by simp; omega)
    have r4 := q4.trans F4
    have fin : ∀ (h5 : Hd) (ms2 : List Int), h5[h.length]? = some (.lst (ms2.map D.int)) → h5[h.length + 1]? = some (.lst ((nm.take i).map (rw4 L))) → WlAt h5 w r (b + 4 * i + 2) → Fr [w, r] h h5 → ms2.Sublist ms1 → lk ∉ ms2 → ms1.length ≤ ms2.length + 1 → wpS (sList [(sExp (mthX tb__law_made_up "append" 1 (vX 3) (aList [(tupX (aList [(vX 4), (vX 5), (vX 8), (callX m__law_draw (aList [(vX 0), (binX .Add false (cX (.int 1)) (callX m__law_draw (aList [(vX 0), (binX .Add false (cX (.int 1)) (callX (lenM tb__law_made_up) (aList [(vX 1)])))])))]))]))])))] [some (.ref w), some (.lst (nm.map D.str)), some (.ref h.length), some (.ref (h.length + 1)), some (.str nme), some (.int cm), some (.lst ((ms1.filter fun x => decide (cm < x)).map D.int)), x7, some (.int lk)] h5) fun fl h2 => match fl with
        | .nx e2 => ∃ ms L x4 x5 x6 x7 x8, e2 = [some (.ref w), some (.lst (nm.map D.str)), some (.ref h.length), some (.ref (h.length + 1)), x4, x5, x6, x7, x8] ∧ MR h h2 w r nm (b + 4 * (i + 1)) (i + 1) ms L
        | _ => False := by
      intro h5 ms2 s1 s2 s3 s4 sl2 nl le2
      simp only [lsx, wps, asIns_lst s2, selM_app s2, BM.fn, len_lst, List.length_map, bin_add]
      refine draw_wp s3 (by omega) (by omega) (by omega) fun v1 h6 v0 v2 A6 F6 L6 => ?_
      simp only [lsx, wps, bin_add]
      refine draw_wp A6 (by omega) (by omega) (by omega) fun v3 h7 v4 v5 A7 F7 L7 => ?_
      have t1 := F7.at_ _ _ (F6.at_ _ _ s1 (by simp; omega)) (by simp; omega)
      have t2 := F7.at_ _ _ (F6.at_ _ _ s2 (by simp; omega)) (by simp; omega)
      have ap := app_ref (y := .tup [.str nme, .int cm, .int lk, .int v3]) t2 (by rw [List.length_map, List.length_take, sizeLine_val]; omega)
      rw [en, take_put nd hi1, ← en] at ap
      simp only [lsx, wps, List.length_cons, List.length_nil, Nat.zero_le, Nat.reduceAdd, Nat.reduceLeDiff, ap]
      have b1 := g.bd cm mcm
      have b2 := g.bd lk lkm
      refine ⟨ms2, _, _, _, _, _, _, rfl, (A7.up (by omega)).fr (B := [h.length + 1]) (Fr.refl.set (by simp)) (by simp; omega), by rw [set_out (Ne.symm nb)]; exact t1, set_at t2, ((s4.trans F6).trans F7).setn (by omega), nd1.sublist sl2, fun x m => g.bd x (sl1.subset (sl2.subset m)), by omega, by have := sl2.length_le; omega, ?_, ?_⟩
      · have e : nm.take (i + 1) = nm.take i ++ [nth nm i] := by
          rw [List.take_add_one, nth_at hi1]
          rfl
        have hn : nth nm i ∉ nm.take i := fun m => by
          have := nd.sublist (List.take_sublist (i + 1) nm)
          rw [e, List.nodup_append] at this
          exact this.2.2 _ m _ (by simp) rfl
        rw [e, en]
        refine g.va.add hn b1.1 (by rcases hlk with q | q <;> omega) b2.2 v4 (by omega) fun y my => ?_
        have d := g.di y my
        exact ⟨fun q => d.1 (by rw [q]; exact mcm), fun q => d.1 (by rw [q]; exact lkm), fun q => d.2 (by rw [q]; exact mcm), fun q => d.2 (by rw [q]; exact lkm)⟩
      · intro y my
        have e : nm.take (i + 1) = nm.take i ++ [nth nm i] := by
          rw [List.take_add_one, nth_at hi1]
          rfl
        rw [e] at my
        by_cases c : y = nme
        · subst c
          refine ⟨fun m => cn1 ?_, fun m => nl ?_⟩
          · have : (L.put y cm lk v3).ca y = cm := by simp [Lo.put]
            rw [this] at m
            exact sl2.subset m
          · have : (L.put y cm lk v3).lo y = lk := by simp [Lo.put]
            rwa [this] at m
        · have my2 : y ∈ nm.take i := by
            rcases List.mem_append.mp my with m | m
            · exact m
            · exact absurd ((List.mem_singleton.mp m).trans en.symm) c
          have e1 : (L.put nme cm lk v3).ca y = L.ca y := by simp [Lo.put, c]
          have e2 : (L.put nme cm lk v3).lo y = L.lo y := by simp [Lo.put, c]
          rw [e1, e2]
          have d := g.di y my2
          exact ⟨fun m => d.1 (sl1.subset (sl2.subset m)), fun m => d.2 (sl1.subset (sl2.subset m))⟩
    rw [wpS_cut 1]
    simp only [List.take_succ_cons, List.take_zero, lsx, List.replicate, wps, cmps, eqs, opt]
    cases tc : (lk == cm) with
    | true =>
      have e := eq_of_beq tc
      simp only [Bool.not_true, lsx, wps]
      unfold hid
      simp only [List.drop_succ_cons, List.drop_zero]
      refine wpS_imp (fin h4 ms1 r1 r2 A4 r4 (List.Sublist.refl _) (by rw [e]; exact cn1) (by omega)) fun fl h2 hh => by cases fl <;> first | exact hh | exact hh.elim
    | false =>
      have ne := beq_eq_false_iff_ne.mp tc
      have ml : lk ∈ ms1 := by
        rcases hlk with q | q
        · exact absurd q ne
        · exact q.1
      have rm := rem_ints r1 ml
      have il : ms1.idxOf lk < ms1.length := List.idxOf_lt_length_iff.mpr ml
      simp only [Bool.not_false, lsx, wps, asIns_lst r1, selM_rem r1, BM.fn, rm]
      unfold hid
      simp only [List.drop_succ_cons, List.drop_zero]
      refine wpS_imp (fin _ (ms1.eraseIdx (ms1.idxOf lk)) (set_at r1) (by rw [set_out nb]; exact r2) (A4.fr (B := [h.length]) (Fr.refl.set (by simp)) (by simp; omega)) (r4.setn (by omega)) (List.eraseIdx_sublist ..) ?_ (by rw [List.length_eraseIdx_of_lt il]; omega)) fun fl h2 hh => by cases fl <;> first | exact hh | exact hh.elim
      intro m
      rw [List.mem_eraseIdx_iff_getElem?] at m
      obtain ⟨i2, n2, e2⟩ := m
      obtain ⟨l2, e3⟩ := List.getElem?_eq_some_iff.mp e2
      exact n2 ((List.getElem_inj nd1).mp (e3.trans (List.getElem_idxOf il).symm))
  · exact ⟨ms0, _, _, _, _, _, _, rfl, g0⟩
end Dk
end S_Q63_k37
end
section
set_option Elab.async false
set_option linter.all false
set_option maxRecDepth 100000
set_option maxHeartbeats 1000000
noncomputable section S_Q64_k37
namespace Dk
open PySem PySem.Spec PyProof.Rows L2
open Classical
theorem Vl.like {L L' : Lo} {ns : List Str} {num : Int} (V : Vl L ns num) (e : ∀ x, L'.ca x = L.ca x ∧ L'.lo x = L.lo x) (o : ∀ x ∈ ns, 0 ≤ L'.ov x ∧ L'.ov x ≤ 23) : Vl L' ns num := by
  refine ⟨fun x m => ?_, fun x mx y my n => ?_⟩
  · have := V.lb x m
    have := o x m
    rw [(e x).1, (e x).2]
    omega
  · rw [(e x).1, (e x).2, (e y).1, (e y).2]
    exact V.di x mx y my n
theorem put_like {L L' : Lo} {x : Str} {v : Int} (e : ∀ x, L'.ca x = L.ca x ∧ L'.lo x = L.lo x) : ∀ y, (L'.put x (L.ca x) (L.lo x) v).ca y = L.ca y ∧ (L'.put x (L.ca x) (L.lo x) v).lo y = L.lo y := fun y => by
  by_cases q : y = x
  · simp [Lo.put, q]
  · simp [Lo.put, q, e y]
theorem put_ov {L' : Lo} {ns : List Str} {x : Str} {a b v : Int} (o : ∀ x ∈ ns, 0 ≤ L'.ov x ∧ L'.ov x ≤ 23) (h0 : 0 ≤ v) (h1 : v ≤ 23) : ∀ y ∈ ns, 0 ≤ (L'.put x a b v).ov y ∧ (L'.put x a b v).ov y ≤ 23 := fun y m => by
  by_cases q : y = x
  · simp only [Lo.put, q, if_true]
    exact ⟨h0, h1⟩
  · simp only [Lo.put, q, if_false]
    exact o y m
theorem bad_wp {h : Hd} {w r b up : Nat} {Q : D → Hd → Prop} (A : WlAt h w r b) (hb : b < 10 ^ 10) (hu : up ≤ 24)
    (k : ∀ (L : Lo) (ns : List Str) (h' : Hd), Lre up L ns → WlAt h' w r (b + 2000) → Fr [w, r] h h' → Q (loreD L ns) h') : wp (m__law_bad [.ref w, .int up] h) Q := by
  have hw := A.lt
  refine wp_mF rfl ?_
  unfold f__law_bad
  rw [wpS_cut 1]
  simp only [List.take_succ_cons, List.take_zero, lsx, List.replicate, wps]
  refine signs_wp (many := 26) A (by omega) (by decide) fun nm h1 nl nn ns A1 F1 L1 => ?_
  unfold hid
  simp only [List.drop_succ_cons, List.drop_zero]
  rw [wpS_cut 1]
  simp only [List.take_succ_cons, List.take_zero, lsx, List.replicate, wps]
  refine draw_wp A1 (by omega) (by decide) (by decide) fun s1 h2 a1 b1 A2 F2 L2 => ?_
  simp only [cmps, eqs]
  have mn : minD h2 [.int (up : Int), .int 9] = some (.v (.int ((min up 9 : Nat) : Int))) := by
    rw [max_min.2]
    congr 3
    omega
  cases tc : (s1 == 0) with
  | true =>
    simp only [lsx, wps, mn, bin_add]
    refine draw_wp A2 (by omega) (by omega) (by omega) fun s2 h3 a2 b2 A3 F3 L3 => ?_
    obtain ⟨m, rfl⟩ := Int.eq_ofNat_of_zero_le a2
    simp only [lsx, wps, sl_lst, cutD_take, ← List.map_take]
    have lt : (nm.take m).length ≤ up := by rw [List.length_take]; omega
    refine made_up_wp A3 (by omega) (nn.sublist (List.take_sublist _ _)) (by rw [List.length_take]; omega) (fun x m => ns x (List.mem_of_mem_take m)) fun L l h4 R _ A4 F4 => ?_
    exact k L l h4 ⟨R.nd, Nat.le_trans R.len lt, R.sh, R.pw, R.va⟩ (A4.up (by omega)) (((F1.trans F2).trans F3).trans F4)
  | false =>
    simp only [lsx, wps]
    unfold hid
    simp only [List.drop_succ_cons, List.drop_zero]
    rw [wpS_cut 1]
    simp only [List.take_succ_cons, List.take_zero, lsx, List.replicate, wps, bin_mulA (show -(2 ^ 64) < (4 : Int) by decide) (by decide), bin_add]
    refine draw_wp A2 (by omega) (by omega) (by omega) fun s2 h3 a2 b2 A3 F3 L3 => ?_
    obtain ⟨m, rfl⟩ := Int.eq_ofNat_of_zero_le a2
    simp only [lsx, wps, bin_add, show (up : Int) + (m : Int) = ((up + m : Nat) : Int) by omega]
    refine grown_wp A3 (by omega) nn (by omega) hu (by omega) fun L hp h4 hn hs hl V A4 F4 => ?_
    unfold hid
    simp only [List.drop_succ_cons, List.drop_zero]
    rw [wpS_cut 1]
    simp only [List.take_succ_cons, List.take_zero, lsx, List.replicate, wps, List.length_cons, List.length_nil, Nat.zero_le, Nat.reduceAdd, Nat.reduceLeDiff]
    unfold hid
    simp only [List.drop_succ_cons, List.drop_zero]
    have F : Fr [w, r] h h4 := ((F1.trans F2).trans F3).trans F4
    have lw := A4.lt
    have ndp : (sortN hp).Nodup := (sortN_perm hp).nodup_iff.mpr hn
    have V' : Vl L (sortN hp) 1000000000 := V.mono (fun x m => (sortN_perm hp).mem_iff.mp m) (Int.le_refl _)
    have lsn := sortN_len hp
    have it : ∀ {h : Hd}, itD h (loreD L (sortN hp)) = some ⟨(sortN hp).map (rw4 L), [], false⟩ := fun {h} => itD_tup
    have A5 : WlAt (h4 ++ [Ob.lst []]) w r (b + 1500) := (A4.up (by omega)).fr (B := []) Fr.refl.app (by simp)
    have p5 : (h4 ++ [Ob.lst []])[h4.length]? = some (.lst (((sortN hp).take 0).map (rw4 L))) := app_last
    have F5 : Fr [w, r] h (h4 ++ [Ob.lst []]) := F.app
    have hlt : h.length ≤ h4.length := F.len
    generalize h4 ++ [Ob.lst []] = h5 at A5 p5 F5
    rw [wpS_cut 1]
    simp only [List.take_succ_cons, List.take_zero, lsx, List.replicate, wps, it]
    unfold hid
    simp only [List.drop_succ_cons, List.drop_zero]
    refine forL_at (rw4 L) (sortN hp) (fun i env h' => ∃ L' x5 x6 x7 x8, env = [some (.ref w), some (.int up), some (.lst (nm.map D.str)), some (loreD L (sortN hp)), some (.ref h4.length), x5, x6, x7, x8] ∧ (∀ x, L'.ca x = L.ca x ∧ L'.lo x = L.lo x) ∧ (∀ x ∈ sortN hp, 0 ≤ L'.ov x ∧ L'.ov x ≤ 23) ∧ h'[h4.length]? = some (.lst (((sortN hp).take i).map (rw4 L'))) ∧ WlAt h' w r (b + 1500 + i) ∧ Fr [w, r] h h') ?_ ?_ ⟨L, _, _, _, _, rfl, fun x => ⟨rfl, rfl⟩, fun x m => by have := V'.lb x m; omega, p5, A5, F5⟩
    · rintro env h' ⟨L', x5, x6, x7, x8, rfl, e1, e2, e3, e4, e5⟩
      refine ⟨srcOk_nil _, ?_⟩
      rw [List.take_length] at e3
      simp only [nxt_nx, lsx, wps, tup_ref e3]
      exact k L' (sortN hp) h' ⟨ndp, by omega, fun x m => ns x (hs x ((sortN_perm hp).mem_iff.mp m)), sortN_pw hp, V'.like e1 e2⟩ (e4.up (by omega)) e5
    · rintro i x env h' hi ⟨L', x5, x6, x7, x8, rfl, e1, e2, e3, e4, e5⟩
      obtain ⟨hi1, hi2⟩ := List.getElem?_eq_some_iff.mp hi
      have en : x = nth (sortN hp) i := by
        have := nth_at hi1
        rw [hi] at this
        exact Option.some.inj this
      have mx : x ∈ sortN hp := List.mem_of_getElem? hi
      have bx := V'.lb x mx
      refine ⟨srcOk_nil _, _, _, rfl, ?_⟩
      simp only [lsx, wps, asIns_lst e3, selM_app e3, BM.fn, bin_div (show (0 : Int) < 2 by decide) (by decide), bin_sub, max_min, List.length_cons, List.length_nil, Nat.zero_le, Nat.reduceAdd, Nat.reduceLeDiff]
      refine one_of_wp e4 (by omega) (by simp) (by simp) fun d h6 md A6 F6 L6 => ?_
      obtain ⟨v, rfl, v0, v1⟩ : ∃ v : Int, d = .int v ∧ 0 ≤ v ∧ v ≤ 23 := by
        simp only [List.mem_cons, List.not_mem_nil, or_false] at md
        rcases md with rfl | rfl | rfl | rfl | rfl
        · exact ⟨_, rfl, by omega, by omega⟩
        · exact ⟨_, rfl, by omega, by omega⟩
        · exact ⟨_, rfl, by omega, by omega⟩
        · exact ⟨_, rfl, by omega, by omega⟩
        · exact ⟨_, rfl, by omega, by omega⟩
      have p6 := F6.at_ _ _ e3 (by simp; omega)
      have ap := app_ref (y := .tup [.str x, .int (L.ca x), .int (L.lo x), .int v]) p6 (by rw [List.length_map, List.length_take, sizeLine_val]; omega)
      rw [en, take_put ndp hi1, ← en] at ap
      simp only [lsx, wps, List.length_cons, List.length_nil, Nat.zero_le, Nat.reduceAdd, Nat.reduceLeDiff, ap]
      exact ⟨_, _, _, _, _, rfl, put_like e1, put_ov e2 v0 v1, set_at p6, (A6.up (by omega)).fr (B := [h4.length]) (Fr.refl.set (by simp)) (by simp; omega), (e5.trans F6).setn hlt⟩
end Dk
end S_Q64_k37
end
section
set_option Elab.async false
set_option linter.all false
set_option maxRecDepth 100000
set_option maxHeartbeats 1000000
noncomputable section S_Q65_k37
namespace Dk
open PySem PySem.Spec PyProof.Rows L2
open Classical
/-! ### taking from below, in plain words -/
section
variable {L : Lo} {ns w left : List Str} {x y : Str}
def fre (L : Lo) (ns w left : List Str) : List Str := (left.filter (frB L ns left)).filter fun y => decide (y ∈ w)
theorem fre_sub : (fre L ns w left).Sublist left := List.filter_sublist.trans List.filter_sublist
theorem fre_mem : y ∈ fre L ns w left ↔ y ∈ left ∧ frB L ns left y = true ∧ y ∈ w := by
  unfold fre
  rw [List.mem_filter, List.mem_filter, decide_eq_true_iff, and_assoc]
def wo (left : List Str) (x : Str) : List Str := left.filter fun y => decide (y ≠ x)
theorem wo_lt (m : x ∈ left) : (wo left x).length < left.length := List.length_filter_lt_length_iff_exists.mpr ⟨x, m, by simp⟩
theorem wo_sub : (wo left x).Sublist left := List.filter_sublist
theorem wo_mem : y ∈ wo left x ↔ y ∈ left ∧ y ≠ x := by
  unfold wo
  rw [List.mem_filter, decide_eq_true_iff]
theorem wo_out (m : x ∉ left) : wo left x = left := List.filter_eq_self.mpr fun y my => decide_eq_true fun q => m (by rw [← q]; exact my)
def tkn (L : Lo) (ns w left : List Str) : List Str := match h : fre L ns w left with
  | [] => []
  | x :: _ => x :: tkn L ns w (wo left x)
termination_by left.length
decreasing_by exact wo_lt (fre_sub.subset (by rw [h]; exact List.mem_cons_self ..))
theorem tkn_nil (e : fre L ns w left = []) : tkn L ns w left = [] := by
  rw [tkn]
  split
  · rfl
  · next q => rw [e] at q; cases q
theorem tkn_cons {r : List Str} (e : fre L ns w left = x :: r) : tkn L ns w left = x :: tkn L ns w (wo left x) := by
  rw [tkn]
  split
  · next q => rw [e] at q; cases q
  · next q => rw [e] at q; cases q; rfl
def rst (L : Lo) (ns w left : List Str) : List Str := left.filter fun y => !decide (y ∈ tkn L ns w left)
theorem rst_nil (e : fre L ns w left = []) : rst L ns w left = left := by
  unfold rst
  rw [tkn_nil e]
  exact List.filter_eq_self.mpr fun y _ => by simp
theorem rst_cons {r : List Str} (e : fre L ns w left = x :: r) : rst L ns w left = rst L ns w (wo left x) := by
  unfold rst
  rw [tkn_cons e]
  unfold wo
  rw [List.filter_filter]
  refine List.filter_congr fun y _ => ?_
  rw [Bool.eq_iff_iff]
  simp only [List.mem_cons, Bool.not_eq_true', decide_eq_false_iff_not, not_or, Bool.and_eq_true, decide_eq_true_eq]
  exact ⟨fun z => ⟨z.2, z.1⟩, fun z => ⟨z.2, z.1⟩⟩
theorem rst_sub : (rst L ns w left).Sublist left := List.filter_sublist
theorem tkn_ind {P : List Str → Prop} (h0 : ∀ l, fre L ns w l = [] → P l) (h1 : ∀ l x r, fre L ns w l = x :: r → P (wo l x) → P l) : ∀ (n : Nat) (l : List Str), l.length = n → P l := by
  intro n
  induction n using Nat.strongRecOn with
  | ind n ih =>
    intro l e
    cases q : fre L ns w l with
    | nil => exact h0 l q
    | cons x r =>
      refine h1 l x r q (ih _ ?_ _ rfl)
      rw [← e]
      exact wo_lt (fre_sub.subset (by rw [q]; exact List.mem_cons_self ..))
theorem tkn_mem : ∀ y ∈ tkn L ns w left, y ∈ left ∧ y ∈ w := by
  refine tkn_ind (L := L) (ns := ns) (w := w) (P := fun left => ∀ y ∈ tkn L ns w left, y ∈ left ∧ y ∈ w) (fun l e y m => ?_) (fun l x r e ih y m => ?_) _ left rfl
  · rw [tkn_nil e] at m; cases m
  · rw [tkn_cons e] at m
    have mx : x ∈ fre L ns w l := by rw [e]; exact List.mem_cons_self ..
    rcases List.mem_cons.mp m with rfl | m
    · obtain ⟨a, _, c⟩ := fre_mem.mp mx
      exact ⟨a, c⟩
    · obtain ⟨a, c⟩ := ih y m
      exact ⟨wo_sub.subset a, c⟩
theorem rst_fre : fre L ns w (rst L ns w left) = [] := by
  refine tkn_ind (L := L) (ns := ns) (w := w) (P := fun left => fre L ns w (rst L ns w left) = []) (fun l e => ?_) (fun l x r e ih => ?_) _ left rfl
  · rw [rst_nil e]; exact e
  · rw [rst_cons e]; exact ih
/-- nobody of them is free -/
def Stk (L : Lo) (ns f : List Str) : Prop := f.filter (frB L ns f) = []
theorem Stk.fre {f : List Str} (s : Stk L ns f) : fre L ns w f = [] := by
  unfold Dk.fre
  rw [show f.filter (frB L ns f) = [] from s]
  rfl
theorem fre_all (k : ∀ y ∈ left, y ∈ w) : fre L ns w left = left.filter (frB L ns left) := List.filter_eq_self.mpr fun y m => decide_eq_true (k y (List.mem_filter.mp m).1)
theorem rst_stk (k : ∀ y ∈ left, y ∈ w) : Stk L ns (rst L ns w left) := by
  have e := rst_fre (L := L) (ns := ns) (w := w) (left := left)
  rw [fre_all fun y m => k y (rst_sub.subset m)] at e
  exact e
/-- the greatest stuck set in a lot -/
def lft (L : Lo) (ns l : List Str) : List Str := rst L ns l l
theorem lft_stk {l : List Str} : Stk L ns (lft L ns l) := rst_stk fun _ m => m
theorem lft_sub {l : List Str} : (lft L ns l).Sublist l := rst_sub
theorem Stk.lft {f : List Str} (s : Stk L ns f) : lft L ns f = f := rst_nil s.fre
end
section
variable {L : Lo} {ns : List Str} {h : Hd} {x : Str} {o : Nat}
/-! ### Counted -/
theorem tk_wp {left w : List Str} {wd : D} {Q : D → Hd → Prop} (hw : ∀ {h : Hd} {y : Str}, inD h (.str y) wd = some (decide (y ∈ w))) (z : left.length ≤ 500) (nd : ns.Nodup) (sub : ∀ y ∈ left, y ∈ ns) (e : h[o]? = some (.ins "Counted" (cfs L ns)))
    (k : ∀ h', Fr [] h h' → Q (.tup ((tkn L ns w left).map D.str)) h') : wp (m_Counted_taken [.ref o, .tup (left.map D.str), wd] h) Q := by
  refine wp_mF rfl ?_
  unfold f_Counted_taken
  have t : tb_Counted_taken "Counted" "free_in" = some (1, m_Counted_free_in) := by simp [tb_Counted_taken, addM]
  have e' : ∀ l : List D, (h ++ [Ob.lst l])[o]? = some (.ins "Counted" (cfs L ns)) := fun l => by
    rw [List.getElem?_append_left (List.getElem?_eq_some_iff.mp e).1]
    exact e
  have fr : ∀ (l : List D) (left : List Str), left.length ≤ 500 → (∀ y ∈ left, y ∈ ns) → ∀ x3 x4 x5 {R : Fl → Hd → Prop}, R (.nx [some (.ref o), some (.tup (left.map D.str)), some wd, x3, some (.lst ((fre L ns w left).map D.str)), x5]) (h ++ [.lst l]) →
      wpS (sAsg (gN 4) (lcX false false [5] (itX (mthX tb_Counted_taken "free_in" 1 (vX 0) (aList [(vX 1)]))) (gN 5) (tru (cmpX .In (vX 5) (vX 2))) (vX 5)) [some (.ref o), some (.tup (left.map D.str)), some wd, x3, x4, x5] (h ++ [.lst l])) R := by
    intro l left zl sub x3 x4 x5 R r
    simp only [lsx, wps, asIns_ob (e' l), t, cf_free_in, free_in_ok nd (e' l) (show left.length ≤ 1000 by omega) sub, itD_lst, wipeE]
    rw [lcGo_map D.str (fun y => decide (y ∈ w)) D.str (srcOk_nil _) _ fun y my => ⟨_, rfl, by simp only [lsx, wps, cmp_in, hw, tru_bl, and_self], fun _ => by simp only [lsx, wps, and_self]⟩]
    have l1 := List.length_filter_le (fun y => decide (y ∈ w)) (left.filter (frB L ns left))
    have l2 := List.length_filter_le (frB L ns left) left
    simp only [lsx, wps, List.length_map]
    exact ⟨by omega, r⟩
  rw [wpS_cut 1]
  simp only [List.take_succ_cons, List.take_zero, lsx, List.replicate, wps, List.length_nil, Nat.zero_le]
  unfold hid
  simp only [List.drop_succ_cons, List.drop_zero]
  rw [wpS_cons]
  refine fr [] left z sub _ _ _ ?_
  simp only [nxt_nx]
  rw [wpS_cons]
  refine whl_is (fun n env h' => ∃ l fd x5, n = l.length ∧ env = [some (.ref o), some (.tup (l.map D.str)), some wd, some (.ref h.length), some (.lst ((fre L ns w l).map D.str)), x5] ∧ h' = h ++ [.lst (fd.map D.str)] ∧ l.Sublist left ∧ fd ++ tkn L ns w l = tkn L ns w left ∧ fd.length + l.length ≤ left.length) ?_ (n := left.length) (by omega) ⟨left, [], none, rfl, rfl, rfl, List.Sublist.refl _, rfl, by simp⟩
  rintro n env h' ⟨l, fd, x5, rfl, rfl, rfl, sl, et, fl⟩
  have sl' := sl.length_le
  refine ⟨!(fre L ns w l).isEmpty, by simp only [lsx, wps, ne_nilL, tru_bl, List.length_nil, Nat.zero_le, List.isEmpty_map, and_self], fun hb => ?_, fun hb => ?_⟩
  rotate_left
  · have ef : fre L ns w l = [] := by simpa using hb
    rw [tkn_nil ef, List.append_nil] at et
    simp only [nxt_nx, lsx, wps, tup_ref app_last]
    rw [et]
    exact k _ Fr.refl.app
  · obtain ⟨v, r, ef⟩ : ∃ v r, fre L ns w l = v :: r := by
      cases q : fre L ns w l with
      | nil => rw [q] at hb; cases hb
      | cons v r => exact ⟨v, r, rfl⟩
    rw [ef]
    have mv : v ∈ l := fre_sub.subset (by rw [ef]; exact List.mem_cons_self ..)
    have ap := app_ref (y := .str v) (app_last (h := h) (o := .lst (fd.map D.str))) (by rw [List.length_map, sizeLine_val]; omega)
    have es : (h ++ [Ob.lst (fd.map D.str)]).set h.length (.lst (fd.map D.str ++ [.str v])) = h ++ [.lst ((fd ++ [v]).map D.str)] := by simp
    rw [es] at ap
    have wo1 := without_all_ok (h := h ++ [.lst ((fd ++ [v]).map D.str)]) (ys := l) (gone := [v]) (d := .lst [.str v]) (fun y => by rw [show ([D.str v] : List D) = [v].map D.str from rfl, in_lstS]) (by omega)
    have ew : (l.filter fun y => !decide (y ∈ [v])) = wo l v := List.filter_congr fun y _ => by simp
    rw [ew] at wo1
    rw [wpS_cut 2]
    simp only [List.take_succ_cons, List.take_zero, lsx, List.replicate, wps, asIns_lst app_last, selM_app app_last, BM.fn, idx_lst, atIs, opt, List.map_cons, ap, sl_lst, show (some (1 : Int)) = some ((1 : Nat) : Int) from rfl, cutD_take, wo1]
    unfold hid
    simp only [List.drop_succ_cons, List.drop_zero]
    rw [wpS_cons]
    have pl := wo_lt mv
    refine fr _ _ (by omega) (fun y m => sub y (sl.subset (wo_sub.subset m))) _ _ _ ?_
    simp only [nxt_nx, wpS_nil]
    refine ⟨_, pl, wo l v, fd ++ [v], _, rfl, rfl, rfl, wo_sub.trans sl, ?_, by rw [List.length_append, List.length_singleton]; omega⟩
    rw [← et, tkn_cons ef, List.append_assoc]
    rfl
theorem left_of_wp {lot : List Str} {Q : D → Hd → Prop} (z : lot.length ≤ 500) (nd : ns.Nodup) (sub : ∀ y ∈ lot, y ∈ ns) (e : h[o]? = some (.ins "Counted" (cfs L ns)))
    (k : ∀ h', Fr [] h h' → Q (.tup ((lft L ns lot).map D.str)) h') : wp (m_Counted_left_of [.ref o, .tup (lot.map D.str)] h) Q := by
  refine wp_mF rfl ?_
  unfold f_Counted_left_of
  have t2 : tb_Counted_left_of "Counted" "taken" = some (2, m_Counted_taken) := by simp [tb_Counted_left_of, addM]
  simp only [lsx, List.replicate, wps, asIns_ob e, t2, cf_taken]
  refine tk_wp in_tupS z nd sub e fun h2 F2 => ?_
  rw [without_all_ok (h := h2) (ys := lot) (gone := tkn L ns lot lot) (fun y => in_tupS) (by omega)]
  simp only [wps]
  exact k h2 F2
theorem stk_wp {Q : D → Hd → Prop} (z : ns.length ≤ 500) (nd : ns.Nodup) (k : ∀ h', Fr [] h h' → Q (.tup ((lft L ns ns).map D.str)) h') : wp (m_stuck [loreD L ns] h) Q := by
  refine wp_mF rfl ?_
  unfold f_stuck
  have t1 : tb_stuck "Counted" "left_of" = some (1, m_Counted_left_of) := by simp [tb_stuck, addM]
  have o1 : (h ++ [Ob.ins "Counted" (cfs L ns)])[h.length]? = some (.ins "Counted" (cfs L ns)) := app_last
  have F : Fr [] h (h ++ [Ob.ins "Counted" (cfs L ns)]) := Fr.refl.app
  simp only [lsx, List.replicate, wps, counted_ok (L := L) (h := h) (by omega) nd, asIns_ob o1, t1, cf_left_of, here_ok (show ns.length ≤ 1000 by omega)]
  generalize h ++ [Ob.ins "Counted" (cfs L ns)] = h1 at o1 F
  refine left_of_wp z nd (fun _ m => m) o1 fun h2 F2 => ?_
  exact k h2 (F.trans F2)
end
end Dk
end S_Q65_k37
end
section
set_option Elab.async false
set_option linter.all false
set_option maxRecDepth 100000
set_option maxHeartbeats 1000000
noncomputable section S_Q66_k37
namespace Dk
open PySem PySem.Spec PyProof.Rows L2
open Classical
section
variable {L : Lo} {ns : List Str} {h : Hd} {x : Str} {a b : Nat}
/-! ### the law's table -/
def TbAt (h : Hd) (a b : Nat) (L : Lo) (ns : List Str) : Prop := h[a]? = some (.dct (AH L ns)) ∧ h[b]? = some (.dct (CO L ns))
theorem TbAt.fr {h' : Hd} {B : List Nat} (T : TbAt h a b L ns) (F : Fr B h h') (k : ∀ k ∈ [a, b], k ∉ B) : TbAt h' a b L ns := ⟨F.at_ _ _ T.1 (k _ (by simp)), F.at_ _ _ T.2 (k _ (by simp))⟩
def tabD (a b : Nat) : D := .lst [.ref a, .ref b]
theorem ah_atR (T : TbAt h a b L ns) (nd : ns.Nodup) (m : x ∈ ns) : idxD h (.ref a) (.str x) = some (.v (.dct (mergeD [] ((eld L ns x).map fun y => ((.inr y : Key), D.bl true))))) := by
  have := ah_at (L := L) nd m (h := h)
  have e : idxD h (.ref a) (.str x) = idxD h (.dct (AH L ns)) (.str x) := by simp [idxD, asK, T.1]
  rw [e]
  exact this
theorem co_atR (T : TbAt h a b L ns) (nd : ns.Nodup) (m : x ∈ ns) : idxD h (.ref b) (.str x) = some (.v (.int (L.ov x))) := by
  have := co_at (L := L) nd m (h := h)
  have e : idxD h (.ref b) (.str x) = idxD h (.dct (CO L ns)) (.str x) := by simp [idxD, asK, T.2]
  rw [e]
  exact this
theorem tab0 : idxD h (tabD a b) (.int 0) = some (.v (.ref a)) := rfl
theorem tab1 : idxD h (tabD a b) (.int 1) = some (.v (.ref b)) := rfl
theorem merge_snoc {l : List (Key × D)} {k : Key} {v : D} : putD (mergeD [] l) k v = mergeD [] (l ++ [(k, v)]) := by
  unfold mergeD
  rw [List.foldl_append]
  rfl
theorem putD_len {kvs : List (Key × D)} {k : Key} {v : D} : (putD kvs k v).length ≤ kvs.length + 1 := by
  induction kvs with
  | nil => simp [putD]
  | cons p l ih =>
    obtain ⟨k', v'⟩ := p
    unfold putD
    split <;> simp <;> omega
theorem merge_len (l : List (Key × D)) : (mergeD [] l).length ≤ l.length := by
  have key : ∀ (l acc : List (Key × D)), (mergeD acc l).length ≤ acc.length + l.length := fun l => by
    induction l with
    | nil => intro acc; simp [mergeD]
    | cons p l ih =>
      intro acc
      have := ih (putD acc p.1 p.2)
      have := putD_len (kvs := acc) (k := p.1) (v := p.2)
      show (mergeD (putD acc p.1 p.2) l).length ≤ _
      rw [List.length_cons]
      omega
  have := key l []
  simpa using this
theorem table_wp {Q : D → Hd → Prop} (z : ns.length ≤ 500) (nd : ns.Nodup) (k : ∀ a b h', TbAt h' a b L ns → Fr [] h h' → h.length ≤ a → h.length ≤ b → Q (tabD a b) h') : wp (m__law_table [loreD L ns] h) Q := by
  refine wp_mF rfl ?_
  unfold f__law_table
  rw [wpS_cut 1]
  simp only [List.take_succ_cons, List.take_zero, lsx, List.replicate, wps, List.length_append, List.length_cons, List.length_nil, Nat.zero_le, Nat.reduceAdd, Nat.reduceLeDiff, Nat.zero_add]
  unfold hid
  simp only [List.drop_succ_cons, List.drop_zero]
  have it : ∀ {h : Hd}, itD h (loreD L ns) = some ⟨ns.map (rw4 L), [], false⟩ := fun {h} => itD_tup
  rw [wpS_cut 1]
  simp only [List.take_succ_cons, List.take_zero, lsx, List.replicate, wps, it]
  unfold hid
  simp only [List.drop_succ_cons, List.drop_zero]
  have nb : h.length ≠ h.length + 1 := by omega
  refine forL_at (rw4 L) ns (fun i env h' => ∃ x3 x4 x5 x6 x7, env = [some (loreD L ns), some (.ref h.length), some (.ref (h.length + 1)), x3, x4, x5, x6, x7] ∧ h'[h.length]? = some (.dct (mergeD [] ((ns.take i).map fun x => ((.inr x : Key), D.dct (mergeD [] ((eld L ns x).map fun y => ((.inr y : Key), D.bl true))))))) ∧ h'[h.length + 1]? = some (.dct (mergeD [] ((ns.take i).map fun x => ((.inr x : Key), D.int (L.ov x))))) ∧ Fr [] h h') ?_ ?_ ?_
  · rintro env h' ⟨x3, x4, x5, x6, x7, rfl, e1, e2, F⟩
    refine ⟨srcOk_nil _, ?_⟩
    rw [List.take_length] at e1 e2
    simp only [nxt_nx, lsx, wps, List.length_cons, List.length_nil, Nat.zero_le, Nat.reduceAdd, Nat.reduceLeDiff]
    exact k _ _ h' ⟨e1, e2⟩ F (by omega) (by omega)
  · rintro i x env h' hi ⟨x3, x4, x5, x6, x7, rfl, e1, e2, F⟩
    obtain ⟨hi1, hi2⟩ := List.getElem?_eq_some_iff.mp hi
    refine ⟨srcOk_nil _, _, _, rfl, ?_⟩
    have et : ns.take (i + 1) = ns.take i ++ [x] := by
      rw [List.take_add_one, hi]
      rfl
    have tl : (ns.take i).length ≤ 500 := by rw [List.length_take]; omega
    have zl1 : (mergeD [] ((ns.take i).map fun x => ((.inr x : Key), D.dct (mergeD [] ((eld L ns x).map fun y => ((.inr y : Key), D.bl true)))))).length < sizeLine := by
      have := merge_len ((ns.take i).map fun x => ((.inr x : Key), D.dct (mergeD [] ((eld L ns x).map fun y => ((.inr y : Key), D.bl true)))))
      rw [List.length_map] at this
      rw [sizeLine_val]
      omega
    have zl2 : (mergeD [] ((ns.take i).map fun x => ((.inr x : Key), D.int (L.ov x)))).length < sizeLine := by
      have := merge_len ((ns.take i).map fun x => ((.inr x : Key), D.int (L.ov x)))
      rw [List.length_map] at this
      rw [sizeLine_val]
      omega
    have le := List.length_filter_le (fun y => !(y == x) && decide (L.ca y < L.lo x)) ns
    have zf : ((ns.filter fun y => !(y == x) && decide (L.ca y < L.lo x)).map fun y => D.tup [.str y, .bl true]).length ≤ 16777216 := by rw [List.length_map]; omega
    rw [wpS_cut 1]
    simp only [List.take_succ_cons, List.take_zero, lsx, List.replicate, wps, it, wipeE]
    rw [lcGo_map (rw4 L) (fun y => !(y == x) && decide (L.ca y < L.lo x)) (fun y => D.tup [.str y, .bl true]) (srcOk_nil h') ns fun y my => ⟨_, rfl, by
      have i0 : idxD h' (rw4 L y) (.int 0) = some (.v (.str y)) := rfl
      have i1 : idxD h' (rw4 L y) (.int 1) = some (.v (.int (L.ca y))) := rfl
      cases h1 : decide (L.ca y < L.lo x) <;> cases h3 : (y == x) <;> simp only [bAndT, wps, lsx, i0, i1, cmps, eqs, opt, h1, h3, Bool.not_true, Bool.not_false, Bool.and_true, Bool.and_false, Bool.true_and, Bool.false_and, and_self], fun _ => by
      have i0 : idxD h' (rw4 L y) (.int 0) = some (.v (.str y)) := rfl
      simp only [wps, lsx, i0, List.length_cons, List.length_nil, Nat.zero_le, Nat.reduceAdd, Nat.reduceLeDiff, and_self]⟩]
    have dp := dct_pairs (f := fun y : Str => y) (g := fun _ => D.bl true) (h := h') (l := ns.filter fun y => !(y == x) && decide (L.ca y < L.lo x)) (.inr rfl)
    have s1 := sto_dct (x := x) (y := .dct (mergeD [] ((eld L ns x).map fun y => ((.inr y : Key), D.bl true)))) e1 zl1
    rw [merge_snoc, show ((ns.take i).map fun x => ((.inr x : Key), D.dct (mergeD [] ((eld L ns x).map fun y => ((.inr y : Key), D.bl true))))) ++ [((.inr x : Key), D.dct (mergeD [] ((eld L ns x).map fun y => ((.inr y : Key), D.bl true))))] = ((ns.take (i + 1)).map fun x => ((.inr x : Key), D.dct (mergeD [] ((eld L ns x).map fun y => ((.inr y : Key), D.bl true))))) by rw [et, List.map_append]; rfl] at s1
    have s1' := s1
    unfold eld at s1
    simp only [lsx, wps, zf, dp, s1]
    unfold hid
    simp only [List.drop_succ_cons, List.drop_zero]
    have q1 := set_at (o := .dct (mergeD [] ((ns.take (i + 1)).map fun x => ((.inr x : Key), D.dct (mergeD [] ((eld L ns x).map fun y => ((.inr y : Key), D.bl true))))))) e1
    have q2 : (h'.set h.length (.dct (mergeD [] ((ns.take (i + 1)).map fun x => ((.inr x : Key), D.dct (mergeD [] ((eld L ns x).map fun y => ((.inr y : Key), D.bl true))))))))[h.length + 1]? = some (.dct (mergeD [] ((ns.take i).map fun x => ((.inr x : Key), D.int (L.ov x))))) := by rw [set_out nb]; exact e2
    have F2 : Fr [] h (h'.set h.length (.dct (mergeD [] ((ns.take (i + 1)).map fun x => ((.inr x : Key), D.dct (mergeD [] ((eld L ns x).map fun y => ((.inr y : Key), D.bl true)))))))) := F.setn (by omega)
    unfold eld at q1 q2 F2
    generalize h'.set h.length _ = h2 at q1 q2 F2
    have s2 := sto_dct (x := x) (y := .int (L.ov x)) q2 zl2
    rw [merge_snoc, show ((ns.take i).map fun x => ((.inr x : Key), D.int (L.ov x))) ++ [((.inr x : Key), D.int (L.ov x))] = ((ns.take (i + 1)).map fun x => ((.inr x : Key), D.int (L.ov x))) by rw [et, List.map_append]; rfl] at s2
    simp only [lsx, wps, s2]
    exact ⟨_, _, _, _, _, rfl, by rw [set_out (Ne.symm nb)]; exact q1, set_at q2, F2.setn (by omega)⟩
  · refine ⟨_, _, _, _, _, rfl, by simp [List.getElem?_append, mergeD], by simp [List.getElem?_append, mergeD], Fr.refl.app.app⟩
theorem over_it_ok {ys : List Str} {d : D} {src : List (Nat × Ob)} (T : TbAt h a b L ns) (nd : ns.Nodup) (it : itD h d = some ⟨ys.map D.str, src, false⟩) (ok : srcOk src h) (zy : ys.length ≤ 1000) (m : x ∈ ns) : m__law_over_it [tabD a b, d, .str x] h = .ok (.int ((ys.filter fun y => decide (y ∈ eld L ns x)).length : Nat)) h := by
  refine wp_is (wp_mF rfl ?_)
  unfold f__law_over_it
  simp only [lsx, List.replicate, wps, it, wipeE]
  rw [lcGo_map D.str (fun y => decide (y ∈ eld L ns x)) D.str ok ys fun y my => ⟨_, rfl, by simp only [wps, lsx, tab0, ah_atR T nd m, cmp_in, in_eld nd, tru_bl, and_self], fun _ => by simp only [wps, lsx, and_self]⟩]
  have := List.length_filter_le (fun y => decide (y ∈ eld L ns x)) ys
  have zf : ((ys.filter fun y => decide (y ∈ eld L ns x)).map D.str).length ≤ 16777216 := by rw [List.length_map]; omega
  simp only [wps, zf, len_lst]
  rw [List.length_map]
  exact ⟨rfl, trivial⟩
theorem lfree_ok {ys : List Str} {d : D} {src : List (Nat × Ob)} (T : TbAt h a b L ns) (nd : ns.Nodup) (it : itD h d = some ⟨ys.map D.str, src, false⟩) (ok : srcOk src h) (zy : ys.length ≤ 1000) (sub : ∀ y ∈ ys, y ∈ ns) : m__law_free [tabD a b, d] h = .ok (.lst ((ys.filter (frB L ns ys)).map D.str)) h := by
  refine wp_is (wp_mF rfl ?_)
  unfold f__law_free
  simp only [lsx, List.replicate, wps, it, wipeE]
  rw [lcGo_map D.str (frB L ns ys) D.str ok ys fun y my => ⟨_, rfl, by simp only [wps, lsx, tab1, over_it_ok T nd it ok zy (sub y my), co_atR T nd (sub y my), cmp_le, tru_bl, and_true]; rfl, fun _ => by simp only [wps, lsx, and_self]⟩]
  have := List.length_filter_le (frB L ns ys) ys
  have zf : ((ys.filter (frB L ns ys)).map D.str).length ≤ 16777216 := by rw [List.length_map]; omega
  simp only [wps, zf, and_self]
theorem strsD_mapS : ∀ (ys : List Str), strsD (ys.map D.str) = some ys
  | [] => rfl
  | y :: ys => by
    rw [List.map_cons]
    unfold strsD
    rw [strsD_mapS ys]
    rfl
theorem min_head {r : List Str} (pw : (x :: r).Pairwise fun a b => leS a b = true) : minD h [.lst ((x :: r).map D.str)] = some (.v (.str x)) := by
  have si : intsD ((x :: r).map D.str) = none := rfl
  have ss : strsD ((x :: r).map D.str) = some (x :: r) := strsD_mapS _
  have ea : asL h (.lst ((x :: r).map D.str)) = some ((x :: r).map D.str) := rfl
  have key : ∀ k, k < (x :: r).length → minTo (atS (x :: r)) k = x := fun k => by
    induction k with
    | zero => intro _; rfl
    | succ k ih =>
      intro hk
      unfold minTo
      rw [ih (by omega)]
      have e : atS (x :: r) (k + 1) = r[k]'(by simpa using hk) := by
        unfold atS
        rw [List.getElem?_cons_succ, List.getElem?_eq_getElem (by simpa using hk)]
        rfl
      have := (List.pairwise_cons.mp pw).1 (r[k]'(by simpa using hk)) (List.getElem_mem _)
      rw [leS_lt] at this
      rw [e, if_neg (by simpa using this)]
  unfold minD
  simp only [ea, si, ss]
  rw [if_pos (by simp), key _ (by simp)]
theorem gone_wp {ys w : List Str} {d wd : D} {Q : D → Hd → Prop} (T : TbAt h a b L ns) (nd : ns.Nodup) (pw : ns.Pairwise fun a b => leS a b = true) (hd : lstD h [d] = some (.l (ys.map D.str))) (hw : ∀ {h : Hd} {y : Str}, inD h (.str y) wd = some (decide (y ∈ w))) (z : ys.length ≤ 500) (sub : ys.Sublist ns)
    (k : ∀ h', Fr [] h h' → Q (.lst [.tup ((tkn L ns w ys).map D.str), .tup ((rst L ns w ys).map D.str)]) h') : wp (m__law_gone_through [tabD a b, d, wd] h) Q := by
  refine wp_mF rfl ?_
  unfold f__law_gone_through
  have al := (List.getElem?_eq_some_iff.mp T.1).1
  have bl := (List.getElem?_eq_some_iff.mp T.2).1
  have nb : h.length ≠ h.length + 1 := by omega
  have fr : ∀ (h1 : Hd) (l : List Str), l.length ≤ 500 → l.Sublist ns → TbAt h1 a b L ns → h1[h.length]? = some (.lst (l.map D.str)) → ∀ x5 x6 {R : Fl → Hd → Prop}, R (.nx [some (tabD a b), some d, some wd, some (.ref h.length), some (.ref (h.length + 1)), some (.lst ((fre L ns w l).map D.str)), x6]) h1 →
      wpS (sAsg (gN 5) (lcX false false [6] (itX (callX m__law_free (aList [(vX 0), (vX 3)]))) (gN 6) (tru (cmpX .In (vX 6) (vX 2))) (vX 6)) [some (tabD a b), some d, some wd, some (.ref h.length), some (.ref (h.length + 1)), x5, x6] h1) R := by
    intro h1 l zl sub T1 p1 x5 x6 R r
    simp only [lsx, wps, lfree_ok T1 nd (itD_ref p1) (show srcOk [(h.length, Ob.lst (l.map D.str))] h1 by intro p m; rw [List.mem_singleton.mp m]; exact p1) (show l.length ≤ 1000 by omega) (fun y m => sub.subset m), itD_lst, wipeE]
    rw [lcGo_map D.str (fun y => decide (y ∈ w)) D.str (srcOk_nil _) _ fun y my => ⟨_, rfl, by simp only [lsx, wps, cmp_in, hw, tru_bl, and_self], fun _ => by simp only [lsx, wps, and_self]⟩]
    have l1 := List.length_filter_le (fun y => decide (y ∈ w)) (l.filter (frB L ns l))
    have l2 := List.length_filter_le (frB L ns l) l
    simp only [lsx, wps, List.length_map]
    exact ⟨by omega, r⟩
  rw [wpS_cut 2]
  simp only [List.take_succ_cons, List.take_zero, lsx, List.replicate, wps, hd, List.length_append, List.length_cons, List.length_nil, Nat.zero_le, Nat.reduceAdd, Nat.reduceLeDiff, Nat.zero_add]
  unfold hid
  simp only [List.drop_succ_cons, List.drop_zero]
  have T1 : TbAt (h ++ [Ob.lst (ys.map D.str)] ++ [.lst []]) a b L ns := T.fr (B := []) Fr.refl.app.app (by simp)
  have p1 : (h ++ [Ob.lst (ys.map D.str)] ++ [.lst []])[h.length]? = some (.lst (ys.map D.str)) := by simp [List.getElem?_append]
  have p2 : (h ++ [Ob.lst (ys.map D.str)] ++ [.lst []])[h.length + 1]? = some (.lst (([] : List Str).map D.str)) := by simp [List.getElem?_append]
  have F1 : Fr [] h (h ++ [Ob.lst (ys.map D.str)] ++ [.lst []]) := Fr.refl.app.app
  generalize h ++ [Ob.lst (ys.map D.str)] ++ [.lst []] = h1 at T1 p1 p2 F1
  rw [wpS_cons]
  refine fr h1 ys z sub T1 p1 _ _ ?_
  simp only [nxt_nx]
  rw [wpS_cons]
  refine whl_is (fun n env h' => ∃ l fd x6, n = l.length ∧ env = [some (tabD a b), some d, some wd, some (.ref h.length), some (.ref (h.length + 1)), some (.lst ((fre L ns w l).map D.str)), x6] ∧ TbAt h' a b L ns ∧ h'[h.length]? = some (.lst (l.map D.str)) ∧ h'[h.length + 1]? = some (.lst (fd.map D.str)) ∧ Fr [] h h' ∧ l.Sublist ys ∧ fd ++ tkn L ns w l = tkn L ns w ys ∧ rst L ns w l = rst L ns w ys ∧ fd.length + l.length ≤ ys.length) ?_ (n := ys.length) (by omega) ⟨ys, [], none, rfl, rfl, T1, p1, p2, F1, List.Sublist.refl _, rfl, rfl, by simp⟩
  rintro n env h' ⟨l, fd, x6, rfl, rfl, T', q1, q2, F', sl, et, er, fl⟩
  have sl' := sl.length_le
  refine ⟨!(fre L ns w l).isEmpty, by simp only [lsx, wps, ne_nilL, tru_bl, List.length_nil, Nat.zero_le, List.isEmpty_map, and_self], fun hb => ?_, fun hb => ?_⟩
  rotate_left
  · have ef : fre L ns w l = [] := by simpa using hb
    rw [tkn_nil ef, List.append_nil] at et
    rw [rst_nil ef] at er
    simp only [nxt_nx, lsx, wps, tup_ref q1, tup_ref q2, List.length_cons, List.length_nil, Nat.zero_le, Nat.reduceAdd, Nat.reduceLeDiff]
    rw [et, er]
    exact k _ F'
  · obtain ⟨v, r, ef⟩ : ∃ v r, fre L ns w l = v :: r := by
      cases q : fre L ns w l with
      | nil => rw [q] at hb; cases hb
      | cons v r => exact ⟨v, r, rfl⟩
    have mv : v ∈ l := fre_sub.subset (by rw [ef]; exact List.mem_cons_self ..)
    have pv : (v :: r).Pairwise fun a b => leS a b = true := by
      rw [← ef]
      exact (pw.sublist sub).sublist (fre_sub.trans sl)
    have ndl : l.Nodup := nd.sublist (sl.trans sub)
    rw [ef]
    have ap := app_ref (y := .str v) q2 (by rw [List.length_map, sizeLine_val]; omega)
    have es : fd.map D.str ++ [.str v] = (fd ++ [v]).map D.str := by simp
    rw [es] at ap
    rw [wpS_cut 1]
    simp only [List.take_succ_cons, List.take_zero, lsx, List.replicate, wps, min_head pv, asIns_lst q2, selM_app q2, BM.fn, ap]
    unfold hid
    simp only [List.drop_succ_cons, List.drop_zero]
    have r1 : (h'.set (h.length + 1) (.lst ((fd ++ [v]).map D.str)))[h.length]? = some (.lst (l.map D.str)) := by rw [set_out (Ne.symm nb)]; exact q1
    have r2 : (h'.set (h.length + 1) (.lst ((fd ++ [v]).map D.str)))[h.length + 1]? = some (.lst ((fd ++ [v]).map D.str)) := set_at q2
    have r3 : TbAt (h'.set (h.length + 1) (.lst ((fd ++ [v]).map D.str))) a b L ns := T'.fr (B := [h.length + 1]) (Fr.refl.set (by simp)) (by simp; omega)
    have r4 : Fr [] h (h'.set (h.length + 1) (.lst ((fd ++ [v]).map D.str))) := F'.setn (by omega)
    generalize h'.set (h.length + 1) (.lst ((fd ++ [v]).map D.str)) = h2 at r1 r2 r3 r4
    have il : idxD h2 (.ref (h.length + 1)) (.int (-1)) = some (.v (.str v)) := by
      rw [idx_ref r2]
      have : atI ((fd ++ [v]).map D.str) (-1) = some (.str v) := by
        rw [List.map_append]
        exact atI_last _ _
      rw [this]
      rfl
    have rm := rem_strs r1 mv
    rw [erase_filter ndl] at rm
    rw [wpS_cut 1]
    simp only [List.take_succ_cons, List.take_zero, lsx, List.replicate, wps, asIns_lst r1, selM_rem r1, BM.fn, il, rm]
    unfold hid
    simp only [List.drop_succ_cons, List.drop_zero]
    rw [wpS_cons]
    have pl := wo_lt mv
    have s1 : (h2.set h.length (.lst ((wo l v).map D.str)))[h.length]? = some (.lst ((wo l v).map D.str)) := set_at r1
    refine fr _ (wo l v) (by omega) (wo_sub.trans (sl.trans sub)) (r3.fr (B := [h.length]) (Fr.refl.set (by simp)) (by simp; omega)) s1 _ _ ?_
    simp only [nxt_nx, wpS_nil]
    refine ⟨_, pl, wo l v, fd ++ [v], _, rfl, rfl, r3.fr (B := [h.length]) (Fr.refl.set (by simp)) (by simp; omega), s1, by rw [set_out nb]; exact r2, r4.setn (by omega), wo_sub.trans sl, ?_, ?_, by rw [List.length_append, List.length_singleton]; omega⟩
    · rw [← et, tkn_cons ef, List.append_assoc]
      rfl
    · rw [← er, rst_cons ef]
theorem lhere_ok (z : ns.length ≤ 1000) : m__law_here [loreD L ns] h = .ok (.lst (ns.map D.str)) h := by
  refine wp_is (wp_mF rfl ?_)
  unfold f__law_here
  have it : itD h (loreD L ns) = some ⟨ns.map (rw4 L), [], false⟩ := itD_tup
  simp only [lsx, List.replicate, wps, it, wipeE]
  rw [lcGo_all (rw4 L) D.str (srcOk_nil h) ns fun y my => ⟨_, rfl, by
    have i0 : idxD h (rw4 L y) (.int 0) = some (.v (.str y)) := rfl
    simp only [wps, lsx, i0, and_self]⟩]
  have zf : (ns.map D.str).length ≤ 16777216 := by rw [List.length_map]; omega
  simp only [wps, zf, and_self]
end
end Dk
end S_Q66_k37
end
section
set_option Elab.async false
set_option linter.all false
set_option maxRecDepth 100000
set_option maxHeartbeats 1000000
noncomputable section S_Q67_k37
namespace Dk
open PySem PySem.Spec PyProof.Rows L2
open Classical
section
variable {L : Lo} {ns f f0 : List Str} {h : Hd} {x : Str} {a b : Nat}
/-! ### cores -/
theorem wo_eq {l : List Str} : (l.filter fun y => !(y == x)) = wo l x := List.filter_congr fun y _ => by
  rw [Bool.eq_iff_iff]
  simp
theorem wo_in {l : List Str} : (l.filter fun y => !decide (y ∈ [x])) = wo l x := List.filter_congr fun y _ => by simp
def cstep (L : Lo) (ns f : List Str) (x : Str) : List Str := if (lft L ns (wo f x)).isEmpty = true then f else lft L ns (wo f x)
def cstep' (L : Lo) (ns f : List Str) (x : Str) : List Str := if x ∈ f ∧ (lft L ns (wo f x)).isEmpty = false then lft L ns (wo f x) else f
theorem cstep_sub : (cstep L ns f x).Sublist f := by
  unfold cstep
  split
  · exact List.Sublist.refl _
  · exact lft_sub.trans wo_sub
theorem fold_sub : ∀ (xs f : List Str), (xs.foldl (cstep L ns) f).Sublist f
  | [], _ => List.Sublist.refl _
  | x :: xs, f => (fold_sub xs (cstep L ns f x)).trans cstep_sub
theorem cstep_stk (s : Stk L ns f) : Stk L ns (cstep L ns f x) := by
  unfold cstep
  split
  · exact s
  · exact lft_stk
theorem fold_stk : ∀ (xs f : List Str), Stk L ns f → Stk L ns (xs.foldl (cstep L ns) f)
  | [], _, s => s
  | x :: xs, f, s => fold_stk xs (cstep L ns f x) (cstep_stk s)
theorem cstep_is (s : Stk L ns f) : cstep' L ns f x = cstep L ns f x := by
  unfold cstep' cstep
  by_cases m : x ∈ f
  · cases q : (lft L ns (wo f x)).isEmpty with
    | true => simp
    | false => simp [m]
  · rw [wo_out m, s.lft, if_neg fun z => m z.1]
    split <;> rfl
theorem fold_is : ∀ (xs f : List Str), Stk L ns f → (∀ y ∈ f, y ∈ f0) → xs.foldl (cstep' L ns) f = (xs.filter fun y => decide (y ∈ f0)).foldl (cstep L ns) f
  | [], _, _, _ => rfl
  | x :: xs, f, s, k => by
    rw [List.foldl_cons, cstep_is s]
    have r := fold_is xs (cstep L ns f x) (cstep_stk s) fun y m => k y (cstep_sub.subset m)
    rw [r]
    by_cases m : x ∈ f0
    · rw [List.filter_cons_of_pos (by simpa using m), List.foldl_cons]
    · have nm : x ∉ f := fun z => m (k x z)
      have e : cstep L ns f x = f := by
        unfold cstep
        rw [wo_out nm, s.lft]
        split <;> rfl
      rw [List.filter_cons_of_neg (by simpa using m), e]
def crn (L : Lo) (ns : List Str) : List Str := (lft L ns ns).foldl (cstep L ns) (lft L ns ns)
theorem crn_is (nd : ns.Nodup) : ns.foldl (cstep' L ns) (lft L ns ns) = crn L ns := by
  rw [fold_is (f0 := lft L ns ns) _ _ lft_stk fun _ m => m, sub_filter lft_sub nd]
  rfl
theorem crn_sub : (crn L ns).Sublist ns := (fold_sub _ _).trans lft_sub
theorem core_wp {Q : D → Hd → Prop} (z : ns.length ≤ 500) (nd : ns.Nodup) (k : ∀ h', Fr [] h h' → Q (.tup ((crn L ns).map D.str)) h') : wp (m_core [loreD L ns] h) Q := by
  refine wp_mF rfl ?_
  unfold f_core
  have t1 : tb_core "Counted" "left_of" = some (1, m_Counted_left_of) := by simp [tb_core, addM]
  have o1 : (h ++ [Ob.ins "Counted" (cfs L ns)])[h.length]? = some (.ins "Counted" (cfs L ns)) := app_last
  have F : Fr [] h (h ++ [Ob.ins "Counted" (cfs L ns)]) := Fr.refl.app
  rw [wpS_cut 1]
  simp only [List.take_succ_cons, List.take_zero, lsx, List.replicate, wps, counted_ok (L := L) (h := h) (show ns.length ≤ 1000 by omega) nd]
  unfold hid
  simp only [List.drop_succ_cons, List.drop_zero]
  generalize h ++ [Ob.ins "Counted" (cfs L ns)] = h1 at o1 F
  rw [wpS_cut 1]
  simp only [List.take_succ_cons, List.take_zero, lsx, List.replicate, wps]
  refine stk_wp z nd fun h2 F2 => ?_
  unfold hid
  simp only [List.drop_succ_cons, List.drop_zero]
  have o2 := F2.at_ _ _ o1 (by simp)
  rw [wpS_cut 1]
  simp only [List.take_succ_cons, List.take_zero, lsx, List.replicate, wps, itD_tup]
  unfold hid
  simp only [List.drop_succ_cons, List.drop_zero]
  have ls := lft_sub (L := L) (ns := ns) (l := ns)
  refine forL_at D.str (lft L ns ns) (fun i env h' => ∃ f x3 x4, env = [some (loreD L ns), some (.ref h.length), some (.tup (f.map D.str)), x3, x4] ∧ f = ((lft L ns ns).take i).foldl (cstep L ns) (lft L ns ns) ∧ h'[h.length]? = some (.ins "Counted" (cfs L ns)) ∧ Fr [] h h') ?_ ?_ ⟨_, _, _, rfl, rfl, o2, F.trans F2⟩
  · rintro env h' ⟨f, x3, x4, rfl, ef, o3, F3⟩
    refine ⟨srcOk_nil _, ?_⟩
    rw [List.take_length] at ef
    simp only [nxt_nx, lsx, wps]
    rw [ef]
    exact k h' F3
  · rintro i x env h' hi ⟨f, x3, x4, rfl, ef, o3, F3⟩
    refine ⟨srcOk_nil _, _, _, rfl, ?_⟩
    have sf : f.Sublist ns := by rw [ef]; exact (fold_sub _ _).trans ls
    have lf := sf.length_le
    have w1 := without_all_ok (h := h') (ys := f) (gone := [x]) (d := .tup [.str x]) (fun y => by rw [show ([D.str x] : List D) = [x].map D.str from rfl, in_tupS]) (by omega)
    rw [wo_in] at w1
    have lw := (wo_sub (left := f) (x := x)).length_le
    rw [wpS_cut 1]
    simp only [List.take_succ_cons, List.take_zero, lsx, List.replicate, wps, asIns_ob o3, t1, cf_left_of, List.length_cons, List.length_nil, Nat.zero_le, Nat.reduceAdd, Nat.reduceLeDiff, w1]
    refine left_of_wp (by omega) nd (fun y m => sf.subset (wo_sub.subset m)) o3 fun h4 F4 => ?_
    unfold hid
    simp only [List.drop_succ_cons, List.drop_zero]
    have et : ((lft L ns ns).take (i + 1)).foldl (cstep L ns) (lft L ns ns) = cstep L ns f x := by
      rw [List.take_add_one, hi, List.foldl_append, ← ef]
      rfl
    simp only [lsx, wps, ne_nilT, List.isEmpty_map, tru_bl, List.length_cons, List.length_nil, Nat.zero_le, Nat.reduceAdd, Nat.reduceLeDiff]
    cases q : (lft L ns (wo f x)).isEmpty with
    | true =>
      simp only [Bool.not_true, lsx, wps]
      exact ⟨f, _, _, rfl, by rw [et, cstep, if_pos q], F4.at_ _ _ o3 (by simp), F3.trans F4⟩
    | false =>
      simp only [Bool.not_false, lsx, wps]
      exact ⟨_, _, _, rfl, by rw [et, cstep, if_neg (by rw [q]; decide)], F4.at_ _ _ o3 (by simp), F3.trans F4⟩
def cpRow (L : Lo) (ns f : List Str) (x : Str) : D := .tup ((tkn L ns (wo f x) (wo f x)).map D.str)
def cpD (L : Lo) (ns : List Str) : D := if (crn L ns).isEmpty = true then .non else .tup [.tup ((crn L ns).map D.str), .tup ((crn L ns).map (cpRow L ns (crn L ns)))]
theorem core_paper_wp {Q : D → Hd → Prop} (z : ns.length ≤ 500) (nd : ns.Nodup) (k : ∀ h', Fr [] h h' → Q (cpD L ns) h') : wp (m_core_paper [loreD L ns] h) Q := by
  refine wp_mF rfl ?_
  unfold f_core_paper
  have t1 : tb_core_paper "Counted" "taken" = some (2, m_Counted_taken) := by simp [tb_core_paper, addM]
  have lc := (crn_sub (L := L) (ns := ns)).length_le
  rw [wpS_cut 1]
  simp only [List.take_succ_cons, List.take_zero, lsx, List.replicate, wps]
  refine core_wp z nd fun h1 F1 => ?_
  unfold hid
  simp only [List.drop_succ_cons, List.drop_zero]
  rw [wpS_cut 1]
  simp only [List.take_succ_cons, List.take_zero, lsx, List.replicate, wps, cmp_nil, List.isEmpty_map, tru_bl, List.length_cons, List.length_nil, Nat.zero_le, Nat.reduceAdd, Nat.reduceLeDiff]
  cases q : (crn L ns).isEmpty with
  | true =>
    simp only [lsx, wps]
    have := k h1 F1
    unfold cpD at this
    rwa [if_pos q] at this
  | false =>
    simp only [lsx, wps]
    unfold hid
    simp only [List.drop_succ_cons, List.drop_zero]
    have o1 : (h1 ++ [Ob.ins "Counted" (cfs L ns)])[h1.length]? = some (.ins "Counted" (cfs L ns)) := app_last
    have F2 : Fr [] h (h1 ++ [Ob.ins "Counted" (cfs L ns)]) := F1.app
    rw [wpS_cut 1]
    simp only [List.take_succ_cons, List.take_zero, lsx, List.replicate, wps, counted_ok (L := L) (h := h1) (show ns.length ≤ 1000 by omega) nd]
    unfold hid
    simp only [List.drop_succ_cons, List.drop_zero]
    generalize h1 ++ [Ob.ins "Counted" (cfs L ns)] = h2 at o1 F2
    rw [wpS_cut 1]
    simp only [List.take_succ_cons, List.take_zero, lsx, List.replicate, wps, itD_tup, wipeE]
    rw [lcGo_all D.str (fun x => D.tup ((wo (crn L ns) x).map D.str)) (srcOk_nil h2) (crn L ns) fun x mx => ⟨_, rfl, by
      have w1 := without_all_ok (h := h2) (ys := crn L ns) (gone := [x]) (d := .tup [.str x]) (fun y => by rw [show ([D.str x] : List D) = [x].map D.str from rfl, in_tupS]) (by omega)
      rw [wo_in] at w1
      simp only [lsx, wps, List.length_cons, List.length_nil, Nat.zero_le, Nat.reduceAdd, Nat.reduceLeDiff, w1, and_self]⟩]
    have zl : ((crn L ns).map fun x => D.tup ((wo (crn L ns) x).map D.str)).length ≤ 16777216 := by rw [List.length_map]; omega
    simp only [lsx, wps, zl]
    unfold hid
    simp only [List.drop_succ_cons, List.drop_zero]
    simp only [lsx, wps, itD_lst, wipeE]
    refine lcGo_grow (fun x => D.tup ((wo (crn L ns) x).map D.str)) (fun _ => true) (cpRow L ns (crn L ns)) (crn L ns) (fun h' => h'[h1.length]? = some (.ins "Counted" (cfs L ns)) ∧ Fr [] h h') ⟨o1, F2⟩ ?_ ?_
    · rintro x mx h' ⟨o3, F3⟩
      refine ⟨_, rfl, ?_⟩
      simp only [lsx, wps]
      refine ⟨⟨o3, F3⟩, fun _ => ?_⟩
      have lw := (wo_sub (left := crn L ns) (x := x)).length_le
      simp only [asIns_ob o3, t1, cf_taken, lsx, wps]
      refine tk_wp in_tupS (by omega) nd (fun y m => crn_sub.subset (wo_sub.subset m)) o3 fun h4 F4 => ?_
      exact ⟨rfl, F4.at_ _ _ o3 (by simp), F3.trans F4⟩
    · rintro h' ⟨o3, F3⟩
      have zr : ((crn L ns).map (cpRow L ns (crn L ns))).length ≤ 16777216 := by rw [List.length_map]; omega
      rw [show (crn L ns).filter (fun _ => true) = crn L ns from List.filter_eq_self.mpr fun _ _ => rfl]
      simp only [zr, tup_lst, wps, List.length_cons, List.length_nil, Nat.zero_le, Nat.reduceAdd, Nat.reduceLeDiff]
      have := k h' F3
      unfold cpD at this
      rwa [if_neg (by rw [q]; decide)] at this
theorem lcore_wp {Q : D → Hd → Prop} (T : TbAt h a b L ns) (z : ns.length ≤ 500) (nd : ns.Nodup) (pw : ns.Pairwise fun a b => leS a b = true) (k : ∀ h', Fr [] h h' → Q (.tup ((crn L ns).map D.str)) h') : wp (m__law_core [tabD a b, .lst (ns.map D.str), .lst (ns.map D.str)] h) Q := by
  refine wp_mF rfl ?_
  unfold f__law_core
  have l0 : ∀ {h : Hd} {l : List Str}, lstD h [.lst (l.map D.str)] = some (.l (l.map D.str)) := fun {h l} => by simp [lstD, asS, asL]
  rw [wpS_cut 1]
  simp only [List.take_succ_cons, List.take_zero, lsx, List.replicate, wps]
  refine gone_wp (w := ns) T nd pw l0 in_lstS z (List.Sublist.refl _) fun h1 F1 => ?_
  simp only [idx_lst, atIs, opt, lsx, wps]
  unfold hid
  simp only [List.drop_succ_cons, List.drop_zero]
  rw [wpS_cut 1]
  simp only [List.take_succ_cons, List.take_zero, lsx, List.replicate, wps, itD_lst]
  unfold hid
  simp only [List.drop_succ_cons, List.drop_zero]
  have ls := lft_sub (L := L) (ns := ns) (l := ns)
  refine forL_at D.str ns (fun i env h' => ∃ f x4 x5 x6 x7, env = [some (tabD a b), some (.lst (ns.map D.str)), some (.lst (ns.map D.str)), some (.tup (f.map D.str)), x4, x5, x6, x7] ∧ f = (ns.take i).foldl (cstep' L ns) (lft L ns ns) ∧ f.Sublist ns ∧ TbAt h' a b L ns ∧ Fr [] h h') ?_ ?_ ⟨lft L ns ns, _, _, _, _, rfl, rfl, ls, T.fr F1 (by simp), F1⟩
  · rintro env h' ⟨f, x4, x5, x6, x7, rfl, ef, sf, T3, F3⟩
    refine ⟨srcOk_nil _, ?_⟩
    rw [List.take_length, crn_is nd] at ef
    simp only [nxt_nx, lsx, wps]
    rw [ef]
    exact k h' F3
  · rintro i x env h' hi ⟨f, x4, x5, x6, x7, rfl, ef, sf, T3, F3⟩
    refine ⟨srcOk_nil _, _, _, rfl, ?_⟩
    have lf := sf.length_le
    have lw := (wo_sub (left := f) (x := x)).length_le
    have zl : ((wo f x).map D.str).length ≤ 16777216 := by rw [List.length_map]; omega
    rw [wpS_cut 1]
    simp only [List.take_succ_cons, List.take_zero, lsx, List.replicate, wps, itD_tup, wipeE]
    rw [lcGo_map D.str (fun y => !(y == x)) D.str (srcOk_nil h') f fun y my => ⟨_, rfl, by cases h3 : (y == x) <;> simp only [wps, lsx, cmps, eqs, opt, h3, Bool.not_true, Bool.not_false, and_self], fun _ => by simp only [wps, lsx, and_self]⟩]
    rw [wo_eq]
    simp only [lsx, wps, zl]
    unfold hid
    simp only [List.drop_succ_cons, List.drop_zero]
    rw [wpS_cut 1]
    simp only [List.take_succ_cons, List.take_zero, lsx, List.replicate, wps]
    refine gone_wp (w := wo f x) T3 nd pw l0 in_lstS (by omega) (wo_sub.trans sf) fun h4 F4 => ?_
    simp only [idx_lst, atIs, opt, lsx, wps]
    unfold hid
    simp only [List.drop_succ_cons, List.drop_zero]
    have et : (ns.take (i + 1)).foldl (cstep' L ns) (lft L ns ns) = cstep' L ns f x := by
      rw [List.take_add_one, hi, List.foldl_append, ← ef]
      rfl
    have er : rst L ns (wo f x) (wo f x) = lft L ns (wo f x) := rfl
    rw [er]
    by_cases m : x ∈ f
    · cases q : (lft L ns (wo f x)).isEmpty with
      | true =>
        simp only [lsx, wps, bAndT, cmp_in, in_tupS, m, decide_true, tru_bl, ne_nilT, List.isEmpty_map, q, Bool.not_true, List.length_cons, List.length_nil, Nat.zero_le, Nat.reduceAdd, Nat.reduceLeDiff]
        exact ⟨f, _, _, _, _, rfl, by rw [et, cstep', if_neg (by rw [q]; simp)], sf, T3.fr F4 (by simp), F3.trans F4⟩
      | false =>
        simp only [lsx, wps, bAndT, cmp_in, in_tupS, m, decide_true, tru_bl, ne_nilT, List.isEmpty_map, q, Bool.not_false, List.length_cons, List.length_nil, Nat.zero_le, Nat.reduceAdd, Nat.reduceLeDiff]
        exact ⟨_, _, _, _, _, rfl, by rw [et, cstep', if_pos ⟨m, q⟩], (lft_sub.trans wo_sub).trans sf, T3.fr F4 (by simp), F3.trans F4⟩
    · simp only [lsx, wps, bAndT, cmp_in, in_tupS, m, decide_false, tru_bl]
      exact ⟨f, _, _, _, _, rfl, by rw [et, cstep', if_neg fun z => m z.1], sf, T3.fr F4 (by simp), F3.trans F4⟩
/-! ### what is handed in, as a text -/
theorem lore_repr {n : Nat} (t : Lre n L ns) (hn : n ≤ 24) : ∃ s, ∀ h : Hd, reprD h [loreD L ns] = some (.v (.str s)) := by
  have := lf_tup (xs := ns.map (rw4 L)) (k := 1) (w := 260) (n := 24) (fun d m => by
    obtain ⟨x, mx, rfl⟩ := List.mem_map.mp m
    have l1 := t.va.lb x mx
    exact lf_tup (xs := [.str x, .int (L.ca x), .int (L.lo x), .int (L.ov x)]) (k := 0) (w := 64) (n := 4) (fun d m => by
      simp only [List.mem_cons, List.not_mem_nil, or_false] at m
      rcases m with rfl | rfl | rfl | rfl
      · exact lf_str (t.sh x mx).1
      · exact lf_int (by omega) (by omega)
      · exact lf_int (by omega) (by omega)
      · exact lf_int (by omega) (by omega)) (by simp)) (by rw [List.length_map]; exact Nat.le_trans t.len hn)
  exact repr_tup this (by decide) (by decide)
theorem pl_strs {n : Nat} {l : List Str} : Pls (n + 1) (l.map D.str) := Pls.of fun d m => by
  obtain ⟨x, _, rfl⟩ := List.mem_map.mp m
  exact .str x
end
end Dk
end S_Q67_k37
end
section
set_option Elab.async false
set_option linter.all false
set_option maxRecDepth 100000
set_option maxHeartbeats 1000000
noncomputable section S_Q68_k37
namespace Dk
open PySem PySem.Spec PyProof.Rows L2
open Classical
theorem cpD_pl {L : Lo} {ns : List Str} (z : ns.length ≤ 500) : Pl 12 (cpD L ns) := by
  have lc := (crn_sub (L := L) (ns := ns)).length_le
  unfold cpD
  split
  · exact .non
  · refine .tup (by simp [sizeLine_val]) (.cons (.tup (by rw [List.length_map, sizeLine_val]; omega) pl_strs) (.cons (.tup (by rw [List.length_map, sizeLine_val]; omega) (Pls.of fun d m => ?_)) .nil))
    obtain ⟨x, mx, rfl⟩ := List.mem_map.mp m
    refine .tup ?_ pl_strs
    rw [List.length_map, sizeLine_val]
    have h1 : ∀ (w l : List Str), (tkn L ns w l).length ≤ l.length := fun w l => by
      refine tkn_ind (L := L) (ns := ns) (w := w) (P := fun l => (tkn L ns w l).length ≤ l.length) (fun l e => by rw [tkn_nil e]; exact Nat.zero_le _) (fun l x r e ih => ?_) _ l rfl
      have := wo_lt (left := l) (x := x) (fre_sub.subset (by rw [e]; exact List.mem_cons_self ..))
      rw [tkn_cons e, List.length_cons]
      omega
    have := h1 (wo (crn L ns) x) (wo (crn L ns) x)
    have := (wo_sub (left := crn L ns) (x := x)).length_le
    omega
theorem three_at {i : Int} {h : Hd} (h0 : 0 ≤ i) (h1 : i < 3) : ∃ t : Nat, t ≤ 12 ∧ idxD h (.lst [.int 5, .int 8, .int 12]) (.int i) = some (.v (.int t)) := by
  obtain ⟨k, rfl⟩ := Int.eq_ofNat_of_zero_le h0
  rw [idx_lst, atI_nat]
  match k, h1 with
  | 0, _ => exact ⟨5, by decide, rfl⟩
  | 1, _ => exact ⟨8, by decide, rfl⟩
  | 2, _ => exact ⟨12, by decide, rfl⟩
  | k + 3, z => omega
theorem law_ok (ns : List Int) : ∃ h', m_law [.scr ns] [] = .ok (.bl true) h' := by
  suffices q : wp (m_law [.scr ns] []) (fun d _ => d = .bl true) by
    obtain ⟨d, h', e, rfl⟩ := wp_ex_ok q
    exact ⟨h', e⟩
  refine wp_mF rfl ?_
  unfold f_law
  rw [wpS_cut 1]
  simp only [List.take_succ_cons, List.take_zero, lsx, List.replicate, wps]
  refine open_wp fun h1 A1 F1 L1 => ?_
  have A1' : WlAt h1 1 0 0 := A1
  unfold hid
  simp only [List.drop_succ_cons, List.drop_zero]
  have rn4 : rngD [.int 4] = some ⟨(List.range 4).map fun (i : Nat) => D.int (i : Int), [], false⟩ := rngD_1 (n := 4) (by decide)
  have rn2 : rngD [.int 2] = some ⟨(List.range 2).map fun (i : Nat) => D.int (i : Int), [], false⟩ := rngD_1 (n := 2) (by decide)
  rw [wpS_cut 1]
  simp only [List.take_succ_cons, List.take_zero, lsx, List.replicate, wps, rn4, if_true]
  unfold hid
  simp only [List.drop_succ_cons, List.drop_zero]
  refine forL_at (fun (i : Nat) => D.int (i : Int)) (List.range 4) (fun i e h => (∃ x2 x3 x4 x5 x6 x7 x8 x9 x10 x11 x12 x13, e = [some (.scr ns), some (.ref 1), x2, x3, x4, x5, x6, x7, x8, x9, x10, x11, x12, x13]) ∧ WlAt h 1 0 (3000 * i)) ?_ ?_ ⟨⟨_, _, _, _, _, _, _, _, _, _, _, _, rfl⟩, A1'⟩
  · rintro e h ⟨⟨x2, x3, x4, x5, x6, x7, x8, x9, x10, x11, x12, x13, rfl⟩, A⟩
    refine ⟨srcOk_nil _, ?_⟩
    simp only [nxt_nx, lsx, wps]
  · rintro i a e h hi ⟨⟨x2, x3, x4, x5, x6, x7, x8, x9, x10, x11, x12, x13, rfl⟩, A⟩
    have hi4 : i < 4 := by
      have := (List.getElem?_eq_some_iff.mp hi).1
      simpa using this
    refine ⟨srcOk_nil _, _, _, rfl, ?_⟩
    rw [wpS_cut 1]
    simp only [List.take_succ_cons, List.take_zero, lsx, List.replicate, wps, List.length_cons, List.length_nil, Nat.zero_le, Nat.reduceAdd, Nat.reduceLeDiff]
    refine draw_wp A (by omega) (by decide) (by decide) fun s1 h2 a1 b1 A2 F2 L2 => ?_
    obtain ⟨up, hup, eup⟩ := three_at (h := h2) a1 b1
    simp only [eup, lsx, wps]
    refine bad_wp A2 (by omega) (by omega) fun L nm h3 R A3 F3 => ?_
    unfold hid
    simp only [List.drop_succ_cons, List.drop_zero]
    obtain ⟨s, hs⟩ := lore_repr R (by omega)
    have len := R.len
    have nd := R.nd
    have pw := R.pw
    rw [wpS_cut 2]
    simp only [List.take_succ_cons, List.take_zero, lsx, List.replicate, wps, hs]
    refine table_wp (by omega) nd fun ta tb h4 T4 F4 lta ltb => ?_
    have A4 := A3.fr F4 (by simp)
    have lw3 := A3.lt
    simp only [lhere_ok (L := L) (h := h4) (show nm.length ≤ 1000 by omega), lsx, wps]
    unfold hid
    simp only [List.drop_succ_cons, List.drop_zero]
    rw [wpS_cut 1]
    simp only [List.take_succ_cons, List.take_zero, lsx, List.replicate, wps]
    refine lcore_wp T4 (by omega) nd pw fun h5 F5 => ?_
    unfold hid
    simp only [List.drop_succ_cons, List.drop_zero]
    have T5 := T4.fr F5 (by simp)
    have A5 := A4.fr F5 (by simp)
    rw [wpS_cut 1]
    simp only [List.take_succ_cons, List.take_zero, lsx, List.replicate, wps, List.length_cons, List.length_nil, Nat.zero_le, Nat.reduceAdd, Nat.reduceLeDiff]
    unfold hid
    simp only [List.drop_succ_cons, List.drop_zero]
    have T6 : TbAt (h5 ++ [Ob.lst []]) ta tb L nm := T5.fr (B := []) Fr.refl.app (by simp)
    have A6 : WlAt (h5 ++ [Ob.lst []]) 1 0 (3000 * (i + 1)) := (A5.up (by omega)).fr (B := []) Fr.refl.app (by simp)
    have p6 : (h5 ++ [Ob.lst []])[h5.length]? = some (.lst (((crn L nm).take 0).map (cpRow L nm (crn L nm)))) := app_last
    have wl : 1 < h5.length ∧ 0 < h5.length := A5.lt
    have tl : ta < h5.length ∧ tb < h5.length := ⟨(List.getElem?_eq_some_iff.mp T5.1).1, (List.getElem?_eq_some_iff.mp T5.2).1⟩
    have lc := (crn_sub (L := L) (ns := nm)).length_le
    have l0 : ∀ {h : Hd} {l : List Str}, lstD h [.lst (l.map D.str)] = some (.l (l.map D.str)) := fun {h l} => by simp [lstD, asS, asL]
    generalize h5 ++ [Ob.lst []] = h6 at T6 A6 p6
    rw [wpS_cut 1]
    simp only [List.take_succ_cons, List.take_zero, lsx, List.replicate, wps, itD_tup]
    unfold hid
    simp only [List.drop_succ_cons, List.drop_zero]
    refine forL_at D.str (crn L nm) (fun j e h => (∃ y9 y10 y11, e = [some (.scr ns), some (.ref 1), some (.int (a : Int)), some (loreD L nm), some (.str s), some (tabD ta tb), some (.lst (nm.map D.str)), some (.tup ((crn L nm).map D.str)), some (.ref h5.length), y9, y10, y11, x12, x13]) ∧ WlAt h 1 0 (3000 * (i + 1)) ∧ TbAt h ta tb L nm ∧ h[h5.length]? = some (.lst (((crn L nm).take j).map (cpRow L nm (crn L nm))))) ?_ ?_ ⟨⟨_, _, _, rfl⟩, A6, T6, p6⟩
    rotate_left
    · rintro j x e h hj ⟨⟨y9, y10, y11, rfl⟩, A7, T7, p7⟩
      refine ⟨srcOk_nil _, _, _, rfl, ?_⟩
      have lw := (wo_sub (left := crn L nm) (x := x)).length_le
      have zl : ((wo (crn L nm) x).map D.str).length ≤ 16777216 := by rw [List.length_map]; omega
      rw [wpS_cut 1]
      simp only [List.take_succ_cons, List.take_zero, lsx, List.replicate, wps, itD_tup, wipeE]
      rw [lcGo_map D.str (fun y => !(y == x)) D.str (srcOk_nil h) (crn L nm) fun y my => ⟨_, rfl, by cases h3 : (y == x) <;> simp only [wps, lsx, cmps, eqs, opt, h3, Bool.not_true, Bool.not_false, and_self], fun _ => by simp only [wps, lsx, and_self]⟩]
      rw [wo_eq]
      simp only [lsx, wps, zl]
      unfold hid
      simp only [List.drop_succ_cons, List.drop_zero]
      simp only [lsx, wps, asIns_lst p7, selM_app p7, BM.fn]
      refine gone_wp (w := wo (crn L nm) x) T7 nd pw l0 in_lstS (by omega) (wo_sub.trans crn_sub) fun h8 F8 => ?_
      have p8 := F8.at_ _ _ p7 (by simp)
      have ap := app_ref (y := cpRow L nm (crn L nm) x) p8 (by rw [List.length_map, List.length_take, sizeLine_val]; omega)
      have et : ((crn L nm).take j).map (cpRow L nm (crn L nm)) ++ [cpRow L nm (crn L nm) x] = ((crn L nm).take (j + 1)).map (cpRow L nm (crn L nm)) := by
        rw [List.take_add_one, hj, List.map_append]
        rfl
      rw [et] at ap
      unfold cpRow at ap
      simp only [idx_lst, atIs, opt, lsx, wps, ap]
      exact ⟨⟨_, _, _, rfl⟩, (A7.fr F8 (by simp)).fr (B := [h5.length]) (Fr.refl.set (by simp)) (by simp; omega), (T7.fr F8 (by simp)).fr (B := [h5.length]) (Fr.refl.set (by simp)) (by simp; omega), set_at p8⟩
    · rintro e h ⟨⟨y9, y10, y11, rfl⟩, A7, T7, p7⟩
      refine ⟨srcOk_nil _, ?_⟩
      rw [List.take_length] at p7
      simp only [nxt_nx, wpS_nil]
      have ce : ∀ {h : Hd}, cmpB .Eq h (.tup ((crn L nm).map D.str)) (.tup []) = some (crn L nm).isEmpty := fun {h} => by rw [cmp_nil, List.isEmpty_map]
      have fin : ∀ (h9 : Hd), WlAt h9 1 0 (3000 * (i + 1)) → wpS (sList [(sFor false (rngX 1 (aList [(cX (.int 2))])) (gN 13) (sList [(sIf (bOrT [(notT (tru (callX m__law_same (aList [(callX m_core (aList [(vX 3)])), (vX 7)])))), (notT (tru (callX m__law_same (aList [(callX m_core_paper (aList [(vX 3)])), (vX 12)])))), (tru (cmpX .NotEq (bltX false reprD (aList [(vX 3)])) (vX 4)))]) (sList [(sRet (cX (.bl false)))]) (sList []))]))] [some (.scr ns), some (.ref 1), some (.int (a : Int)), some (loreD L nm), some (.str s), some (tabD ta tb), some (.lst (nm.map D.str)), some (.tup ((crn L nm).map D.str)), some (.ref h5.length), y9, y10, y11, some (cpD L nm), x13] h9) fun fl h2 => match fl with
          | .nx e2 => (∃ x2 x3 x4 x5 x6 x7 x8 x9 x10 x11 x12 x13, e2 = [some (.scr ns), some (.ref 1), x2, x3, x4, x5, x6, x7, x8, x9, x10, x11, x12, x13]) ∧ WlAt h2 1 0 (3000 * (i + 1))
          | _ => False := by
        intro h9 A9
        simp only [lsx, wps, rn2, if_true]
        refine forL_at (fun (i : Nat) => D.int (i : Int)) (List.range 2) (fun j e h => (∃ y13, e = [some (.scr ns), some (.ref 1), some (.int (a : Int)), some (loreD L nm), some (.str s), some (tabD ta tb), some (.lst (nm.map D.str)), some (.tup ((crn L nm).map D.str)), some (.ref h5.length), y9, y10, y11, some (cpD L nm), y13]) ∧ WlAt h 1 0 (3000 * (i + 1))) ?_ ?_ ⟨⟨_, rfl⟩, A9⟩
        · rintro e h ⟨⟨y13, rfl⟩, A10⟩
          refine ⟨srcOk_nil _, ?_⟩
          simp only [nxt_nx, lsx, wps]
          exact ⟨⟨_, _, _, _, _, _, _, _, _, _, _, _, rfl⟩, A10⟩
        · rintro j c e h hj ⟨⟨y13, rfl⟩, A10⟩
          refine ⟨srcOk_nil _, _, _, rfl, ?_⟩
          have p1 : Pl 12 (.tup ((crn L nm).map D.str)) := .tup (by rw [List.length_map, sizeLine_val]; omega) pl_strs
          have p2 := cpD_pl (L := L) (ns := nm) (by omega)
          simp only [lsx, wps, bOrT]
          refine core_wp (by omega) nd fun h11 F11 => ?_
          simp only [lsx, wps, same12 p1, tru_bl, Bool.not_true]
          refine core_paper_wp (by omega) nd fun h12 F12 => ?_
          have cs : ∀ {h : Hd}, cmpB .NotEq h (.str s) (.str s) = some false := fun {h} => by rw [cmp_ne, rs_str, eqD_str, beq_self_eq_true]; rfl
          simp only [lsx, wps, same12 p2, tru_bl, Bool.not_true, hs, cs]
          exact ⟨⟨_, rfl⟩, (A10.fr F11 (by simp)).fr F12 (by simp)⟩
      have zc : ((crn L nm).map (cpRow L nm (crn L nm))).length ≤ 16777216 := by rw [List.length_map]; omega
      rw [wpS_cut 2]
      simp only [List.take_succ_cons, List.take_zero, lsx, List.replicate, wps, tup_ref p7, ce, tru_bl, List.length_cons, List.length_nil, Nat.zero_le, Nat.reduceAdd, Nat.reduceLeDiff]
      cases q : (crn L nm).isEmpty with
      | true =>
        simp only [lsx, wps]
        unfold hid
        simp only [List.drop_succ_cons, List.drop_zero]
        have e1 : cpD L nm = .non := if_pos q
        rw [← e1]
        exact wpS_imp (fin h A7) fun fl h2 hh => by cases fl <;> first | exact hh | exact hh.elim
      | false =>
        simp only [lsx, wps]
        unfold hid
        simp only [List.drop_succ_cons, List.drop_zero]
        have e1 : cpD L nm = .tup [.tup ((crn L nm).map D.str), .tup ((crn L nm).map (cpRow L nm (crn L nm)))] := if_neg (by rw [q]; decide)
        rw [← e1]
        exact wpS_imp (fin h A7) fun fl h2 hh => by cases fl <;> first | exact hh | exact hh.elim
end Dk
end S_Q68_k37
end
section
set_option Elab.async false
set_option linter.all false
set_option maxRecDepth 100000
set_option maxHeartbeats 0
/-! the head and the defs' entries (printed by gen.py) -/
noncomputable section S_H_k37
namespace Dk
open PySem PySem.Spec PyProof.Rows L2
def top (i : Nat) : Stmt := PySem.Challenge.pw_sheetsover_k37_cores_told.main.body.getD i (.Pass ⟨0, 0, 0, 0⟩)
def sub (i j : Nat) : Stmt := match top i with
  | .ClassDef _ _ _ body _ _ _ _ _ _ _ => body.getD j (.Pass ⟨0, 0, 0, 0⟩)
  | _ => .Pass ⟨0, 0, 0, 0⟩
def ats : List String := ["ahead", "append", "counts", "free_in", "index", "insert", "is_free", "join", "left_of", "names", "pop", "remove", "taken", "values"]
def mus : List (Nat × Nat × Nat) := [(42, 16, 18), (76, 11, 96), (76, 24, 92), (95, 53, 55), (95, 57, 59), (95, 61, 77), (110, 19, 58), (111, 16, 18), (121, 32, 34), (121, 36, 38), (133, 16, 31), (134, 17, 19), (160, 16, 18), (179, 20, 22)]
def kwAt (p : Str × Option Str) (x : Str) (K : PySem.W.Frag) : Addr := match K.lookup (He.fAd K p) with
  | some ⟨_, _, .func fd, _⟩ => (match fd.kwdefaults with
    | .ref d => (match PySem.W.nsIn K d x with
      | some (some (.ref a)) => a
      | _ => 0)
    | _ => 0)
  | _ => 0
def emptyT (K : PySem.W.Frag) (a : Addr) : Bool := match K.lookup a with
  | some ⟨.type c, none, .seq its _, _⟩ => decide (c = "tuple") && decide (its.toList = [])
  | _ => false
theorem emptyT_ok {K : PySem.W.Frag} {a : Addr} {H : Hp} (e : emptyT K a = true) : TupA K H a [] := by
  unfold emptyT at e
  split at e
  · next c its n sl q =>
    simp only [Bool.and_eq_true, decide_eq_true_eq] at e
    refine .inr ⟨_, its, n, q, congrArg Value.type e.1, rfl, rfl, ?_, by rw [e.2]; exact .nil⟩
    have : its.size = 0 := by rw [← Array.length_toList, e.2]; rfl
    rw [this]
    exact Nat.zero_le _
  · cases e
def d__law_open : He.DefD := ⟨((S "_law_open"), none), (S "_law_open"), (S "_law_open"), defArgs (top 17), defBody (top 17), defScope (top 17), [], []⟩
def d__law_draw : He.DefD := ⟨((S "_law_draw"), none), (S "_law_draw"), (S "_law_draw"), defArgs (top 18), defBody (top 18), defScope (top 18), [], []⟩
def d__law_signs : He.DefD := ⟨((S "_law_signs"), none), (S "_law_signs"), (S "_law_signs"), defArgs (top 20), defBody (top 20), defScope (top 20), [], []⟩
def d__law_one_of : He.DefD := ⟨((S "_law_one_of"), none), (S "_law_one_of"), (S "_law_one_of"), defArgs (top 19), defBody (top 19), defScope (top 19), [], []⟩
def d__law_grown : He.DefD := ⟨((S "_law_grown"), none), (S "_law_grown"), (S "_law_grown"), defArgs (top 21), defBody (top 21), defScope (top 21), [], []⟩
def d__law_made_up : He.DefD := ⟨((S "_law_made_up"), none), (S "_law_made_up"), (S "_law_made_up"), defArgs (top 22), defBody (top 22), defScope (top 22), [], []⟩
def d__law_bad : He.DefD := ⟨((S "_law_bad"), none), (S "_law_bad"), (S "_law_bad"), defArgs (top 29), defBody (top 29), defScope (top 29), [], []⟩
def d__law_over_it : He.DefD := ⟨((S "_law_over_it"), none), (S "_law_over_it"), (S "_law_over_it"), defArgs (top 24), defBody (top 24), defScope (top 24), [], []⟩
def d__law_free : He.DefD := ⟨((S "_law_free"), none), (S "_law_free"), (S "_law_free"), defArgs (top 25), defBody (top 25), defScope (top 25), [], []⟩
def d__law_gone_through : He.DefD := ⟨((S "_law_gone_through"), none), (S "_law_gone_through"), (S "_law_gone_through"), defArgs (top 27), defBody (top 27), defScope (top 27), [], []⟩
def d__law_core : He.DefD := ⟨((S "_law_core"), none), (S "_law_core"), (S "_law_core"), defArgs (top 30), defBody (top 30), defScope (top 30), [], []⟩
def d__law_table : He.DefD := ⟨((S "_law_table"), none), (S "_law_table"), (S "_law_table"), defArgs (top 23), defBody (top 23), defScope (top 23), [], []⟩
def d__law_here : He.DefD := ⟨((S "_law_here"), none), (S "_law_here"), (S "_law_here"), defArgs (top 26), defBody (top 26), defScope (top 26), [], []⟩
def d__law_same : He.DefD := ⟨((S "_law_same"), none), (S "_law_same"), (S "_law_same"), defArgs (top 28), defBody (top 28), defScope (top 28), [], []⟩
def d_here : He.DefD := ⟨((S "here"), none), (S "here"), (S "here"), defArgs (top 5), defBody (top 5), defScope (top 5), [], []⟩
def d_without_all : He.DefD := ⟨((S "without_all"), none), (S "without_all"), (S "without_all"), defArgs (top 10), defBody (top 10), defScope (top 10), [], []⟩
def d_Counted_is_free : He.DefD := ⟨((S "Counted"), some (S "is_free")), (S "is_free"), (S "Counted.is_free"), defArgs (sub 11 1), defBody (sub 11 1), defScope (sub 11 1), [], []⟩
def d_Counted_free_in : He.DefD := ⟨((S "Counted"), some (S "free_in")), (S "free_in"), (S "Counted.free_in"), defArgs (sub 11 2), defBody (sub 11 2), defScope (sub 11 2), [], []⟩
def d_Counted_taken : He.DefD := ⟨((S "Counted"), some (S "taken")), (S "taken"), (S "Counted.taken"), defArgs (sub 11 3), defBody (sub 11 3), defScope (sub 11 3), [], []⟩
def d_Counted_left_of : He.DefD := ⟨((S "Counted"), some (S "left_of")), (S "left_of"), (S "Counted.left_of"), defArgs (sub 11 4), defBody (sub 11 4), defScope (sub 11 4), [], []⟩
def d_place_of : He.DefD := ⟨((S "place_of"), none), (S "place_of"), (S "place_of"), defArgs (top 6), defBody (top 6), defScope (top 6), [], []⟩
def d_row_of : He.DefD := ⟨((S "row_of"), none), (S "row_of"), (S "row_of"), defArgs (top 7), defBody (top 7), defScope (top 7), [], []⟩
def d_elders : He.DefD := ⟨((S "elders"), none), (S "elders"), (S "elders"), defArgs (top 8), defBody (top 8), defScope (top 8), [], []⟩
def d_Counted___init__ : He.DefD := ⟨((S "Counted"), some (S "__init__")), (S "__init__"), (S "Counted.__init__"), defArgs (sub 11 0), defBody (sub 11 0), defScope (sub 11 0), [], []⟩
def d_stuck : He.DefD := ⟨((S "stuck"), none), (S "stuck"), (S "stuck"), defArgs (top 12), defBody (top 12), defScope (top 12), [], []⟩
def d_core : He.DefD := ⟨((S "core"), none), (S "core"), (S "core"), defArgs (top 14), defBody (top 14), defScope (top 14), [], []⟩
def d_core_paper : He.DefD := ⟨((S "core_paper"), none), (S "core_paper"), (S "core_paper"), defArgs (top 15), defBody (top 15), defScope (top 15), [], []⟩
def d_law : He.DefD := ⟨((S "law"), none), (S "law"), (S "law"), defArgs (top 31), defBody (top 31), defScope (top 31), [], []⟩
def dfn : List He.DefD := [d__law_open, d__law_draw, d__law_signs, d__law_one_of, d__law_grown, d__law_made_up, d__law_bad, d__law_over_it, d__law_free, d__law_gone_through, d__law_core, d__law_table, d__law_here, d__law_same, d_here, d_without_all, d_Counted_is_free, d_Counted_free_in, d_Counted_taken, d_Counted_left_of, d_place_of, d_row_of, d_elders, d_Counted___init__, d_stuck, d_core, d_core_paper, d_law]
def fas : List He.Fa := [.glo (S "_law_open"), .glo (S "_law_draw"), .glo (S "_law_signs"), .glo (S "_law_one_of"), .glo (S "_law_grown"), .glo (S "_law_made_up"), .glo (S "_law_bad"), .glo (S "_law_over_it"), .glo (S "_law_free"), .glo (S "_law_gone_through"), .glo (S "_law_core"), .glo (S "_law_table"), .glo (S "_law_here"), .glo (S "_law_same"), .glo (S "here"), .glo (S "without_all"), .glo (S "place_of"), .glo (S "row_of"), .glo (S "elders"), .glo (S "stuck"), .glo (S "core"), .glo (S "core_paper"), .glo (S "law"), .glo (S "Counted"), .cls (S "Counted"), .mkr (S "Counted"), .noat (S "Counted") (S "ahead"), .noat (S "Counted") (S "counts"), .noat (S "Counted") (S "names"), .meth (S "Counted") (S "is_free"), .meth (S "Counted") (S "free_in"), .meth (S "Counted") (S "taken"), .meth (S "Counted") (S "left_of"), .meth (S "Counted") (S "__init__"), .free (S "abs"), .free (S "int"), .free (S "tuple"), .free (S "list"), .free (S "dict"), .free (S "max"), .free (S "min"), .free (S "sum"), .free (S "any"), .free (S "all"), .free (S "sorted"), .free (S "isinstance"), .free (S "len"), .free (S "str"), .free (S "range"), .free (S "zip"), .free (S "enumerate"), .free (S "bool"), .free (S "repr"), .free (S "set")]
def cks (K : PySem.W.Frag) : Bool := true
def loose0 : List Str := [(S "_wall"), (S "SheetError"), (S "NotHere"), (S "here"), (S "place_of"), (S "row_of"), (S "elders"), (S "without_all"), (S "Counted"), (S "stuck"), (S "core"), (S "core_paper"), (S "_law_open"), (S "_law_draw"), (S "_law_one_of"), (S "_law_signs"), (S "_law_grown"), (S "_law_made_up"), (S "_law_table"), (S "_law_over_it"), (S "_law_free"), (S "_law_here"), (S "_law_gone_through"), (S "_law_same"), (S "_law_bad"), (S "_law_core")]
def loose : List Str := loose0
abbrev R : PySem.W.OpenRow := PySem.W.OpenLaw.row PySem.Challenge.rw_sheetsover_k37_cores_told
abbrev hk : PySem.W.Hook := hookO 6 cks fas dfn
def ob (s : PySem.W.SharedT) : Bool × He.AlD := obsO 6 cks fas dfn (HandSHeadRun.getT s)
theorem ob_eq (s : PySem.W.SharedT) : ob s = hk.obs s.abs := obsO_eq (HandSHeadRun.getT_eq s)
theorem run (w : World) : HandSHeadRun.RunEq R (PySem.W.view R.prog [31]) hk ob 20000 loose w := by
  intro os
  kernel_rfl
structure Bs (K : PySem.W.Frag) (mg : Str → Option Value) : Prop where
  says : He.SaysD fas dfn K
  ck : cks K = true
  ns : ∃ h : Heap, K.In h ∧ h.Ns mainGlobals mg
section
variable {P : Program} {w : World} {K : PySem.W.Frag} {mg : Str → Option Value} {base : Heap}
theorem Bs.glo (B : Bs K mg) (i : Nat) {x : Str} (h : fas[i]? = some (.glo x)) : mg x = some (.ref (He.ga K x)) := by
  obtain ⟨h0, a, b⟩ := B.ns
  exact He.glo_ok a b (B.says.fact i h)
theorem Bs.free (B : Bs K mg) (i : Nat) {x : Str} (h : fas[i]? = some (.free x)) : mg x = none := by
  obtain ⟨h0, a, b⟩ := B.ns
  exact He.free_ok a b (B.says.fact i h)
theorem Bs.int (B : Bs K mg) (i : Nat) {x : Str} {j : Int} (h : fas[i]? = some (.int x j)) : CsOk mg x (.int j) := by
  obtain ⟨h0, a, b⟩ := B.ns
  obtain ⟨t, e⟩ := He.int_ok a b (B.says.fact i h)
  exact .int e
theorem Bs.str (B : Bs K mg) (i : Nat) {x j : Str} (h : fas[i]? = some (.str x j)) : CsOk mg x (.str j) := by
  obtain ⟨h0, a, b⟩ := B.ns
  obtain ⟨t, e⟩ := He.str_ok a b (B.says.fact i h)
  exact .str e
theorem Bs.tab (B : Bs K mg) : Tb 0 [] noM fld P w K mg base := by
  refine Tb.start (fun x hx => ?_) (fun c f hf => ?_)
  · unfold freeNames at hx
    simp only [List.mem_cons, List.not_mem_nil, or_false] at hx
    rcases hx with rfl | rfl | rfl | rfl | rfl | rfl | rfl | rfl | rfl | rfl | rfl | rfl | rfl | rfl | rfl | rfl | rfl | rfl | rfl | rfl
    · exact B.free 34 (by rfl)
    · exact B.free 35 (by rfl)
    · exact B.free 36 (by rfl)
    · exact B.free 37 (by rfl)
    · exact B.free 38 (by rfl)
    · exact B.free 39 (by rfl)
    · exact B.free 40 (by rfl)
    · exact B.free 41 (by rfl)
    · exact B.free 42 (by rfl)
    · exact B.free 43 (by rfl)
    · exact B.free 44 (by rfl)
    · exact B.free 45 (by rfl)
    · exact B.free 46 (by rfl)
    · exact B.free 47 (by rfl)
    · exact B.free 48 (by rfl)
    · exact B.free 49 (by rfl)
    · exact B.free 50 (by rfl)
    · exact B.free 51 (by rfl)
    · exact B.free 52 (by rfl)
    · exact B.free 53 (by rfl)
  · have h2 : (c, f) ∈ flds := of_decide_eq_true hf
    unfold flds at h2
    simp only [List.mem_cons, List.not_mem_nil, or_false, Prod.mk.injEq] at h2
    rcases h2 with ⟨rfl, rfl⟩ | ⟨rfl, rfl⟩ | ⟨rfl, rfl⟩
    · exact ⟨He.cls_ok (B.says.fact 24 (f := .cls (S "Counted")) (by rfl)), He.noat_ok (B.says.fact 26 (f := .noat (S "Counted") (S "ahead")) (by rfl))⟩
    · exact ⟨He.cls_ok (B.says.fact 24 (f := .cls (S "Counted")) (by rfl)), He.noat_ok (B.says.fact 27 (f := .noat (S "Counted") (S "counts")) (by rfl))⟩
    · exact ⟨He.cls_ok (B.says.fact 24 (f := .cls (S "Counted")) (by rfl)), He.noat_ok (B.says.fact 28 (f := .noat (S "Counted") (S "names")) (by rfl))⟩
def N__law_open : List Str := [(S "_law_script"), (S "_law_cells"), (S "_law_cell")]
def glo__law_open : List (Str × Gb) := []
theorem sc__law_open : FnScope N__law_open [(S "_law_script")] (defScope (top 17)) := ⟨by kernel_rfl, by kernel_rfl, by kernel_rfl, by decide +kernel, by kernel_rfl, by decide +kernel, by decide +kernel⟩
theorem tr__law_open : tBody ⟨N__law_open, defScope (top 17), celOf (defScope (top 17)), mus, glo__law_open, tb__law_open, fld, ats⟩ (defBody (top 17)) = f__law_open := by kernel_rfl
theorem ok__law_open (B : Bs K mg) : FnE 3 P w K mg base (S "_law_open") 1 m__law_open := by
  obtain ⟨fd, F⟩ := B.says.def_ 0 (d := d__law_open) (by rfl)
  have T : Tb 0 glo__law_open tb__law_open fld P w K mg base := (Bs.tab (P := P) (w := w) (base := base) B)
  have G := fn_step (cel := celOf (defScope (top 17))) (mus := mus) (ats := ats) T F sc__law_open (by decide) (n := 1) rfl
  exact ⟨_, fd, [(S "_law_script")], rfl, (by unfold m__law_open; rw [← tr__law_open]; exact G), (FunD.bindsN F fun _ _ _ _ _ _ us hl => match us, hl with | [_], _ => by rfl), F.kp, B.glo 0 (by rfl)⟩
def N__law_draw : List Str := [(S "_law_well"), (S "_law_below"), (S "_law_cells"), (S "_law_rests"), (S "_law_count"), (S "_law_at"), (S "_law_digit"), (S "_law_mixed")]
def glo__law_draw : List (Str × Gb) := []
theorem sc__law_draw : FnScope N__law_draw [(S "_law_well"), (S "_law_below")] (defScope (top 18)) := ⟨by kernel_rfl, by kernel_rfl, by kernel_rfl, by decide +kernel, by kernel_rfl, by decide +kernel, by decide +kernel⟩
theorem tr__law_draw : tBody ⟨N__law_draw, defScope (top 18), celOf (defScope (top 18)), mus, glo__law_draw, tb__law_draw, fld, ats⟩ (defBody (top 18)) = f__law_draw := by kernel_rfl
theorem ok__law_draw (B : Bs K mg) : FnE 3 P w K mg base (S "_law_draw") 2 m__law_draw := by
  obtain ⟨fd, F⟩ := B.says.def_ 1 (d := d__law_draw) (by rfl)
  have T : Tb 0 glo__law_draw tb__law_draw fld P w K mg base := (Bs.tab (P := P) (w := w) (base := base) B)
  have G := fn_step (cel := celOf (defScope (top 18))) (mus := mus) (ats := ats) T F sc__law_draw (by decide) (n := 2) rfl
  exact ⟨_, fd, [(S "_law_well"), (S "_law_below")], rfl, (by unfold m__law_draw; rw [← tr__law_draw]; exact G), (FunD.bindsN F fun _ _ _ _ _ _ us hl => match us, hl with | [_, _], _ => by rfl), F.kp, B.glo 1 (by rfl)⟩
def N__law_signs : List Str := [(S "_law_well"), (S "_law_many"), (S "_law_letters"), (S "_law_tail"), (S "_law_k"), (S "_law_first")]
def glo__law_signs : List (Str × Gb) := [((S "_law_draw"), .fn 2 m__law_draw)]
theorem sc__law_signs : FnScope N__law_signs [(S "_law_well"), (S "_law_many")] (defScope (top 20)) := ⟨by kernel_rfl, by kernel_rfl, by kernel_rfl, by decide +kernel, by kernel_rfl, by decide +kernel, by decide +kernel⟩
theorem tr__law_signs : tBody ⟨N__law_signs, defScope (top 20), celOf (defScope (top 20)), mus, glo__law_signs, tb__law_signs, fld, ats⟩ (defBody (top 20)) = f__law_signs := by kernel_rfl
theorem ok__law_signs (B : Bs K mg) : FnE 6 P w K mg base (S "_law_signs") 2 m__law_signs := by
  obtain ⟨fd, F⟩ := B.says.def_ 2 (d := d__law_signs) (by rfl)
  have T : Tb 3 glo__law_signs tb__law_signs fld P w K mg base := (((Bs.tab (P := P) (w := w) (base := base) B).mono (j := 3) (by decide)).addF ((ok__law_draw B).mono (by decide)))
  have G := fn_step (cel := celOf (defScope (top 20))) (mus := mus) (ats := ats) T F sc__law_signs (by decide) (n := 2) rfl
  exact ⟨_, fd, [(S "_law_well"), (S "_law_many")], rfl, (by unfold m__law_signs; rw [← tr__law_signs]; exact G), (FunD.bindsN F fun _ _ _ _ _ _ us hl => match us, hl with | [_, _], _ => by rfl), F.kp, B.glo 2 (by rfl)⟩
def N__law_one_of : List Str := [(S "_law_well"), (S "_law_things")]
def glo__law_one_of : List (Str × Gb) := [((S "_law_draw"), .fn 2 m__law_draw)]
theorem sc__law_one_of : FnScope N__law_one_of [(S "_law_well"), (S "_law_things")] (defScope (top 19)) := ⟨by kernel_rfl, by kernel_rfl, by kernel_rfl, by decide +kernel, by kernel_rfl, by decide +kernel, by decide +kernel⟩
theorem tr__law_one_of : tBody ⟨N__law_one_of, defScope (top 19), celOf (defScope (top 19)), mus, glo__law_one_of, tb__law_one_of, fld, ats⟩ (defBody (top 19)) = f__law_one_of := by kernel_rfl
theorem ok__law_one_of (B : Bs K mg) : FnE 6 P w K mg base (S "_law_one_of") 2 m__law_one_of := by
  obtain ⟨fd, F⟩ := B.says.def_ 3 (d := d__law_one_of) (by rfl)
  have T : Tb 3 glo__law_one_of tb__law_one_of fld P w K mg base := (((Bs.tab (P := P) (w := w) (base := base) B).mono (j := 3) (by decide)).addF ((ok__law_draw B).mono (by decide)))
  have G := fn_step (cel := celOf (defScope (top 19))) (mus := mus) (ats := ats) T F sc__law_one_of (by decide) (n := 2) rfl
  exact ⟨_, fd, [(S "_law_well"), (S "_law_things")], rfl, (by unfold m__law_one_of; rw [← tr__law_one_of]; exact G), (FunD.bindsN F fun _ _ _ _ _ _ us hl => match us, hl with | [_, _], _ => by rfl), F.kp, B.glo 3 (by rfl)⟩
def N__law_grown : List Str := [(S "_law_well"), (S "_law_names"), (S "_law_upto"), (S "_law_deeds"), (S "_law_pile"), (S "_law_rows"), (S "_law_fresh"), (S "_law_number"), (S "_law_step"), (S "_law_turn"), (S "_law_kind"), (S "_law_at")]
def glo__law_grown : List (Str × Gb) := [((S "_law_draw"), .fn 2 m__law_draw), ((S "_law_one_of"), .fn 2 m__law_one_of)]
theorem sc__law_grown : FnScope N__law_grown [(S "_law_well"), (S "_law_names"), (S "_law_upto"), (S "_law_deeds")] (defScope (top 21)) := ⟨by kernel_rfl, by kernel_rfl, by kernel_rfl, by decide +kernel, by kernel_rfl, by decide +kernel, by decide +kernel⟩
theorem tr__law_grown : tBody ⟨N__law_grown, defScope (top 21), celOf (defScope (top 21)), mus, glo__law_grown, tb__law_grown, fld, ats⟩ (defBody (top 21)) = f__law_grown := by kernel_rfl
theorem ok__law_grown (B : Bs K mg) : FnE 9 P w K mg base (S "_law_grown") 4 m__law_grown := by
  obtain ⟨fd, F⟩ := B.says.def_ 4 (d := d__law_grown) (by rfl)
  have T : Tb 6 glo__law_grown tb__law_grown fld P w K mg base := ((((Bs.tab (P := P) (w := w) (base := base) B).mono (j := 6) (by decide)).addF ((ok__law_one_of B).mono (by decide))).addF ((ok__law_draw B).mono (by decide)))
  have G := fn_step (cel := celOf (defScope (top 21))) (mus := mus) (ats := ats) T F sc__law_grown (by decide) (n := 4) rfl
  exact ⟨_, fd, [(S "_law_well"), (S "_law_names"), (S "_law_upto"), (S "_law_deeds")], rfl, (by unfold m__law_grown; rw [← tr__law_grown]; exact G), (FunD.bindsN F fun _ _ _ _ _ _ us hl => match us, hl with | [_, _, _, _], _ => by rfl), F.kp, B.glo 4 (by rfl)⟩
def N__law_made_up : List Str := [(S "_law_well"), (S "_law_names"), (S "_law_numbers"), (S "_law_rows"), (S "_law_name"), (S "_law_came"), (S "_law_later"), (S "_law_number"), (S "_law_looked")]
def glo__law_made_up : List (Str × Gb) := [((S "_law_draw"), .fn 2 m__law_draw), ((S "_law_one_of"), .fn 2 m__law_one_of)]
theorem sc__law_made_up : FnScope N__law_made_up [(S "_law_well"), (S "_law_names")] (defScope (top 22)) := ⟨by kernel_rfl, by kernel_rfl, by kernel_rfl, by decide +kernel, by kernel_rfl, by decide +kernel, by decide +kernel⟩
theorem tr__law_made_up : tBody ⟨N__law_made_up, defScope (top 22), celOf (defScope (top 22)), mus, glo__law_made_up, tb__law_made_up, fld, ats⟩ (defBody (top 22)) = f__law_made_up := by kernel_rfl
theorem ok__law_made_up (B : Bs K mg) : FnE 9 P w K mg base (S "_law_made_up") 2 m__law_made_up := by
  obtain ⟨fd, F⟩ := B.says.def_ 5 (d := d__law_made_up) (by rfl)
  have T : Tb 6 glo__law_made_up tb__law_made_up fld P w K mg base := ((((Bs.tab (P := P) (w := w) (base := base) B).mono (j := 6) (by decide)).addF ((ok__law_one_of B).mono (by decide))).addF ((ok__law_draw B).mono (by decide)))
  have G := fn_step (cel := celOf (defScope (top 22))) (mus := mus) (ats := ats) T F sc__law_made_up (by decide) (n := 2) rfl
  exact ⟨_, fd, [(S "_law_well"), (S "_law_names")], rfl, (by unfold m__law_made_up; rw [← tr__law_made_up]; exact G), (FunD.bindsN F fun _ _ _ _ _ _ us hl => match us, hl with | [_, _], _ => by rfl), F.kp, B.glo 5 (by rfl)⟩
def N__law_bad : List Str := [(S "_law_well"), (S "_law_upto"), (S "_law_names"), (S "_law_lore"), (S "_law_rows"), (S "_law_name"), (S "_law_came"), (S "_law_looked"), (S "_law_over")]
def glo__law_bad : List (Str × Gb) := [((S "_law_one_of"), .fn 2 m__law_one_of), ((S "_law_made_up"), .fn 2 m__law_made_up), ((S "_law_draw"), .fn 2 m__law_draw), ((S "_law_grown"), .fn 4 m__law_grown), ((S "_law_signs"), .fn 2 m__law_signs)]
theorem sc__law_bad : FnScope N__law_bad [(S "_law_well"), (S "_law_upto")] (defScope (top 29)) := ⟨by kernel_rfl, by kernel_rfl, by kernel_rfl, by decide +kernel, by kernel_rfl, by decide +kernel, by decide +kernel⟩
theorem tr__law_bad : tBody ⟨N__law_bad, defScope (top 29), celOf (defScope (top 29)), mus, glo__law_bad, tb__law_bad, fld, ats⟩ (defBody (top 29)) = f__law_bad := by kernel_rfl
theorem ok__law_bad (B : Bs K mg) : FnE 12 P w K mg base (S "_law_bad") 2 m__law_bad := by
  obtain ⟨fd, F⟩ := B.says.def_ 6 (d := d__law_bad) (by rfl)
  have T : Tb 9 glo__law_bad tb__law_bad fld P w K mg base := (((((((Bs.tab (P := P) (w := w) (base := base) B).mono (j := 9) (by decide)).addF ((ok__law_signs B).mono (by decide))).addF ((ok__law_grown B).mono (by decide))).addF ((ok__law_draw B).mono (by decide))).addF ((ok__law_made_up B).mono (by decide))).addF ((ok__law_one_of B).mono (by decide)))
  have G := fn_step (cel := celOf (defScope (top 29))) (mus := mus) (ats := ats) T F sc__law_bad (by decide) (n := 2) rfl
  exact ⟨_, fd, [(S "_law_well"), (S "_law_upto")], rfl, (by unfold m__law_bad; rw [← tr__law_bad]; exact G), (FunD.bindsN F fun _ _ _ _ _ _ us hl => match us, hl with | [_, _], _ => by rfl), F.kp, B.glo 6 (by rfl)⟩
def N__law_over_it : List Str := [(S "_law_table_here"), (S "_law_some"), (S "_law_name"), (S "_law_one")]
def glo__law_over_it : List (Str × Gb) := []
theorem sc__law_over_it : FnScope N__law_over_it [(S "_law_table_here"), (S "_law_some"), (S "_law_name")] (defScope (top 24)) := ⟨by kernel_rfl, by kernel_rfl, by kernel_rfl, by decide +kernel, by kernel_rfl, by decide +kernel, by decide +kernel⟩
theorem tr__law_over_it : tBody ⟨N__law_over_it, defScope (top 24), celOf (defScope (top 24)), mus, glo__law_over_it, tb__law_over_it, fld, ats⟩ (defBody (top 24)) = f__law_over_it := by kernel_rfl
theorem ok__law_over_it (B : Bs K mg) : FnE 3 P w K mg base (S "_law_over_it") 3 m__law_over_it := by
  obtain ⟨fd, F⟩ := B.says.def_ 7 (d := d__law_over_it) (by rfl)
  have T : Tb 0 glo__law_over_it tb__law_over_it fld P w K mg base := (Bs.tab (P := P) (w := w) (base := base) B)
  have G := fn_step (cel := celOf (defScope (top 24))) (mus := mus) (ats := ats) T F sc__law_over_it (by decide) (n := 3) rfl
  exact ⟨_, fd, [(S "_law_table_here"), (S "_law_some"), (S "_law_name")], rfl, (by unfold m__law_over_it; rw [← tr__law_over_it]; exact G), (FunD.bindsN F fun _ _ _ _ _ _ us hl => match us, hl with | [_, _, _], _ => by rfl), F.kp, B.glo 7 (by rfl)⟩
def N__law_free : List Str := [(S "_law_table_here"), (S "_law_some"), (S "_law_name")]
def glo__law_free : List (Str × Gb) := [((S "_law_over_it"), .fn 3 m__law_over_it)]
theorem sc__law_free : FnScope N__law_free [(S "_law_table_here"), (S "_law_some")] (defScope (top 25)) := ⟨by kernel_rfl, by kernel_rfl, by kernel_rfl, by decide +kernel, by kernel_rfl, by decide +kernel, by decide +kernel⟩
theorem tr__law_free : tBody ⟨N__law_free, defScope (top 25), celOf (defScope (top 25)), mus, glo__law_free, tb__law_free, fld, ats⟩ (defBody (top 25)) = f__law_free := by kernel_rfl
theorem ok__law_free (B : Bs K mg) : FnE 6 P w K mg base (S "_law_free") 2 m__law_free := by
  obtain ⟨fd, F⟩ := B.says.def_ 8 (d := d__law_free) (by rfl)
  have T : Tb 3 glo__law_free tb__law_free fld P w K mg base := (((Bs.tab (P := P) (w := w) (base := base) B).mono (j := 3) (by decide)).addF ((ok__law_over_it B).mono (by decide)))
  have G := fn_step (cel := celOf (defScope (top 25))) (mus := mus) (ats := ats) T F sc__law_free (by decide) (n := 2) rfl
  exact ⟨_, fd, [(S "_law_table_here"), (S "_law_some")], rfl, (by unfold m__law_free; rw [← tr__law_free]; exact G), (FunD.bindsN F fun _ _ _ _ _ _ us hl => match us, hl with | [_, _], _ => by rfl), F.kp, B.glo 8 (by rfl)⟩
def N__law_gone_through : List Str := [(S "_law_table_here"), (S "_law_some"), (S "_law_wanted"), (S "_law_left"), (S "_law_found"), (S "_law_free_ones"), (S "_law_name")]
def glo__law_gone_through : List (Str × Gb) := [((S "_law_free"), .fn 2 m__law_free)]
theorem sc__law_gone_through : FnScope N__law_gone_through [(S "_law_table_here"), (S "_law_some"), (S "_law_wanted")] (defScope (top 27)) := ⟨by kernel_rfl, by kernel_rfl, by kernel_rfl, by decide +kernel, by kernel_rfl, by decide +kernel, by decide +kernel⟩
theorem tr__law_gone_through : tBody ⟨N__law_gone_through, defScope (top 27), celOf (defScope (top 27)), mus, glo__law_gone_through, tb__law_gone_through, fld, ats⟩ (defBody (top 27)) = f__law_gone_through := by kernel_rfl
theorem ok__law_gone_through (B : Bs K mg) : FnE 9 P w K mg base (S "_law_gone_through") 3 m__law_gone_through := by
  obtain ⟨fd, F⟩ := B.says.def_ 9 (d := d__law_gone_through) (by rfl)
  have T : Tb 6 glo__law_gone_through tb__law_gone_through fld P w K mg base := (((Bs.tab (P := P) (w := w) (base := base) B).mono (j := 6) (by decide)).addF ((ok__law_free B).mono (by decide)))
  have G := fn_step (cel := celOf (defScope (top 27))) (mus := mus) (ats := ats) T F sc__law_gone_through (by decide) (n := 3) rfl
  exact ⟨_, fd, [(S "_law_table_here"), (S "_law_some"), (S "_law_wanted")], rfl, (by unfold m__law_gone_through; rw [← tr__law_gone_through]; exact G), (FunD.bindsN F fun _ _ _ _ _ _ us hl => match us, hl with | [_, _, _], _ => by rfl), F.kp, B.glo 9 (by rfl)⟩
def N__law_core : List Str := [(S "_law_table_here"), (S "_law_names"), (S "_law_wanted"), (S "_law_found"), (S "_law_name"), (S "_law_some"), (S "_law_one"), (S "_law_rest")]
def glo__law_core : List (Str × Gb) := [((S "_law_gone_through"), .fn 3 m__law_gone_through)]
theorem sc__law_core : FnScope N__law_core [(S "_law_table_here"), (S "_law_names"), (S "_law_wanted")] (defScope (top 30)) := ⟨by kernel_rfl, by kernel_rfl, by kernel_rfl, by decide +kernel, by kernel_rfl, by decide +kernel, by decide +kernel⟩
theorem tr__law_core : tBody ⟨N__law_core, defScope (top 30), celOf (defScope (top 30)), mus, glo__law_core, tb__law_core, fld, ats⟩ (defBody (top 30)) = f__law_core := by kernel_rfl
theorem ok__law_core (B : Bs K mg) : FnE 12 P w K mg base (S "_law_core") 3 m__law_core := by
  obtain ⟨fd, F⟩ := B.says.def_ 10 (d := d__law_core) (by rfl)
  have T : Tb 9 glo__law_core tb__law_core fld P w K mg base := (((Bs.tab (P := P) (w := w) (base := base) B).mono (j := 9) (by decide)).addF ((ok__law_gone_through B).mono (by decide)))
  have G := fn_step (cel := celOf (defScope (top 30))) (mus := mus) (ats := ats) T F sc__law_core (by decide) (n := 3) rfl
  exact ⟨_, fd, [(S "_law_table_here"), (S "_law_names"), (S "_law_wanted")], rfl, (by unfold m__law_core; rw [← tr__law_core]; exact G), (FunD.bindsN F fun _ _ _ _ _ _ us hl => match us, hl with | [_, _, _], _ => by rfl), F.kp, B.glo 10 (by rfl)⟩
def N__law_table : List Str := [(S "_law_lore"), (S "_law_ahead"), (S "_law_written"), (S "_law_name"), (S "_law_came"), (S "_law_looked"), (S "_law_over"), (S "_law_row")]
def glo__law_table : List (Str × Gb) := []
theorem sc__law_table : FnScope N__law_table [(S "_law_lore")] (defScope (top 23)) := ⟨by kernel_rfl, by kernel_rfl, by kernel_rfl, by decide +kernel, by kernel_rfl, by decide +kernel, by decide +kernel⟩
theorem tr__law_table : tBody ⟨N__law_table, defScope (top 23), celOf (defScope (top 23)), mus, glo__law_table, tb__law_table, fld, ats⟩ (defBody (top 23)) = f__law_table := by kernel_rfl
theorem ok__law_table (B : Bs K mg) : FnE 3 P w K mg base (S "_law_table") 1 m__law_table := by
  obtain ⟨fd, F⟩ := B.says.def_ 11 (d := d__law_table) (by rfl)
  have T : Tb 0 glo__law_table tb__law_table fld P w K mg base := (Bs.tab (P := P) (w := w) (base := base) B)
  have G := fn_step (cel := celOf (defScope (top 23))) (mus := mus) (ats := ats) T F sc__law_table (by decide) (n := 1) rfl
  exact ⟨_, fd, [(S "_law_lore")], rfl, (by unfold m__law_table; rw [← tr__law_table]; exact G), (FunD.bindsN F fun _ _ _ _ _ _ us hl => match us, hl with | [_], _ => by rfl), F.kp, B.glo 11 (by rfl)⟩
def N__law_here : List Str := [(S "_law_lore"), (S "_law_row")]
def glo__law_here : List (Str × Gb) := []
theorem sc__law_here : FnScope N__law_here [(S "_law_lore")] (defScope (top 26)) := ⟨by kernel_rfl, by kernel_rfl, by kernel_rfl, by decide +kernel, by kernel_rfl, by decide +kernel, by decide +kernel⟩
theorem tr__law_here : tBody ⟨N__law_here, defScope (top 26), celOf (defScope (top 26)), mus, glo__law_here, tb__law_here, fld, ats⟩ (defBody (top 26)) = f__law_here := by kernel_rfl
theorem ok__law_here (B : Bs K mg) : FnE 3 P w K mg base (S "_law_here") 1 m__law_here := by
  obtain ⟨fd, F⟩ := B.says.def_ 12 (d := d__law_here) (by rfl)
  have T : Tb 0 glo__law_here tb__law_here fld P w K mg base := (Bs.tab (P := P) (w := w) (base := base) B)
  have G := fn_step (cel := celOf (defScope (top 26))) (mus := mus) (ats := ats) T F sc__law_here (by decide) (n := 1) rfl
  exact ⟨_, fd, [(S "_law_lore")], rfl, (by unfold m__law_here; rw [← tr__law_here]; exact G), (FunD.bindsN F fun _ _ _ _ _ _ us hl => match us, hl with | [_], _ => by rfl), F.kp, B.glo 12 (by rfl)⟩
def N__law_same : List Str := [(S "_law_found"), (S "_law_due"), (S "_law_k")]
def glo__law_same : List (Str × Gb) := []
theorem sc__law_same : FnScope N__law_same [(S "_law_found"), (S "_law_due")] (defScope (top 28)) := ⟨by kernel_rfl, by kernel_rfl, by kernel_rfl, by decide +kernel, by kernel_rfl, by decide +kernel, by decide +kernel⟩
theorem tr__law_same (m : List D → M D) : tBody ⟨N__law_same, defScope (top 28), celOf (defScope (top 28)), mus, ((S "_law_same"), .fn 2 m) :: glo__law_same, tb__law_same, fld, ats⟩ (defBody (top 28)) = f__law_same m := by kernel_rfl
theorem okr__law_same (B : Bs K mg) : ∀ r : Nat, FnE (0 + 3 * r) P w K mg base (S "_law_same") 2 (m__law_same_ r)
  | 0 => by
    obtain ⟨fd, F⟩ := B.says.def_ 13 (d := d__law_same) (by rfl)
    exact ⟨_, fd, [(S "_law_found"), (S "_law_due")], rfl, ⟨fun vs H Q E h => (by obtain ⟨_, _, _, _, _, r, hl, _⟩ := h; rw [← r.length, hl]; rfl), fun A outer s H args us vs Q E hr e0 hb r h => (by obtain ⟨_, _, _, _, _, _, _, z⟩ := h; exact z.elim)⟩, (FunD.bindsN F fun _ _ _ _ _ _ us hl => match us, hl with | [_, _], _ => by rfl), F.kp, B.glo 13 (by rfl)⟩
  | r + 1 => by
    obtain ⟨fd, F⟩ := B.says.def_ 13 (d := d__law_same) (by rfl)
    have T : Tb (0 + 3 * r) (((S "_law_same"), .fn 2 (m__law_same_ r)) :: glo__law_same) tb__law_same fld P w K mg base := ((Bs.tab (P := P) (w := w) (base := base) B).mono (Nat.le_add_right _ _)).addF (okr__law_same B r)
    have G := fn_step (cel := celOf (defScope (top 28))) (mus := mus) (ats := ats) T F sc__law_same (by decide) (n := 2) rfl
    exact ⟨_, fd, [(S "_law_found"), (S "_law_due")], rfl, (by rw [show (m__law_same_ (r + 1)) = mF 3 2 (f__law_same (m__law_same_ r)) from rfl, ← tr__law_same]; exact G), (FunD.bindsN F fun _ _ _ _ _ _ us hl => match us, hl with | [_, _], _ => by rfl), F.kp, B.glo 13 (by rfl)⟩
theorem ok__law_same (B : Bs K mg) : FnE 36 P w K mg base (S "_law_same") 2 m__law_same := okr__law_same B 12
def N_here : List Str := [(S "lore"), (S "row")]
def glo_here : List (Str × Gb) := []
theorem sc_here : FnScope N_here [(S "lore")] (defScope (top 5)) := ⟨by kernel_rfl, by kernel_rfl, by kernel_rfl, by decide +kernel, by kernel_rfl, by decide +kernel, by decide +kernel⟩
theorem tr_here : tBody ⟨N_here, defScope (top 5), celOf (defScope (top 5)), mus, glo_here, tb_here, fld, ats⟩ (defBody (top 5)) = f_here := by kernel_rfl
theorem ok_here (B : Bs K mg) : FnE 3 P w K mg base (S "here") 1 m_here := by
  obtain ⟨fd, F⟩ := B.says.def_ 14 (d := d_here) (by rfl)
  have T : Tb 0 glo_here tb_here fld P w K mg base := (Bs.tab (P := P) (w := w) (base := base) B)
  have G := fn_step (cel := celOf (defScope (top 5))) (mus := mus) (ats := ats) T F sc_here (by decide) (n := 1) rfl
  exact ⟨_, fd, [(S "lore")], rfl, (by unfold m_here; rw [← tr_here]; exact G), (FunD.bindsN F fun _ _ _ _ _ _ us hl => match us, hl with | [_], _ => by rfl), F.kp, B.glo 14 (by rfl)⟩
def N_without_all : List Str := [(S "names"), (S "gone"), (S "name")]
def glo_without_all : List (Str × Gb) := []
theorem sc_without_all : FnScope N_without_all [(S "names"), (S "gone")] (defScope (top 10)) := ⟨by kernel_rfl, by kernel_rfl, by kernel_rfl, by decide +kernel, by kernel_rfl, by decide +kernel, by decide +kernel⟩
theorem tr_without_all : tBody ⟨N_without_all, defScope (top 10), celOf (defScope (top 10)), mus, glo_without_all, tb_without_all, fld, ats⟩ (defBody (top 10)) = f_without_all := by kernel_rfl
theorem ok_without_all (B : Bs K mg) : FnE 3 P w K mg base (S "without_all") 2 m_without_all := by
  obtain ⟨fd, F⟩ := B.says.def_ 15 (d := d_without_all) (by rfl)
  have T : Tb 0 glo_without_all tb_without_all fld P w K mg base := (Bs.tab (P := P) (w := w) (base := base) B)
  have G := fn_step (cel := celOf (defScope (top 10))) (mus := mus) (ats := ats) T F sc_without_all (by decide) (n := 2) rfl
  exact ⟨_, fd, [(S "names"), (S "gone")], rfl, (by unfold m_without_all; rw [← tr_without_all]; exact G), (FunD.bindsN F fun _ _ _ _ _ _ us hl => match us, hl with | [_, _], _ => by rfl), F.kp, B.glo 15 (by rfl)⟩
def N_Counted_is_free : List Str := [(S "self"), (S "left"), (S "name"), (S "one")]
def glo_Counted_is_free : List (Str × Gb) := []
theorem sc_Counted_is_free : FnScope N_Counted_is_free [(S "self"), (S "left"), (S "name")] (defScope (sub 11 1)) := ⟨by kernel_rfl, by kernel_rfl, by kernel_rfl, by decide +kernel, by kernel_rfl, by decide +kernel, by decide +kernel⟩
theorem tr_Counted_is_free : tBody ⟨N_Counted_is_free, defScope (sub 11 1), celOf (defScope (sub 11 1)), mus, glo_Counted_is_free, tb_Counted_is_free, fld, ats⟩ (defBody (sub 11 1)) = f_Counted_is_free := by kernel_rfl
theorem ok_Counted_is_free (B : Bs K mg) : MtE 3 P w K mg base "Counted" "is_free" 2 m_Counted_is_free := by
  obtain ⟨fd, F⟩ := B.says.def_ 16 (d := d_Counted_is_free) (by rfl)
  have T : Tb 0 glo_Counted_is_free tb_Counted_is_free fld P w K mg base := (Bs.tab (P := P) (w := w) (base := base) B)
  have G := fn_step (cel := celOf (defScope (sub 11 1))) (mus := mus) (ats := ats) T F sc_Counted_is_free (by decide) (n := 3) rfl
  exact ⟨He.cls_ok (B.says.fact 24 (f := .cls (S "Counted")) (by rfl)), _, He.meth_ok (B.says.fact 29 (f := .meth (S "Counted") (S "is_free")) (by rfl)), fd, [(S "self"), (S "left"), (S "name")], rfl, (by unfold m_Counted_is_free; rw [← tr_Counted_is_free]; exact G), (FunD.bindsN F fun _ _ _ _ _ _ us hl => match us, hl with | [_, _, _], _ => by rfl), F.kp⟩
def N_Counted_free_in : List Str := [(S "self"), (S "left"), (S "name")]
def glo_Counted_free_in : List (Str × Gb) := []
theorem sc_Counted_free_in : FnScope N_Counted_free_in [(S "self"), (S "left")] (defScope (sub 11 2)) := ⟨by kernel_rfl, by kernel_rfl, by kernel_rfl, by decide +kernel, by kernel_rfl, by decide +kernel, by decide +kernel⟩
theorem tr_Counted_free_in : tBody ⟨N_Counted_free_in, defScope (sub 11 2), celOf (defScope (sub 11 2)), mus, glo_Counted_free_in, tb_Counted_free_in, fld, ats⟩ (defBody (sub 11 2)) = f_Counted_free_in := by kernel_rfl
theorem ok_Counted_free_in (B : Bs K mg) : MtE 6 P w K mg base "Counted" "free_in" 1 m_Counted_free_in := by
  obtain ⟨fd, F⟩ := B.says.def_ 17 (d := d_Counted_free_in) (by rfl)
  have T : Tb 3 glo_Counted_free_in tb_Counted_free_in fld P w K mg base := (((Bs.tab (P := P) (w := w) (base := base) B).mono (j := 3) (by decide)).addT ((ok_Counted_is_free B).mono (by decide)))
  have G := fn_step (cel := celOf (defScope (sub 11 2))) (mus := mus) (ats := ats) T F sc_Counted_free_in (by decide) (n := 2) rfl
  exact ⟨He.cls_ok (B.says.fact 24 (f := .cls (S "Counted")) (by rfl)), _, He.meth_ok (B.says.fact 30 (f := .meth (S "Counted") (S "free_in")) (by rfl)), fd, [(S "self"), (S "left")], rfl, (by unfold m_Counted_free_in; rw [← tr_Counted_free_in]; exact G), (FunD.bindsN F fun _ _ _ _ _ _ us hl => match us, hl with | [_, _], _ => by rfl), F.kp⟩
def N_Counted_taken : List Str := [(S "self"), (S "left"), (S "some"), (S "found"), (S "free_names"), (S "name")]
def glo_Counted_taken : List (Str × Gb) := [((S "without_all"), .fn 2 m_without_all)]
theorem sc_Counted_taken : FnScope N_Counted_taken [(S "self"), (S "left"), (S "some")] (defScope (sub 11 3)) := ⟨by kernel_rfl, by kernel_rfl, by kernel_rfl, by decide +kernel, by kernel_rfl, by decide +kernel, by decide +kernel⟩
theorem tr_Counted_taken : tBody ⟨N_Counted_taken, defScope (sub 11 3), celOf (defScope (sub 11 3)), mus, glo_Counted_taken, tb_Counted_taken, fld, ats⟩ (defBody (sub 11 3)) = f_Counted_taken := by kernel_rfl
theorem ok_Counted_taken (B : Bs K mg) : MtE 9 P w K mg base "Counted" "taken" 2 m_Counted_taken := by
  obtain ⟨fd, F⟩ := B.says.def_ 18 (d := d_Counted_taken) (by rfl)
  have T : Tb 6 glo_Counted_taken tb_Counted_taken fld P w K mg base := ((((Bs.tab (P := P) (w := w) (base := base) B).mono (j := 6) (by decide)).addF ((ok_without_all B).mono (by decide))).addT ((ok_Counted_free_in B).mono (by decide)))
  have G := fn_step (cel := celOf (defScope (sub 11 3))) (mus := mus) (ats := ats) T F sc_Counted_taken (by decide) (n := 3) rfl
  exact ⟨He.cls_ok (B.says.fact 24 (f := .cls (S "Counted")) (by rfl)), _, He.meth_ok (B.says.fact 31 (f := .meth (S "Counted") (S "taken")) (by rfl)), fd, [(S "self"), (S "left"), (S "some")], rfl, (by unfold m_Counted_taken; rw [← tr_Counted_taken]; exact G), (FunD.bindsN F fun _ _ _ _ _ _ us hl => match us, hl with | [_, _, _], _ => by rfl), F.kp⟩
def N_Counted_left_of : List Str := [(S "self"), (S "lot")]
def glo_Counted_left_of : List (Str × Gb) := [((S "without_all"), .fn 2 m_without_all)]
theorem sc_Counted_left_of : FnScope N_Counted_left_of [(S "self"), (S "lot")] (defScope (sub 11 4)) := ⟨by kernel_rfl, by kernel_rfl, by kernel_rfl, by decide +kernel, by kernel_rfl, by decide +kernel, by decide +kernel⟩
theorem tr_Counted_left_of : tBody ⟨N_Counted_left_of, defScope (sub 11 4), celOf (defScope (sub 11 4)), mus, glo_Counted_left_of, tb_Counted_left_of, fld, ats⟩ (defBody (sub 11 4)) = f_Counted_left_of := by kernel_rfl
theorem ok_Counted_left_of (B : Bs K mg) : MtE 12 P w K mg base "Counted" "left_of" 1 m_Counted_left_of := by
  obtain ⟨fd, F⟩ := B.says.def_ 19 (d := d_Counted_left_of) (by rfl)
  have T : Tb 9 glo_Counted_left_of tb_Counted_left_of fld P w K mg base := ((((Bs.tab (P := P) (w := w) (base := base) B).mono (j := 9) (by decide)).addF ((ok_without_all B).mono (by decide))).addT ((ok_Counted_taken B).mono (by decide)))
  have G := fn_step (cel := celOf (defScope (sub 11 4))) (mus := mus) (ats := ats) T F sc_Counted_left_of (by decide) (n := 2) rfl
  exact ⟨He.cls_ok (B.says.fact 24 (f := .cls (S "Counted")) (by rfl)), _, He.meth_ok (B.says.fact 32 (f := .meth (S "Counted") (S "left_of")) (by rfl)), fd, [(S "self"), (S "lot")], rfl, (by unfold m_Counted_left_of; rw [← tr_Counted_left_of]; exact G), (FunD.bindsN F fun _ _ _ _ _ _ us hl => match us, hl with | [_, _], _ => by rfl), F.kp⟩
def N_place_of : List Str := [(S "lore"), (S "name"), (S "names")]
def glo_place_of : List (Str × Gb) := [((S "here"), .fn 1 m_here)]
theorem sc_place_of : FnScope N_place_of [(S "lore"), (S "name")] (defScope (top 6)) := ⟨by kernel_rfl, by kernel_rfl, by kernel_rfl, by decide +kernel, by kernel_rfl, by decide +kernel, by decide +kernel⟩
theorem tr_place_of : tBody ⟨N_place_of, defScope (top 6), celOf (defScope (top 6)), mus, glo_place_of, tb_place_of, fld, ats⟩ (defBody (top 6)) = f_place_of := by kernel_rfl
theorem ok_place_of (B : Bs K mg) : FnE 6 P w K mg base (S "place_of") 2 m_place_of := by
  obtain ⟨fd, F⟩ := B.says.def_ 20 (d := d_place_of) (by rfl)
  have T : Tb 3 glo_place_of tb_place_of fld P w K mg base := (((Bs.tab (P := P) (w := w) (base := base) B).mono (j := 3) (by decide)).addF ((ok_here B).mono (by decide)))
  have G := fn_step (cel := celOf (defScope (top 6))) (mus := mus) (ats := ats) T F sc_place_of (by decide) (n := 2) rfl
  exact ⟨_, fd, [(S "lore"), (S "name")], rfl, (by unfold m_place_of; rw [← tr_place_of]; exact G), (FunD.bindsN F fun _ _ _ _ _ _ us hl => match us, hl with | [_, _], _ => by rfl), F.kp, B.glo 16 (by rfl)⟩
def N_row_of : List Str := [(S "lore"), (S "name")]
def glo_row_of : List (Str × Gb) := [((S "place_of"), .fn 2 m_place_of)]
theorem sc_row_of : FnScope N_row_of [(S "lore"), (S "name")] (defScope (top 7)) := ⟨by kernel_rfl, by kernel_rfl, by kernel_rfl, by decide +kernel, by kernel_rfl, by decide +kernel, by decide +kernel⟩
theorem tr_row_of : tBody ⟨N_row_of, defScope (top 7), celOf (defScope (top 7)), mus, glo_row_of, tb_row_of, fld, ats⟩ (defBody (top 7)) = f_row_of := by kernel_rfl
theorem ok_row_of (B : Bs K mg) : FnE 9 P w K mg base (S "row_of") 2 m_row_of := by
  obtain ⟨fd, F⟩ := B.says.def_ 21 (d := d_row_of) (by rfl)
  have T : Tb 6 glo_row_of tb_row_of fld P w K mg base := (((Bs.tab (P := P) (w := w) (base := base) B).mono (j := 6) (by decide)).addF ((ok_place_of B).mono (by decide)))
  have G := fn_step (cel := celOf (defScope (top 7))) (mus := mus) (ats := ats) T F sc_row_of (by decide) (n := 2) rfl
  exact ⟨_, fd, [(S "lore"), (S "name")], rfl, (by unfold m_row_of; rw [← tr_row_of]; exact G), (FunD.bindsN F fun _ _ _ _ _ _ us hl => match us, hl with | [_, _], _ => by rfl), F.kp, B.glo 17 (by rfl)⟩
def N_elders : List Str := [(S "lore"), (S "name"), (S "own"), (S "row")]
def glo_elders : List (Str × Gb) := [((S "row_of"), .fn 2 m_row_of)]
theorem sc_elders : FnScope N_elders [(S "lore"), (S "name")] (defScope (top 8)) := ⟨by kernel_rfl, by kernel_rfl, by kernel_rfl, by decide +kernel, by kernel_rfl, by decide +kernel, by decide +kernel⟩
theorem tr_elders : tBody ⟨N_elders, defScope (top 8), celOf (defScope (top 8)), mus, glo_elders, tb_elders, fld, ats⟩ (defBody (top 8)) = f_elders := by kernel_rfl
theorem ok_elders (B : Bs K mg) : FnE 12 P w K mg base (S "elders") 2 m_elders := by
  obtain ⟨fd, F⟩ := B.says.def_ 22 (d := d_elders) (by rfl)
  have T : Tb 9 glo_elders tb_elders fld P w K mg base := (((Bs.tab (P := P) (w := w) (base := base) B).mono (j := 9) (by decide)).addF ((ok_row_of B).mono (by decide)))
  have G := fn_step (cel := celOf (defScope (top 8))) (mus := mus) (ats := ats) T F sc_elders (by decide) (n := 2) rfl
  exact ⟨_, fd, [(S "lore"), (S "name")], rfl, (by unfold m_elders; rw [← tr_elders]; exact G), (FunD.bindsN F fun _ _ _ _ _ _ us hl => match us, hl with | [_, _], _ => by rfl), F.kp, B.glo 18 (by rfl)⟩
def N_Counted___init__ : List Str := [(S "self"), (S "lore"), (S "one"), (S "name"), (S "row")]
def glo_Counted___init__ : List (Str × Gb) := [((S "elders"), .fn 2 m_elders), ((S "here"), .fn 1 m_here)]
theorem sc_Counted___init__ : FnScope N_Counted___init__ [(S "self"), (S "lore")] (defScope (sub 11 0)) := ⟨by kernel_rfl, by kernel_rfl, by kernel_rfl, by decide +kernel, by kernel_rfl, by decide +kernel, by decide +kernel⟩
theorem tr_Counted___init__ : tBody ⟨N_Counted___init__, defScope (sub 11 0), celOf (defScope (sub 11 0)), mus, glo_Counted___init__, tb_Counted___init__, fld, ats⟩ (defBody (sub 11 0)) = f_Counted___init__ := by kernel_rfl
theorem mk_Counted (B : Bs K mg) : MkE 15 P w K mg base (S "Counted") "Counted" 1 [] m_Counted___init__ := by
  obtain ⟨fd, F⟩ := B.says.def_ 23 (d := d_Counted___init__) (by rfl)
  have T : Tb 12 glo_Counted___init__ tb_Counted___init__ fld P w K mg base := ((((Bs.tab (P := P) (w := w) (base := base) B).mono (j := 12) (by decide)).addF ((ok_here B).mono (by decide))).addF ((ok_elders B).mono (by decide)))
  have G := fn_step (cel := celOf (defScope (sub 11 0))) (mus := mus) (ats := ats) T F sc_Counted___init__ (by decide) (n := 2) rfl
  exact ⟨⟨_, fd, [(S "self"), (S "lore")], [], [], He.mkr_ok (B.says.fact 25 (f := .mkr (S "Counted")) (by rfl)), (by unfold m_Counted___init__; rw [← tr_Counted___init__]; exact G), (FunD.bindsN F fun _ _ _ _ _ _ us hl => match us, hl with | [_, _], _ => by rfl), .nil, fun _ _ _ => .nil⟩, He.cls_ok (B.says.fact 24 (f := .cls (S "Counted")) (by rfl)), B.glo 23 (by rfl)⟩
def N_stuck : List Str := [(S "lore")]
def glo_stuck : List (Str × Gb) := [((S "Counted"), .mk "Counted" 1 [] m_Counted___init__), ((S "here"), .fn 1 m_here)]
theorem sc_stuck : FnScope N_stuck [(S "lore")] (defScope (top 12)) := ⟨by kernel_rfl, by kernel_rfl, by kernel_rfl, by decide +kernel, by kernel_rfl, by decide +kernel, by decide +kernel⟩
theorem tr_stuck : tBody ⟨N_stuck, defScope (top 12), celOf (defScope (top 12)), mus, glo_stuck, tb_stuck, fld, ats⟩ (defBody (top 12)) = f_stuck := by kernel_rfl
theorem ok_stuck (B : Bs K mg) : FnE 18 P w K mg base (S "stuck") 1 m_stuck := by
  obtain ⟨fd, F⟩ := B.says.def_ 24 (d := d_stuck) (by rfl)
  have T : Tb 15 glo_stuck tb_stuck fld P w K mg base := (((((Bs.tab (P := P) (w := w) (base := base) B).mono (j := 15) (by decide)).addF ((ok_here B).mono (by decide))).addK ((mk_Counted B).mono (by decide))).addT ((ok_Counted_left_of B).mono (by decide)))
  have G := fn_step (cel := celOf (defScope (top 12))) (mus := mus) (ats := ats) T F sc_stuck (by decide) (n := 1) rfl
  exact ⟨_, fd, [(S "lore")], rfl, (by unfold m_stuck; rw [← tr_stuck]; exact G), (FunD.bindsN F fun _ _ _ _ _ _ us hl => match us, hl with | [_], _ => by rfl), F.kp, B.glo 19 (by rfl)⟩
def N_core : List Str := [(S "lore"), (S "counted"), (S "found"), (S "name"), (S "less")]
def glo_core : List (Str × Gb) := [((S "Counted"), .mk "Counted" 1 [] m_Counted___init__), ((S "without_all"), .fn 2 m_without_all), ((S "stuck"), .fn 1 m_stuck)]
theorem sc_core : FnScope N_core [(S "lore")] (defScope (top 14)) := ⟨by kernel_rfl, by kernel_rfl, by kernel_rfl, by decide +kernel, by kernel_rfl, by decide +kernel, by decide +kernel⟩
theorem tr_core : tBody ⟨N_core, defScope (top 14), celOf (defScope (top 14)), mus, glo_core, tb_core, fld, ats⟩ (defBody (top 14)) = f_core := by kernel_rfl
theorem ok_core (B : Bs K mg) : FnE 21 P w K mg base (S "core") 1 m_core := by
  obtain ⟨fd, F⟩ := B.says.def_ 25 (d := d_core) (by rfl)
  have T : Tb 18 glo_core tb_core fld P w K mg base := ((((((Bs.tab (P := P) (w := w) (base := base) B).mono (j := 18) (by decide)).addF ((ok_stuck B).mono (by decide))).addF ((ok_without_all B).mono (by decide))).addK ((mk_Counted B).mono (by decide))).addT ((ok_Counted_left_of B).mono (by decide)))
  have G := fn_step (cel := celOf (defScope (top 14))) (mus := mus) (ats := ats) T F sc_core (by decide) (n := 1) rfl
  exact ⟨_, fd, [(S "lore")], rfl, (by unfold m_core; rw [← tr_core]; exact G), (FunD.bindsN F fun _ _ _ _ _ _ us hl => match us, hl with | [_], _ => by rfl), F.kp, B.glo 20 (by rfl)⟩
def N_core_paper : List Str := [(S "lore"), (S "names"), (S "counted"), (S "lots"), (S "name"), (S "lot")]
def glo_core_paper : List (Str × Gb) := [((S "Counted"), .mk "Counted" 1 [] m_Counted___init__), ((S "without_all"), .fn 2 m_without_all), ((S "core"), .fn 1 m_core)]
theorem sc_core_paper : FnScope N_core_paper [(S "lore")] (defScope (top 15)) := ⟨by kernel_rfl, by kernel_rfl, by kernel_rfl, by decide +kernel, by kernel_rfl, by decide +kernel, by decide +kernel⟩
theorem tr_core_paper : tBody ⟨N_core_paper, defScope (top 15), celOf (defScope (top 15)), mus, glo_core_paper, tb_core_paper, fld, ats⟩ (defBody (top 15)) = f_core_paper := by kernel_rfl
theorem ok_core_paper (B : Bs K mg) : FnE 24 P w K mg base (S "core_paper") 1 m_core_paper := by
  obtain ⟨fd, F⟩ := B.says.def_ 26 (d := d_core_paper) (by rfl)
  have T : Tb 21 glo_core_paper tb_core_paper fld P w K mg base := ((((((Bs.tab (P := P) (w := w) (base := base) B).mono (j := 21) (by decide)).addF ((ok_core B).mono (by decide))).addF ((ok_without_all B).mono (by decide))).addK ((mk_Counted B).mono (by decide))).addT ((ok_Counted_taken B).mono (by decide)))
  have G := fn_step (cel := celOf (defScope (top 15))) (mus := mus) (ats := ats) T F sc_core_paper (by decide) (n := 1) rfl
  exact ⟨_, fd, [(S "lore")], rfl, (by unfold m_core_paper; rw [← tr_core_paper]; exact G), (FunD.bindsN F fun _ _ _ _ _ _ us hl => match us, hl with | [_], _ => by rfl), F.kp, B.glo 21 (by rfl)⟩
def N_law : List Str := [(S "_law_script"), (S "_law_well"), (S "_law_turn"), (S "_law_lore"), (S "_law_kept"), (S "_law_table_here"), (S "_law_names"), (S "_law_due"), (S "_law_rows"), (S "_law_name"), (S "_law_others"), (S "_law_one"), (S "_law_paper"), (S "_law_again")]
def glo_law : List (Str × Gb) := [((S "core_paper"), .fn 1 m_core_paper), ((S "core"), .fn 1 m_core), ((S "_law_same"), .fn 2 m__law_same), ((S "_law_gone_through"), .fn 3 m__law_gone_through), ((S "_law_draw"), .fn 2 m__law_draw), ((S "_law_here"), .fn 1 m__law_here), ((S "_law_table"), .fn 1 m__law_table), ((S "_law_core"), .fn 3 m__law_core), ((S "_law_bad"), .fn 2 m__law_bad), ((S "_law_open"), .fn 1 m__law_open)]
theorem sc_law : FnScope N_law [(S "_law_script")] (defScope (top 31)) := ⟨by kernel_rfl, by kernel_rfl, by kernel_rfl, by decide +kernel, by kernel_rfl, by decide +kernel, by decide +kernel⟩
theorem tr_law : tBody ⟨N_law, defScope (top 31), celOf (defScope (top 31)), mus, glo_law, tb_law, fld, ats⟩ (defBody (top 31)) = f_law := by kernel_rfl
theorem ok_law (B : Bs K mg) : FnE 39 P w K mg base (S "law") 1 m_law := by
  obtain ⟨fd, F⟩ := B.says.def_ 27 (d := d_law) (by rfl)
  have T : Tb 36 glo_law tb_law fld P w K mg base := ((((((((((((Bs.tab (P := P) (w := w) (base := base) B).mono (j := 36) (by decide)).addF ((ok__law_open B).mono (by decide))).addF ((ok__law_bad B).mono (by decide))).addF ((ok__law_core B).mono (by decide))).addF ((ok__law_table B).mono (by decide))).addF ((ok__law_here B).mono (by decide))).addF ((ok__law_draw B).mono (by decide))).addF ((ok__law_gone_through B).mono (by decide))).addF ((ok__law_same B).mono (by decide))).addF ((ok_core B).mono (by decide))).addF ((ok_core_paper B).mono (by decide)))
  have G := fn_step (cel := celOf (defScope (top 31))) (mus := mus) (ats := ats) T F sc_law (by decide) (n := 1) rfl
  exact ⟨_, fd, [(S "_law_script")], rfl, (by unfold m_law; rw [← tr_law]; exact G), (FunD.bindsN F fun _ _ _ _ _ _ us hl => match us, hl with | [_], _ => by rfl), F.kp, B.glo 22 (by rfl)⟩
theorem law_fn (B : Bs K mg) : ∃ fd : FuncData, (∀ (s : Shared) (u : Value), BindsTo s fd ⟨[u], []⟩ [((S "_law_script"), u)]) ∧ ∀ (P : Program) (w : World) (base : Heap), FnG P w K mg base 39 (He.ga K (S "law")) fd [(S "_law_script")] (spD ⟨K, P, w⟩ 1 m_law) := by
  obtain ⟨fd, F⟩ := B.says.def_ 27 (d := d_law) (by rfl)
  have b := FunD.bindsA (ps := [(S "_law_script")]) F fun _ _ _ _ _ _ us hl => match us, hl with | [_], _ => by rfl
  refine ⟨fd, fun s v => b s [v] rfl, fun P w base => ?_⟩
  have T : Tb 36 glo_law tb_law fld P w K mg base := ((((((((((((Bs.tab (P := P) (w := w) (base := base) B).mono (j := 36) (by decide)).addF ((ok__law_open B).mono (by decide))).addF ((ok__law_bad B).mono (by decide))).addF ((ok__law_core B).mono (by decide))).addF ((ok__law_table B).mono (by decide))).addF ((ok__law_here B).mono (by decide))).addF ((ok__law_draw B).mono (by decide))).addF ((ok__law_gone_through B).mono (by decide))).addF ((ok__law_same B).mono (by decide))).addF ((ok_core B).mono (by decide))).addF ((ok_core_paper B).mono (by decide)))
  have G := fn_step (cel := celOf (defScope (top 31))) (mus := mus) (ats := ats) T F sc_law (by decide) (n := 1) rfl
  unfold m_law
  rw [← tr_law]
  exact G
end
end Dk
open PySem PySem.W PySem.Calls PyProof.Rows in
theorem Dk.holds_of (law : ∀ ns : List Int, ns.length ≤ 63 → ∃ h', Dk.m_law [.scr ns] [] = .ok (.bl true) h') : PySem.Challenge.rw_sheetsover_k37_cores_told.Holds := by
  w_on; o_law
  refine HandSHeadRun.head_any (r := OpenLaw.row PySem.Challenge.rw_sheetsover_k37_cores_told) (q := view (OpenLaw.row PySem.Challenge.rw_sheetsover_k37_cores_told).prog [31]) (H := Dk.hk) (ob := Dk.ob) (M := 20000) (loose := Dk.loose) (d := HandSHeadRun.topDef (OpenLaw.row PySem.Challenge.rw_sheetsover_k37_cores_told).prog 31) (kwd := []) Dk.ob_eq
    (by kernel_rfl) (fun s => by kernel_rfl) Dk.run (by kernel_rfl) (by kernel_rfl) (by kernel_rfl) (by rfl) (by first | assumption | decide +kernel) (by decide +kernel) ⟨rfl, rfl, rfl, rfl, rfl, by decide +kernel⟩ ?hw ?hc
  case hw => w_witness2
  case hc =>
    refine Dk.walk_go (l := PySem.Challenge.rw_sheetsover_k37_cores_told) (n := 63) (k := 39) (x := (Str.ofString "_law_script")) (m := Dk.m_law) rfl (by decide) (by kernel_rfl) ⟨⟨rfl, by decide, by decide⟩, rfl⟩ ?F law
    intro w mg fa h Y G hmg0
    obtain ⟨K, KX, ck, c⟩ := Y
    have B : Dk.Bs K mg := ⟨c, ck, h, KX, G⟩
    have hmg : mg (Str.ofString "law") = some (.ref fa) := by
      have e : (HandSHeadRun.topDef (OpenLaw.row PySem.Challenge.rw_sheetsover_k37_cores_told).prog 31).name = (Str.ofString "law") := by kernel_rfl
      rw [← e]
      exact hmg0
    have e2 := hmg.symm.trans (B.glo 22 (x := Str.ofString "law") (by rfl))
    cases e2
    obtain ⟨fd, b, F⟩ := Dk.law_fn B
    exact ⟨K, fd, KX, b, fun base _ _ => F _ w base⟩
end S_H_k37
end
theorem PySem.Challenge.cw_sheetsover_k37_cores_told_holds : PySem.Challenge.rw_sheetsover_k37_cores_told.Holds := by
  exact Dk.holds_of fun ns _ => Dk.law_ok ns
