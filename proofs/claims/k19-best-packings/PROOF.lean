import PyProof.Rows.All
import Wide.All
import OpenK.AllK
import Wide.FinOn
import HandS.ForMost
import HandS.IsInst
import HandS.Property
import HandS.ClsMeth
import HandS.Defaults
import HandS.FStr
import HandS.Style
import HandS.TupAny
import HandS.TupMul
import HandS.Wide
import HandS.SortInts
import HandS.Walk
import HandS.Zip
import HandS.Conv
import HandS.RaiseMore
import HandS.TupLe
import PyProof.Rows.SortShellAny
import KE.GoesEnum
import KE.KCallOwn
import OpenK.KOps
import PyProof.InstEq
import HandS.Flow
import HandS.Exc
import HandS.Star
import HandS.Small
import HandS.Iter
import KE.GoesMore
import KE.GoesZip
import HandS.Sort
import PySem.Challenge.RW_shutboxes_k19_best_packings_that_fit
section
set_option Elab.async false
set_option linter.all false
set_option maxRecDepth 100000
set_option maxHeartbeats 2000000
/-! DL, part a: abstract data, the store, the language, its interpreter. No machine in sight. -/
namespace DL
open PySem
/-- abstract values: tuples by value, what may change by its number in the store -/
inductive D where
  | non | bl (b : Bool) | int (i : Int) | str (x : Str)
  | tup (ds : List D) | ref (n : Nat) | glo (x : Str) | bty (n : String) | scr (ds : List D) | fl (ds : List D) | pt (ds : List D) | ob (c : Str) (ns : List Str) (ds : List D)
deriving Inhabited
mutual
def D.beq : D → D → Bool
  | .non, .non => true
  | .bl a, .bl b => a == b
  | .int a, .int b => a == b
  | .str a, .str b => a == b
  | .tup a, .tup b => D.beqs a b
  | .ref a, .ref b => a == b
  | .glo a, .glo b => a == b
  | .bty a, .bty b => a == b
  | .scr a, .scr b => D.beqs a b
  | .fl a, .fl b => D.beqs a b
  | .pt a, .pt b => D.beqs a b
  | .ob c ns a, .ob c' ns' b => c == c' && (ns == ns' && D.beqs a b)
  | _, _ => false
def D.beqs : List D → List D → Bool
  | [], [] => true
  | a :: as, b :: bs => D.beq a b && D.beqs as bs
  | _, _ => false
end
mutual
theorem D.beq_self : ∀ a : D, D.beq a a = true
  | .non => rfl
  | .bl a => by simp [D.beq]
  | .int a => by simp [D.beq]
  | .str a => by simp [D.beq]
  | .tup a => by simp [D.beq, D.beqs_self a]
  | .ref a => by simp [D.beq]
  | .glo a => by simp [D.beq]
  | .bty a => by simp [D.beq]
  | .scr a => by simp [D.beq, D.beqs_self a]
  | .fl a => by simp [D.beq, D.beqs_self a]
  | .pt a => by simp [D.beq, D.beqs_self a]
  | .ob c ns a => by simp [D.beq, D.beqs_self a]
theorem D.beqs_self : ∀ a : List D, D.beqs a a = true
  | [] => rfl
  | a :: as => by simp [D.beqs, D.beq_self a, D.beqs_self as]
end
mutual
theorem D.eq_of : ∀ a b : D, D.beq a b = true → a = b
  | .non, b, h => by cases b <;> simp_all [D.beq]
  | .bl a, b, h => by cases b <;> simp_all [D.beq]
  | .int a, b, h => by cases b <;> simp_all [D.beq]
  | .str a, b, h => by cases b <;> simp_all [D.beq]
  | .tup a, b, h => by
    cases b <;> simp only [D.beq] at h <;> try cases h
    rename_i b; rw [D.eqs_of a b h]
  | .ref a, b, h => by cases b <;> simp_all [D.beq]
  | .glo a, b, h => by cases b <;> simp_all [D.beq]
  | .bty a, b, h => by cases b <;> simp_all [D.beq]
  | .scr a, b, h => by
    cases b <;> simp only [D.beq] at h <;> try cases h
    rename_i b; rw [D.eqs_of a b h]
  | .fl a, b, h => by
    cases b <;> simp only [D.beq] at h <;> try cases h
    rename_i b; rw [D.eqs_of a b h]
  | .pt a, b, h => by
    cases b <;> simp only [D.beq] at h <;> try cases h
    rename_i b; rw [D.eqs_of a b h]
  | .ob c ns a, b, h => by
    cases b <;> simp only [D.beq, Bool.and_eq_true, beq_iff_eq] at h <;> try cases h
    rename_i c' ns' b h1 h2
    rw [h1, h2.1, D.eqs_of a b h2.2]
theorem D.eqs_of : ∀ a b : List D, D.beqs a b = true → a = b
  | [], [], _ => rfl
  | [], _ :: _, h => by simp [D.beqs] at h
  | _ :: _, [], h => by simp [D.beqs] at h
  | a :: as, b :: bs, h => by
    simp only [D.beqs, Bool.and_eq_true] at h
    rw [D.eq_of a b h.1, D.eqs_of as bs h.2]
end
/-- what stands in the store -/
inductive O where
  | lst (ds : List D) | ins (c : Str) (fs : List (Str × D)) | dct (fz : Bool) (kvs : List (List L2.Key × D))
deriving Inhabited
abbrev Mem := List O
/-- a computation: none: the interpreter does not say; error: an exception -/
abbrev R (α : Type) := Mem → Option (Except D α × Mem)
@[reducible] def ret {α : Type} (a : α) : R α := fun M => some (.ok a, M)
@[reducible] def bnd {α β : Type} (m : R α) (f : α → R β) : R β := fun M =>
  match m M with
  | none => none
  | some (.error e, M') => some (.error e, M')
  | some (.ok a, M') => f a M'
@[reducible] def fail {α : Type} : R α := fun _ => none
/-- what may be missing -/
@[reducible] def opt {α : Type} (o : Option α) : R α := fun M => match o with | none => none | some a => some (.ok a, M)
instance : Monad R where
  pure := ret
  bind := bnd
abbrev Env := List (Option D)
/-! ### data -/
def mapO {α β : Type} (f : α → Option β) : List α → Option (List β)
  | [] => some []
  | a :: as => match f a, mapO f as with
    | some b, some bs => some (b :: bs)
    | _, _ => none
def toPy (M : Mem) : Nat → D → Option PyData
  | 0, _ => none
  | _ + 1, .non => some .none
  | _ + 1, .bl b => some (.bool b)
  | _ + 1, .int i => some (.int i)
  | _ + 1, .str x => some (.str x)
  | n + 1, .tup ds => (mapO (toPy M n) ds).map .tuple
  | n + 1, .scr ds => (mapO (toPy M n) ds).map .list
  | n + 1, .fl ds => (mapO (toPy M n) ds).map .list
  | n + 1, .pt ds => (mapO (toPy M n) ds).map .tuple
  | n + 1, .ref a => match M[a]? with
    | some (.lst ds) => (mapO (toPy M n) ds).map .list
    | _ => none
  | _ + 1, .glo _ => none
  | _ + 1, .ob _ _ _ => none
  | _ + 1, .bty _ => none
/-- None, truths, numbers, texts -/
def D.flat : D → Bool
  | .non | .bl _ | .int _ | .str _ => true
  | _ => false
/-- == of such -/
def D.feq : D → D → Bool
  | .non, .non => true
  | .bl a, .bl b => a == b
  | .bl a, .int b => (if a then 1 else 0) == b
  | .int a, .bl b => a == (if b then 1 else 0)
  | .int a, .int b => a == b
  | .str a, .str b => a == b
  | _, _ => false
def cut {α : Type} (xs : List α) (lo hi : Option Int) : List α := (xs.drop (HT.sIx xs.length 0 lo)).take (HT.sIx xs.length xs.length hi - HT.sIx xs.length 0 lo)
/-! ### operators -/
inductive BinO where | add | sub | mul | mod | fdiv | pow
inductive CmpO where | eq | ne | lt | le | gt | ge | isO | isNot | inO | notIn
def small (i : Int) : Bool := decide (-(2 ^ 64) < i ∧ i < 2 ^ 64)
def new (o : O) : R D := fun M => some (.ok (.ref M.length), M ++ [o])
def seqOf (M : Mem) : D → Option (List D)
  | .tup ds => some ds
  | .pt ds => some ds
  | .fl ds => some ds
  | .scr ds => some ds
  | .ref n => match M[n]? with
    | some (.lst ds) => some ds
    | _ => none
  | _ => none
def lstOf (M : Mem) : D → Option (List D)
  | .fl ds => some ds
  | .ref n => match M[n]? with
    | some (.lst ds) => some ds
    | _ => none
  | _ => none
def tlOf (M : Mem) : D → Option (List D)
  | .tup ds => some ds
  | .pt ds => some ds
  | .fl ds => some ds
  | .ref n => match M[n]? with
    | some (.lst ds) => some ds
    | _ => none
  | _ => none
def intsOf : List D → Option (List Int) := mapO fun | .int i => some i | _ => none
def strsOf : List D → Option (List Str) := mapO fun | .str i => some i | _ => none
def blsOf : List D → Option (List Bool) := mapO fun | .bl i => some i | _ => none
def addD (x y : D) : R D :=
  match x, y with
  | .int i, .int j => ret (.int (i + j))
  | .str a, .str b => if a.length + b.length ≤ sizeLine then ret (.str (a ++ b)) else fail
  | .tup a, .tup b => if a.length + b.length ≤ sizeLine then ret (.tup (a ++ b)) else fail
  | _, _ => fun M => match lstOf M x, lstOf M y with
    | some xs, some ys => if xs.length + ys.length ≤ sizeLine then new (.lst (xs ++ ys)) M else none
    | _, _ => none
def subD (x y : D) : R D :=
  match x, y with
  | .int i, .int j => ret (.int (i - j))
  | _, _ => fail
def mulD (x y : D) : R D :=
  match x, y with
  | .int i, .int j => if small i || small j then ret (.int (i * j)) else fail
  | .tup a, .int k => if a.isEmpty = false ∧ 2 ≤ k ∧ k ≤ 1000 ∧ a.length ≤ 1000 then ret (.tup (List.replicate k.toNat a).flatten) else fail
  | _, .int k => fun M => match lstOf M x with
    | some xs => if -(2 ^ 63) ≤ k ∧ k < 2 ^ 63 ∧ xs.length * k.toNat ≤ sizeLine then new (.lst (List.replicate k.toNat xs).flatten) M else none
    | none => none
  | _, _ => fail
def modD (x y : D) : R D :=
  match x, y with
  | .int i, .int j => if 0 < j then ret (.int (i % j)) else fail
  | _, _ => fail
def fdivD (x y : D) : R D :=
  match x, y with
  | .int i, .int j => if 0 < j ∧ j < 1073741824 then ret (.int (i / j)) else fail
  | _, _ => fail
def powD (x y : D) : R D :=
  match x, y with
  | .int i, .int j => if 0 ≤ j ∧ j ≤ 1000000 ∧ i.natAbs < 2 ^ 64 then ret (.int (i ^ j.toNat)) else fail
  | _, _ => fail
def binD : BinO → D → D → R D
  | .add => addD | .sub => subD | .mul => mulD | .mod => modD | .fdiv => fdivD | .pow => powD
def eqD (x y : D) : R Bool := fun M =>
  match toPy M 20 x, toPy M 20 y with
  | some a, some b => if SeqAt.shaped a && SeqAt.shaped b then some (.ok (PyData.eqv a b), M) else none
  | _, _ => none
def inSeq (x : D) (ys : List D) : Bool := ys.any fun y => D.feq y x
def inD (x y : D) : R Bool := fun M =>
  match x, y with
  | .str a, .str b => match a.cps.toList with
    | [c] => some (.ok (decide (c ∈ b.cps.toList)), M)
    | _ => none
  | _, _ => match seqOf M y with
    | some ys => if x.flat && ys.all D.flat then some (.ok (inSeq x ys), M) else none
    | none => none
def isD (x y : D) : Option Bool :=
  match y, x with
  | .non, .non => some true
  | .non, .glo _ => none
  | .non, _ => some false
  | .bl a, .bl b => some (b == a)
  | _, _ => none
def ltD (x y : D) : R D :=
  match x, y with
  | .int i, .int j => ret (.bl (decide (i < j)))
  | .str a, .str b => ret (.bl (decide (a.cps.toList < b.cps.toList)))
  | .tup a, .tup b => bnd (opt (intsOf a)) fun ns => bnd (opt (intsOf b)) fun ms => ret (.bl (HT.lexLt ns ms))
  | _, _ => fail
def leD (x y : D) : R D :=
  match x, y with
  | .int i, .int j => ret (.bl (decide (i ≤ j)))
  | .str a, .str b => ret (.bl (!decide (b.cps.toList < a.cps.toList)))
  | _, _ => fail
def gtD (x y : D) : R D :=
  match x, y with
  | .int i, .int j => ret (.bl (decide (j < i)))
  | .str a, .str b => ret (.bl (decide (b.cps.toList < a.cps.toList)))
  | _, _ => fail
def geD (x y : D) : R D :=
  match x, y with
  | .int i, .int j => ret (.bl (decide (j ≤ i)))
  | .str a, .str b => ret (.bl (!decide (a.cps.toList < b.cps.toList)))
  | _, _ => fail
def cmpD : CmpO → D → D → R D
  | .eq => fun x y => bnd (eqD x y) fun b => ret (.bl b)
  | .ne => fun x y => bnd (eqD x y) fun b => ret (.bl (!b))
  | .lt => ltD | .le => leD | .gt => gtD | .ge => geD
  | .isO => fun x y => bnd (opt (isD x y)) fun b => ret (.bl b)
  | .isNot => fun x y => bnd (opt (isD x y)) fun b => ret (.bl (!b))
  | .inO => fun x y => bnd (inD x y) fun b => ret (.bl b)
  | .notIn => fun x y => bnd (inD x y) fun b => ret (.bl (!b))
def truD (M : Mem) : D → Option Bool
  | .non => some false
  | .bl b => some b
  | .int i => some (i != 0)
  | .str y => if y.length ≤ sizeLine then some ((y.length : Int) != 0) else none
  | .tup ds => some (!ds.isEmpty)
  | .scr ds => some (!ds.isEmpty)
  | .fl ds => some (!ds.isEmpty)
  | .pt ds => some (!ds.isEmpty)
  | .ref n => match M[n]? with
    | some (.lst ds) => some (!ds.isEmpty)
    | _ => none
  | _ => none
def tru (d : D) : R Bool := fun M => match truD M d with | none => none | some b => some (.ok b, M)
def getIx (x y : D) : R D := fun M =>
  match x, y with
  | .str z, .int i => if z.length ≤ sizeLine then match L2.atI z.cps.toList i with
      | none => none
      | some c => some (.ok (.str ⟨#[c]⟩), M)
    else none
  | _, .int i => match seqOf M x with
    | some ds => match L2.atI ds i with
      | none => none
      | some d => some (.ok d, M)
    | none => none
  | _, _ => none
def getSl (x : D) (lo hi : Option Int) : R D := fun M =>
  match x with
  | .str z => if z.length ≤ sizeLine then some (.ok (.str (L2.cutS z lo hi)), M) else none
  | .tup ds => some (.ok (.tup (cut ds lo hi)), M)
  | .scr ds => new (.lst (cut ds lo hi)) M
  | .fl ds => new (.lst (cut ds lo hi)) M
  | .ref n => match M[n]? with
    | some (.lst ds) => new (.lst (cut ds lo hi)) M
    | _ => none
  | _ => none
/-! ### built-in functions and methods -/
inductive BF where | len | abs | max | min | sum | any | all | sorted | int | str | repr | list | tuple
inductive BM where | append | pop | partition | split | join | index | count
/-- the kind of a value, as isinstance asks -/
def isInst (M : Mem) (x : D) (n : String) : Option Bool :=
  match x with
  | .non => some false
  | .bl _ => some (n == "bool" || n == "int")
  | .int _ => some (n == "int")
  | .str _ => some (n == "str")
  | .tup _ => some (n == "tuple")
  | .scr _ => some (n == "list")
  | .fl _ => some (n == "list")
  | .pt _ => some (n == "tuple")
  | .ob _ _ _ => some false
  | .ref k => match M[k]? with
    | some (.lst _) => some (n == "list")
    | some (.ins _ _) => some false
    | some (.dct _ _) => none
    | none => none
  | _ => none
end DL
end
section
set_option Elab.async false
set_option linter.all false
set_option maxRecDepth 100000
set_option maxHeartbeats 2000000
/-! DL, part b: how abstract data lies in the layer's heap. -/
namespace DL
open PySem PySem.Spec PyProof.Rows L2
/-- a list that nothing changes: the script, or one of the text's own -/
def FrL (K : PySem.W.Frag) (H : Hp) (a : Addr) (xs : List V) : Prop :=
  (∃ o, H a = some (.frz o (.lst xs))) ∨
    ∃ (o : Obj) (its : Array Value) (n : Nat), K.lookup a = some o ∧ o.cls = .type "list" ∧ o.dict = none ∧ o.data = .seq its n ∧ its.size ≤ sizeLine ∧ Vals xs its.toList
theorem FrL.sq {K : PySem.W.Frag} {H : Hp} {a : Addr} {xs : List V} (h : FrL K H a xs) : SqL K H a xs := by
  rcases h with ⟨o, h⟩ | h
  · exact .inl (.inr ⟨o, h⟩)
  · exact .inr h
mutual
inductive RepV (K : PySem.W.Frag) (mg : Str → Option Value) (μ : List Addr) (H : Hp) : D → V → Prop
  | non : RepV K mg μ H .non .non
  | bl (b : Bool) : RepV K mg μ H (.bl b) (.bl b)
  | int (i : Int) : RepV K mg μ H (.int i) (.int i)
  | str (x : Str) : RepV K mg μ H (.str x) (.str x)
  | tup {a : Addr} {vs : List V} {ds : List D} : H a = some (.tup vs) → RepVs K mg μ H ds vs → RepV K mg μ H (.tup ds) (.ref a)
  | scr {a : Addr} {vs : List V} {ds : List D} : FrL K H a vs → RepVs K mg μ H ds vs → RepV K mg μ H (.scr ds) (.ref a)
  | fl {a : Addr} {vs : List V} {ds : List D} : H a = some (.lst vs) → a ∉ μ → RepVs K mg μ H ds vs → RepV K mg μ H (.fl ds) (.ref a)
  | pt {a : Addr} {o : Obj} {vs : List V} {ds : List D} : H a = some (.frz o (.tup vs)) → o.dict = none → RepVs K mg μ H ds vs → RepV K mg μ H (.pt ds) (.ref a)
  | ref {n : Nat} {a : Addr} : μ[n]? = some a → RepV K mg μ H (.ref n) (.ref a)
  | glo {x : Str} {v : V} {u : Value} : mg x = some u → RelV v u → RepV K mg μ H (.glo x) v
  | bty (n : String) : RepV K mg μ H (.bty n) (.ty n)
  | ob {c : Str} {C a dx : Addr} {gs : List (Str × V)} {ns : List Str} {ds : List D} : mg c = some (.ref C) → H a = some (.ins C dx gs) → a ∉ μ → gs.map (·.1) = ns → RepVs K mg μ H ds (gs.map (·.2)) → RepV K mg μ H (.ob c ns ds) (.ref a)
inductive RepVs (K : PySem.W.Frag) (mg : Str → Option Value) (μ : List Addr) (H : Hp) : List D → List V → Prop
  | nil : RepVs K mg μ H [] []
  | cons {d : D} {v : V} {ds : List D} {vs : List V} : RepV K mg μ H d v → RepVs K mg μ H ds vs → RepVs K mg μ H (d :: ds) (v :: vs)
end
/-- attributes -/
inductive RepF (K : PySem.W.Frag) (mg : Str → Option Value) (μ : List Addr) (H : Hp) : List (Str × D) → List (Str × V) → Prop
  | nil : RepF K mg μ H [] []
  | cons {f : Str} {d : D} {v : V} {ds : List (Str × D)} {vs : List (Str × V)} : RepV K mg μ H d v → RepF K mg μ H ds vs → RepF K mg μ H ((f, d) :: ds) ((f, v) :: vs)
/-- an object of the store, as it stands at an address -/
def RepO (K : PySem.W.Frag) (mg : Str → Option Value) (μ : List Addr) (H : Hp) (a : Addr) : O → Prop
  | .lst ds => ∃ vs, H a = some (.lst vs) ∧ RepVs K mg μ H ds vs
  | .ins c fs => ∃ C dx gs, mg c = some (.ref C) ∧ H a = some (.ins C dx gs) ∧ RepF K mg μ H fs gs
  | .dct fz kvs => ∃ ws : List (List L2.Key × V), (if fz = true then ∃ o, H a = some (.frz o (.dT ws)) else H a = some (.dT ws)) ∧ ws.map (·.1) = kvs.map (·.1) ∧ RepVs K mg μ H (kvs.map (·.2)) (ws.map (·.2))
structure RepM (K : PySem.W.Frag) (mg : Str → Option Value) (μ : List Addr) (M : Mem) (H : Hp) : Prop where
  len : μ.length = M.length
  nd : μ.Nodup
  obj : ∀ (n : Nat) (a : Addr) (o : O), μ[n]? = some a → M[n]? = some o → RepO K mg μ H a o
/-- what may stand at an address of the store -/
def Sto : HO → Prop
  | .lst _ => True
  | .ins _ _ _ => True
  | .ext _ => True
  | .dT _ => True
  | .frz _ (.dT _) => True
  | _ => False
/-- what a computation may do: new objects, and those of the store changed -/
structure Le (μ : List Addr) (H : Hp) (μ' : List Addr) (H' : Hp) : Prop where
  ext : ∃ ν, μ' = μ ++ ν ∧ ∀ a ∈ ν, H a = none
  keep : ∀ (a : Addr) (o : HO), H a = some o → a ∉ μ → H' a = some o
  live : ∀ (a : Addr), H' a = none → H a = none
  frz : ∀ (a : Addr) (o : Obj) (u : HO), H a = some (.frz o u) → H' a = some (.frz o u)
theorem Le.refl (μ : List Addr) (H : Hp) : Le μ H μ H := ⟨⟨[], by simp, fun _ h => by cases h⟩, fun _ _ h _ => h, fun _ h => h, fun _ _ _ h => h⟩
theorem Le.trans {μ μ1 μ2 : List Addr} {H H1 H2 : Hp} (a : Le μ H μ1 H1) (b : Le μ1 H1 μ2 H2) : Le μ H μ2 H2 := by
  obtain ⟨ν, e1, n1⟩ := a.ext
  obtain ⟨ν', e2, n2⟩ := b.ext
  refine ⟨⟨ν ++ ν', by rw [e2, e1, List.append_assoc], fun x hx => ?_⟩, fun x o h hn => ?_, fun x h => a.live x (b.live x h), fun x o u h => b.frz x o u (a.frz x o u h)⟩
  · rcases List.mem_append.mp hx with h | h
    · exact n1 x h
    · exact a.live x (n2 x h)
  · have h1 := a.keep x o h hn
    refine b.keep x o h1 fun z => ?_
    rw [e1] at z
    rcases List.mem_append.mp z with z | z
    · exact hn z
    · rw [n1 x z] at h; cases h
/-- a new object that the store does not bear (a tuple) -/
theorem Le.free {μ : List Addr} {H : Hp} {p : Addr} {o : HO} (h : H p = none) : Le μ H μ (upd H p o) :=
  ⟨⟨[], by simp, fun _ h => by cases h⟩, fun a u e _ => by rw [upd_ne (ne_of_none e h)]; exact e, fun a e => by
    by_cases q : a = p
    · rw [q]; exact h
    · rwa [upd_ne q] at e, fun a o u e => by rw [upd_ne (ne_of_none e h)]; exact e⟩
/-- a new object of the store -/
theorem Le.new {μ : List Addr} {H : Hp} {p : Addr} {o : HO} (h : H p = none) : Le μ H (μ ++ [p]) (upd H p o) :=
  ⟨⟨[p], rfl, fun a ha => by rw [List.mem_singleton.mp ha]; exact h⟩, (Le.free (μ := μ) h).keep, (Le.free (μ := μ) h).live, (Le.free (μ := μ) h).frz⟩
/-- what may be written -/
def Wr (μ : List Addr) (H : Hp) (p : Addr) : Prop := p ∈ μ ∧ ∃ q, H p = some q ∧ ∀ o u, q ≠ .frz o u
theorem wr_of {μ : List Addr} {H : Hp} {p : Addr} {n : Nat} {q : HO} (h : μ[n]? = some p) (e : H p = some q) (nf : ∀ o u, q ≠ .frz o u := by intro _ _ z; cases z) : Wr μ H p := ⟨List.mem_of_getElem? h, q, e, nf⟩
/-- an object of the store is changed -/
theorem Le.write {μ : List Addr} {H : Hp} {p : Addr} {o : HO} (h : Wr μ H p) : Le μ H μ (upd H p o) :=
  ⟨⟨[], by simp, fun _ h => by cases h⟩, fun a u e hn => by rw [upd_ne (fun z : a = p => hn (by rw [z]; exact h.1))]; exact e, fun a e => by
    by_cases q : a = p
    · rw [q, upd_same] at e; cases e
    · rwa [upd_ne q] at e, fun a o' u e => by
    obtain ⟨_, q, e2, nf⟩ := h
    rw [upd_ne (fun z : a = p => by rw [z, e2] at e; cases e; exact nf _ _ rfl)]
    exact e⟩
section
variable {K : PySem.W.Frag} {mg : Str → Option Value} {μ μ' : List Addr} {M M' : Mem} {H H' : Hp}
theorem RepM.sto (r : RepM K mg μ M H) : ∀ a ∈ μ, ∃ o, H a = some o ∧ Sto o := fun a ha => by
  obtain ⟨n, hn, e⟩ := List.getElem_of_mem ha
  have h1 : μ[n]? = some a := by rw [List.getElem?_eq_getElem hn, e]
  have h2 : n < M.length := by rw [← r.len]; exact hn
  have h3 := r.obj n a M[n] h1 (List.getElem?_eq_getElem h2)
  cases q : M[n] with
  | lst ds => rw [q] at h3; obtain ⟨vs, e, _⟩ := h3; exact ⟨_, e, trivial⟩
  | ins c fs => rw [q] at h3; obtain ⟨C, dx, gs, _, e, _⟩ := h3; exact ⟨_, e, trivial⟩
  | dct fz kvs =>
    rw [q] at h3
    obtain ⟨ws, e, _⟩ := h3
    split at e
    · obtain ⟨o, e⟩ := e; exact ⟨_, e, trivial⟩
    · exact ⟨_, e, trivial⟩
theorem sto_tup {xs : List V} {a : Addr} (s : ∀ a ∈ μ, ∃ o, H a = some o ∧ Sto o) (h : H a = some (.tup xs)) : a ∉ μ := fun z => by
  obtain ⟨o, e, q⟩ := s a z
  rw [h] at e; cases e; exact q
theorem sto_frz {o : Obj} {u : HO} {a : Addr} (s : ∀ a ∈ μ, ∃ o, H a = some o ∧ Sto o) (h : H a = some (.frz o u)) (hu : ∀ ws, u ≠ .dT ws) : a ∉ μ := fun z => by
  obtain ⟨o, e, q⟩ := s a z
  rw [h] at e; cases e
  cases u <;> first | exact q | exact hu _ rfl
theorem Le.sqT {a : Addr} {xs : List V} (l : Le μ H μ' H') (s : ∀ a ∈ μ, ∃ o, H a = some o ∧ Sto o) (h : SqT K H a xs) : SqT K H' a xs := by
  rcases h with (h | ⟨o, h⟩) | h
  · exact .inl (.inl (l.keep _ _ h (sto_tup s h)))
  · exact .inl (.inr ⟨o, l.keep _ _ h (sto_frz s h (fun _ z => by cases z))⟩)
  · exact .inr h
theorem Le.out {a : Addr} {o : HO} (l : Le μ H μ' H') (h : H a = some o) (n : a ∉ μ) : a ∉ μ' := fun z => by
  obtain ⟨ν, e, q⟩ := l.ext
  rw [e] at z
  rcases List.mem_append.mp z with z | z
  · exact n z
  · rw [q a z] at h; cases h
theorem Le.frL {a : Addr} {xs : List V} (l : Le μ H μ' H') (s : ∀ a ∈ μ, ∃ o, H a = some o ∧ Sto o) (h : FrL K H a xs) : FrL K H' a xs := by
  rcases h with ⟨o, h⟩ | h
  · exact .inl ⟨o, l.keep _ _ h (sto_frz s h (fun _ z => by cases z))⟩
  · exact .inr h
theorem Le.at {n : Nat} {a : Addr} (l : Le μ H μ' H') (h : μ[n]? = some a) : μ'[n]? = some a := by
  obtain ⟨ν, e, _⟩ := l.ext
  rw [e, List.getElem?_append_left (List.getElem?_eq_some_iff.mp h).1]; exact h
mutual
theorem RepV.mono (l : Le μ H μ' H') (s : ∀ a ∈ μ, ∃ o, H a = some o ∧ Sto o) : ∀ (d : D) (v : V), RepV K mg μ H d v → RepV K mg μ' H' d v
  | _, _, .non => .non
  | _, _, .bl b => .bl b
  | _, _, .int i => .int i
  | _, _, .str x => .str x
  | _, _, .tup h r => .tup (l.keep _ _ h (sto_tup s h)) (RepVs.mono l s _ _ r)
  | _, _, .scr h r => .scr (l.frL s h) (RepVs.mono l s _ _ r)
  | _, _, .fl h n r => .fl (l.keep _ _ h n) (l.out h n) (RepVs.mono l s _ _ r)
  | _, _, .pt h n r => .pt (l.frz _ _ _ h) n (RepVs.mono l s _ _ r)
  | _, _, .ref h => .ref (l.at h)
  | _, _, .glo h r => .glo h r
  | _, _, .bty n => .bty n
  | _, _, .ob h1 h2 h3 h4 r => .ob h1 (l.keep _ _ h2 h3) (l.out h2 h3) h4 (RepVs.mono l s _ _ r)
theorem RepVs.mono (l : Le μ H μ' H') (s : ∀ a ∈ μ, ∃ o, H a = some o ∧ Sto o) : ∀ (ds : List D) (vs : List V), RepVs K mg μ H ds vs → RepVs K mg μ' H' ds vs
  | _, _, .nil => .nil
  | _, _, .cons h r => .cons (RepV.mono l s _ _ h) (RepVs.mono l s _ _ r)
end
theorem RepF.mono (l : Le μ H μ' H') (s : ∀ a ∈ μ, ∃ o, H a = some o ∧ Sto o) : ∀ {ds : List (Str × D)} {vs : List (Str × V)}, RepF K mg μ H ds vs → RepF K mg μ' H' ds vs
  | _, _, .nil => .nil
  | _, _, .cons h r => .cons (RepV.mono l s _ _ h) (r.mono l s)
theorem RepV.up {d : D} {v : V} (h : RepV K mg μ H d v) (l : Le μ H μ' H') (r : RepM K mg μ M H) : RepV K mg μ' H' d v := RepV.mono l r.sto d v h
theorem RepVs.up {d : List D} {v : List V} (h : RepVs K mg μ H d v) (l : Le μ H μ' H') (r : RepM K mg μ M H) : RepVs K mg μ' H' d v := RepVs.mono l r.sto d v h
theorem RepVs.length : ∀ {ds : List D} {vs : List V}, RepVs K mg μ H ds vs → ds.length = vs.length
  | _, _, .nil => rfl
  | _, _, .cons _ r => congrArg Nat.succ r.length
theorem RepVs.get : ∀ {ds : List D} {vs : List V} {i : Nat} {d : D}, RepVs K mg μ H ds vs → ds[i]? = some d → ∃ v, vs[i]? = some v ∧ RepV K mg μ H d v
  | _, _, _, _, .nil, e => by simp at e
  | _, _, 0, _, .cons h _, e => by simp at e; subst e; exact ⟨_, rfl, h⟩
  | _, _, i + 1, _, .cons _ r, e => by simpa using r.get (i := i) (by simpa using e)
theorem RepVs.append : ∀ {ds es : List D} {vs ws : List V}, RepVs K mg μ H ds vs → RepVs K mg μ H es ws → RepVs K mg μ H (ds ++ es) (vs ++ ws)
  | _, _, _, _, .nil, s => s
  | _, _, _, _, .cons h r, s => .cons h (r.append s)
theorem RepVs.take : ∀ {ds : List D} {vs : List V} (n : Nat), RepVs K mg μ H ds vs → RepVs K mg μ H (ds.take n) (vs.take n)
  | _, _, 0, _ => .nil
  | _, _, _ + 1, .nil => .nil
  | _, _, n + 1, .cons h r => .cons h (RepVs.take n r)
theorem RepVs.drop : ∀ {ds : List D} {vs : List V} (n : Nat), RepVs K mg μ H ds vs → RepVs K mg μ H (ds.drop n) (vs.drop n)
  | _, _, 0, r => r
  | _, _, _ + 1, .nil => .nil
  | _, _, n + 1, .cons _ r => RepVs.drop n r
theorem RepVs.set {d : D} {v : V} (h : RepV K mg μ H d v) : ∀ {ds : List D} {vs : List V} (n : Nat), RepVs K mg μ H ds vs → RepVs K mg μ H (ds.set n d) (vs.set n v)
  | _, _, _, .nil => .nil
  | _, _, 0, .cons _ r => .cons h r
  | _, _, n + 1, .cons q r => .cons q (RepVs.set h n r)
theorem RepVs.cut {ds : List D} {vs : List V} (lo hi : Option Int) (r : RepVs K mg μ H ds vs) : RepVs K mg μ H (cut ds lo hi) (cut vs lo hi) := by
  unfold DL.cut
  rw [r.length]
  exact (r.drop _).take _
theorem RepVs.rep {ds : List D} {vs : List V} (r : RepVs K mg μ H ds vs) : ∀ n : Nat, RepVs K mg μ H (List.replicate n ds).flatten (List.replicate n vs).flatten
  | 0 => .nil
  | n + 1 => by
    rw [List.replicate_succ, List.replicate_succ, List.flatten_cons, List.flatten_cons]
    exact r.append (r.rep n)
/-- the store behind new objects and writes -/
theorem RepM.up_obj (r : RepM K mg μ M H) (l : Le μ H μ' H') {a : Addr} {o : O} (h : RepO K mg μ H a o) (e : H' a = H a) : RepO K mg μ' H' a o := by
  cases o with
  | lst ds => obtain ⟨vs, h1, h2⟩ := h; exact ⟨vs, by rw [e]; exact h1, h2.up l r⟩
  | ins c fs => obtain ⟨C, dx, gs, h0, h1, h2⟩ := h; exact ⟨C, dx, gs, h0, by rw [e]; exact h1, h2.mono l r.sto⟩
  | dct fz kvs => obtain ⟨ws, h1, h2, h3⟩ := h; exact ⟨ws, by rw [e]; exact h1, h2, h3.up l r⟩
theorem RepM.free (r : RepM K mg μ M H) {p : Addr} {o : HO} (h : H p = none) : RepM K mg μ M (upd H p o) :=
  ⟨r.len, r.nd, fun n a q h1 h2 => r.up_obj (Le.free h) (r.obj n a q h1 h2) (upd_ne (by
    obtain ⟨o', e, _⟩ := r.sto a (List.mem_of_getElem? h1)
    exact ne_of_none e h))⟩
theorem RepM.fresh (r : RepM K mg μ M H) {p : Addr} (h : H p = none) : p ∉ μ := fun z => by
  obtain ⟨o, e, _⟩ := r.sto p z
  rw [h] at e; cases e
theorem RepM.new (r : RepM K mg μ M H) {p : Addr} {o : HO} {q : O} (h : H p = none) (hq : RepO K mg (μ ++ [p]) (upd H p o) p q) : RepM K mg (μ ++ [p]) (M ++ [q]) (upd H p o) := by
  refine ⟨by simp [r.len], List.nodup_append.mpr ⟨r.nd, by simp, fun a ha b hb => by
    rw [List.mem_singleton.mp hb]
    rintro rfl
    exact r.fresh h ha⟩, fun n a u h1 h2 => ?_⟩
  by_cases hn : n < μ.length
  · rw [List.getElem?_append_left hn] at h1
    rw [List.getElem?_append_left (by rw [← r.len]; exact hn)] at h2
    refine r.up_obj (Le.new h) (r.obj n a u h1 h2) (upd_ne ?_)
    rintro rfl
    exact r.fresh h (List.mem_of_getElem? h1)
  · have e : n = μ.length := by
      have := (List.getElem?_eq_some_iff.mp h1).1
      simp at this; omega
    subst e
    rw [List.getElem?_append_right (Nat.le_refl _)] at h1
    simp at h1
    rw [r.len, List.getElem?_append_right (Nat.le_refl _)] at h2
    simp at h2
    subst h1; subst h2
    exact hq
theorem RepM.write (r : RepM K mg μ M H) {n : Nat} {p : Addr} {o : HO} {q : O} (hm : Wr μ H p) (hp : μ[n]? = some p) (hq : RepO K mg μ (upd H p o) p q) : RepM K mg μ (M.set n q) (upd H p o) := by
  refine ⟨by simp [r.len], r.nd, fun k a u h1 h2 => ?_⟩
  by_cases hk : k = n
  · subst hk
    rw [hp] at h1; cases h1
    have hl : k < M.length := by
      have := (List.getElem?_eq_some_iff.mp h2).1
      simpa using this
    rw [List.getElem?_set_self hl] at h2; cases h2
    exact hq
  · rw [List.getElem?_set_ne (Ne.symm hk)] at h2
    refine r.up_obj (Le.write hm) (r.obj k a u h1 h2) (upd_ne ?_)
    rintro rfl
    obtain ⟨i1, e1⟩ := List.getElem?_eq_some_iff.mp h1
    obtain ⟨i2, e2⟩ := List.getElem?_eq_some_iff.mp hp
    exact hk ((List.getElem_inj r.nd).mp (e1.trans e2.symm))
theorem Le.sto (l : Le μ H μ' H') (h : ∀ a ∈ μ, ∃ o, H a = some o ∧ Sto o) (h' : ∀ a ∈ μ', ∃ o, H' a = some o ∧ Sto o) : True := trivial
end
end DL
end
section
set_option Elab.async false
set_option linter.all false
set_option maxRecDepth 100000
set_option maxHeartbeats 2000000
/-! DL, part c: what is wanted of a computation; operators. -/
namespace DL
open PySem PySem.Spec PyProof.Rows L2
/-- what is wanted of an exception -/
abbrev XW := D → List Addr → Mem → Hp → Prop
section
variable {α β γ δ : Type}
def Wants (K : PySem.W.Frag) (mg : Str → Option Value) (W : XW) (rel : List Addr → Hp → α → β → Prop) (x : Option (Except D α × Mem)) (μ : List Addr) (H : Hp) (Q : β → Hp → Prop) : Prop :=
  ∃ r M', x = some (r, M') ∧ ∀ μ' H', Le μ H μ' H' → RepM K mg μ' M' H' → match r with
    | .ok a => ∀ b, rel μ' H' a b → Q b H'
    | .error e => W e μ' M' H'
theorem Wants.bnd {K : PySem.W.Frag} {mg : Str → Option Value} {W : XW} {rel1 : List Addr → Hp → α → β → Prop} {rel2 : List Addr → Hp → γ → δ → Prop} {m : R α} {f : α → R γ} {M : Mem} {μ : List Addr} {H : Hp} {Q : δ → Hp → Prop}
    (h : Wants K mg W rel2 (bnd m f M) μ H Q) : Wants K mg W rel1 (m M) μ H (fun b H1 => ∃ μ1 M1 a, Le μ H μ1 H1 ∧ RepM K mg μ1 M1 H1 ∧ rel1 μ1 H1 a b ∧ Wants K mg W rel2 (f a M1) μ1 H1 Q) := by
  obtain ⟨r, M', e, k⟩ := h
  have e' : (match m M with | none => none | some (.error e, M') => some (.error e, M') | some (.ok a, M') => f a M') = some (r, M') := e
  cases hm : m M with
  | none => rw [hm] at e'; cases e'
  | some p =>
    obtain ⟨r1, M1⟩ := p
    rw [hm] at e'
    cases r1 with
    | error x =>
      cases e'
      exact ⟨_, _, rfl, fun μ' H' l rm => k μ' H' l rm⟩
    | ok a => exact ⟨.ok a, M1, rfl, fun μ1 H1 l rm b hb => ⟨μ1, M1, a, l, rm, hb, r, M', e', fun μ' H' l' rm' => k μ' H' (l.trans l') rm'⟩⟩
theorem Wants.ret {K : PySem.W.Frag} {mg : Str → Option Value} {W : XW} {rel : List Addr → Hp → α → β → Prop} {a : α} {M : Mem} {μ : List Addr} {H : Hp} {Q : β → Hp → Prop} (h : Wants K mg W rel (ret a M) μ H Q) (rm : RepM K mg μ M H) {b : β} (hb : rel μ H a b) : Q b H := by
  obtain ⟨r, M', e, k⟩ := h
  cases (show some (Except.ok a, M) = some (r, M') from e)
  exact k μ H (Le.refl _ _) rm b hb
theorem Wants.fail {K : PySem.W.Frag} {mg : Str → Option Value} {W : XW} {rel : List Addr → Hp → α → β → Prop} {M : Mem} {μ : List Addr} {H : Hp} {Q : β → Hp → Prop} (h : Wants K mg W rel (fail M) μ H Q) : False := by
  obtain ⟨r, M', e, k⟩ := h
  cases e
theorem Wants.none {K : PySem.W.Frag} {mg : Str → Option Value} {W : XW} {rel : List Addr → Hp → α → β → Prop} {μ : List Addr} {H : Hp} {Q : β → Hp → Prop} (h : Wants K mg W rel none μ H Q) : False := by
  obtain ⟨r, M', e, k⟩ := h
  cases e
theorem Wants.some {K : PySem.W.Frag} {mg : Str → Option Value} {W : XW} {rel : List Addr → Hp → α → β → Prop} {a : α} {M' : Mem} {μ : List Addr} {H : Hp} {Q : β → Hp → Prop} (h : Wants K mg W rel (some (.ok a, M')) μ H Q) {μ' : List Addr} {H' : Hp} (l : Le μ H μ' H') (rm : RepM K mg μ' M' H') {b : β} (hb : rel μ' H' a b) : Q b H' := by
  obtain ⟨r, M2, e, k⟩ := h
  cases e
  exact k μ' H' l rm b hb
/-- a new object, made -/
theorem Wants.made {K : PySem.W.Frag} {mg : Str → Option Value} {W : XW} {o : O} {M : Mem} {μ : List Addr} {H : Hp} {Q : V → Hp → Prop} (h : Wants K mg W (RepV K mg) (new o M) μ H Q) (rm : RepM K mg μ M H) {p : Addr} {u : HO} (hp : H p = Option.none) (hq : RepO K mg (μ ++ [p]) (upd H p u) p o) : Q (.ref p) (upd H p u) := by
  obtain ⟨r, M2, e, k⟩ := h
  cases (show Option.some (Except.ok (D.ref M.length), M ++ [o]) = Option.some (r, M2) from e)
  refine k _ _ (Le.new hp) (rm.new hp hq) _ (.ref ?_)
  rw [← rm.len, List.getElem?_append_right (Nat.le_refl _)]
  simp
end
section
variable {X : Cx} {W : XW}
/-- a two-place operation by abstract values -/
def rD (K : PySem.W.Frag) (mg : Str → Option Value) (W : XW) (g : D → D → R D) : R2 := fun x y H Q => ∃ μ M a b, RepM K mg μ M H ∧ RepV K mg μ H a x ∧ RepV K mg μ H b y ∧ Wants K mg W (RepV K mg) (g a b M) μ H Q
/-- lists as sequences of the layer -/
theorem seq_of {μ : List Addr} {M : Mem} {H : Hp} {x : D} {v : V} {ds : List D} (rm : RepM X.K X.mg μ M H) (rv : RepV X.K X.mg μ H x v) (e : seqOf M x = some ds) : ∃ a vs, v = .ref a ∧ (SqL X.K H a vs ∨ SqT X.K H a vs) ∧ RepVs X.K X.mg μ H ds vs := by
  cases rv with
  | tup h r => cases e; exact ⟨_, _, rfl, .inr (SqT.of h), r⟩
  | scr h r => cases e; exact ⟨_, _, rfl, .inl h.sq, r⟩
  | fl h _ r => cases e; exact ⟨_, _, rfl, .inl (SqL.of h), r⟩
  | pt h _ r => cases e; exact ⟨_, _, rfl, .inr (.inl (.inr ⟨_, h⟩)), r⟩
  | @ref n a h =>
    simp only [seqOf] at e
    split at e
    · rename_i ds' hm
      cases e
      obtain ⟨vs, h1, h2⟩ := rm.obj n a _ h hm
      exact ⟨a, vs, rfl, .inl (SqL.of h1), h2⟩
    · cases e
  | _ => simp [seqOf] at e
theorem lst_of {μ : List Addr} {M : Mem} {H : Hp} {x : D} {v : V} {ds : List D} (rm : RepM X.K X.mg μ M H) (rv : RepV X.K X.mg μ H x v) (e : lstOf M x = some ds) : ∃ a vs, v = .ref a ∧ H a = some (.lst vs) ∧ RepVs X.K X.mg μ H ds vs := by
  cases rv with
  | fl h _ r => cases e; exact ⟨_, _, rfl, h, r⟩
  | @ref n a h =>
    simp only [lstOf] at e
    split at e
    · rename_i ds' hm
      cases e
      obtain ⟨vs, h1, h2⟩ := rm.obj n a _ h hm
      exact ⟨a, vs, rfl, h1, h2⟩
    · cases e
  | _ => simp [lstOf] at e
theorem seq_l {μ : List Addr} {M : Mem} {H : Hp} {n : Nat} {a : Addr} {ds : List D} (rm : RepM X.K X.mg μ M H) (h : μ[n]? = some a) (e : M[n]? = some (.lst ds)) : ∃ vs, H a = some (.lst vs) ∧ RepVs X.K X.mg μ H ds vs := rm.obj n a _ h e
end
section
variable {K : PySem.W.Frag} {mg : Str → Option Value} {μ : List Addr} {M : Mem} {H : Hp}
theorem repVs_ints : ∀ {ds : List D} {vs : List V} {ns : List Int}, RepVs K mg μ H ds vs → intsOf ds = some ns → vs = ns.map V.int
  | _, _, _, .nil, e => by simp [intsOf, mapO] at e; subst e; rfl
  | _, _, _, .cons (d := d) (ds := ds) h r, e => by
    simp only [intsOf, mapO] at e
    split at e
    · rename_i b bs h1 h2
      cases e
      cases h <;> simp at h1
      subst h1
      rw [repVs_ints r h2]; rfl
    · cases e
theorem repVs_strs : ∀ {ds : List D} {vs : List V} {ns : List Str}, RepVs K mg μ H ds vs → strsOf ds = some ns → vs = ns.map V.str
  | _, _, _, .nil, e => by simp [strsOf, mapO] at e; subst e; rfl
  | _, _, _, .cons (d := d) (ds := ds) h r, e => by
    simp only [strsOf, mapO] at e
    split at e
    · rename_i b bs h1 h2
      cases e
      cases h <;> simp at h1
      subst h1
      rw [repVs_strs r h2]; rfl
    · cases e
theorem repVs_bls : ∀ {ds : List D} {vs : List V} {ns : List Bool}, RepVs K mg μ H ds vs → blsOf ds = some ns → vs = ns.map V.bl
  | _, _, _, .nil, e => by simp [blsOf, mapO] at e; subst e; rfl
  | _, _, _, .cons (d := d) (ds := ds) h r, e => by
    simp only [blsOf, mapO] at e
    split at e
    · rename_i b bs h1 h2
      cases e
      cases h <;> simp at h1
      subst h1
      rw [repVs_bls r h2]; rfl
    · cases e
theorem repVs_of_ints : ∀ (ns : List Int), RepVs K mg μ H (ns.map D.int) (ns.map V.int)
  | [] => .nil
  | n :: ns => .cons (.int n) (repVs_of_ints ns)
theorem repVs_of_strs : ∀ (ns : List Str), RepVs K mg μ H (ns.map D.str) (ns.map V.str)
  | [] => .nil
  | n :: ns => .cons (.str n) (repVs_of_strs ns)
theorem flat_v {d : D} {v : V} (r : RepV K mg μ H d v) (h : d.flat = true) : flatV v = true := by
  cases r <;> first | rfl | (simp [D.flat] at h)
theorem flat_vs : ∀ {ds : List D} {vs : List V}, RepVs K mg μ H ds vs → ds.all D.flat = true → vs.all flatV = true
  | _, _, .nil, _ => rfl
  | _, _, .cons h r, e => by
    simp only [List.all_cons, Bool.and_eq_true] at e ⊢
    exact ⟨flat_v h e.1, flat_vs r e.2⟩
theorem feq_v {a b : D} {x y : V} (ra : RepV K mg μ H a x) (rb : RepV K mg μ H b y) (ha : a.flat = true) (hb : b.flat = true) : eqV x y = D.feq a b := by
  cases ra <;> first | (simp [D.flat] at ha; done) | (cases rb <;> first | (simp [D.flat] at hb; done) | rfl)
theorem inSeq_v {x : D} {v : V} (rx : RepV K mg μ H x v) (hx : x.flat = true) : ∀ {ds : List D} {vs : List V}, RepVs K mg μ H ds vs → ds.all D.flat = true → inV v vs = inSeq x ds
  | _, _, .nil, _ => rfl
  | _, _, .cons h r, e => by
    simp only [List.all_cons, Bool.and_eq_true] at e
    have := inSeq_v rx hx r e.2
    simp only [inV, inSeq, List.any_cons] at this ⊢
    rw [this, feq_v h rx e.1 hx]
theorem atI_v {ds : List D} {vs : List V} {i : Int} {d : D} (r : RepVs K mg μ H ds vs) (e : atI ds i = some d) : ∃ v, atI vs i = some v ∧ RepV K mg μ H d v := by
  unfold atI at e ⊢
  rw [← r.length]
  cases h : L2.ixN ds.length i with
  | none => rw [h] at e; cases e
  | some j =>
    rw [h] at e
    exact r.get e
/-- data, read as such -/
theorem mapO_dp {f : D → Option PyData} (hf : ∀ d v p, f d = some p → RepV K mg μ H d v → Dp K H v p) : ∀ {ds : List D} {vs : List V} {ps : List PyData}, mapO f ds = some ps → RepVs K mg μ H ds vs → DpAll K H vs ps
  | [], _, _, e, .nil => by simp [mapO] at e; subst e; exact .nil
  | d :: ds, _, _, e, .cons h r => by
    simp only [mapO] at e
    split at e
    · rename_i b bs h1 h2
      cases e
      exact .cons (hf d _ b h1 h) (mapO_dp hf h2 r)
    · cases e
theorem toPy_dp (rm : RepM K mg μ M H) : ∀ (n : Nat) (d : D) (v : V) (p : PyData), toPy M n d = some p → RepV K mg μ H d v → Dp K H v p := by
  intro n
  induction n with
  | zero => intro d v p e _; simp [toPy] at e
  | succ n ih =>
    intro d v p e r
    cases r with
    | non => simp [toPy] at e; subst e; exact .non
    | bl b => simp [toPy] at e; subst e; exact .bl b
    | int b => simp [toPy] at e; subst e; exact .int b
    | str b => simp [toPy] at e; subst e; exact .str b
    | tup h r =>
      simp only [toPy, Option.map_eq_some_iff] at e
      obtain ⟨ps, e1, rfl⟩ := e
      exact .tup (SqT.of h) (mapO_dp ih e1 r)
    | scr h r =>
      simp only [toPy, Option.map_eq_some_iff] at e
      obtain ⟨ps, e1, rfl⟩ := e
      exact .lst h.sq (mapO_dp ih e1 r)
    | fl h _ r =>
      simp only [toPy, Option.map_eq_some_iff] at e
      obtain ⟨ps, e1, rfl⟩ := e
      exact .lst (SqL.of h) (mapO_dp ih e1 r)
    | pt h _ r =>
      simp only [toPy, Option.map_eq_some_iff] at e
      obtain ⟨ps, e1, rfl⟩ := e
      exact .tup (.inl (.inr ⟨_, h⟩)) (mapO_dp ih e1 r)
    | @ref k a h =>
      simp only [toPy] at e
      split at e
      · rename_i ds hm
        simp only [Option.map_eq_some_iff] at e
        obtain ⟨ps, e1, rfl⟩ := e
        obtain ⟨vs, h1, h2⟩ := rm.obj k a _ h hm
        exact .lst (SqL.of h1) (mapO_dp ih e1 h2)
      · cases e
    | glo _ _ => simp [toPy] at e
    | bty _ => simp [toPy] at e
    | ob _ _ _ _ _ => simp [toPy] at e
theorem tru_v {d : D} {v : V} {b : Bool} (rm : RepM K mg μ M H) (r : RepV K mg μ H d v) (e : truD M d = some b) : TruV K v H b := by
  cases r with
  | non => simp [truD] at e; subst e; rfl
  | bl c => simp [truD] at e; subst e; rfl
  | int i => simp [truD] at e; subst e; rfl
  | str y =>
    simp only [truD] at e
    split at e
    · rename_i hz; cases e; exact ⟨hz, rfl⟩
    · cases e
  | tup h r =>
    simp only [truD, Option.some.injEq] at e; subst e
    refine .inr (.inl ⟨_, SqT.of h, ?_⟩)
    cases r <;> rfl
  | scr h r =>
    simp only [truD, Option.some.injEq] at e; subst e
    refine .inl ⟨_, h.sq, ?_⟩
    cases r <;> rfl
  | fl h _ r =>
    simp only [truD, Option.some.injEq] at e; subst e
    refine .inl ⟨_, SqL.of h, ?_⟩
    cases r <;> rfl
  | pt h _ r =>
    simp only [truD, Option.some.injEq] at e; subst e
    refine .inr (.inl ⟨_, .inl (.inr ⟨_, h⟩), ?_⟩)
    cases r <;> rfl
  | @ref k a h =>
    simp only [truD] at e
    split at e
    · rename_i ds hm
      cases e
      obtain ⟨vs, h1, h2⟩ := rm.obj k a _ h hm
      refine .inl ⟨vs, SqL.of h1, ?_⟩
      cases h2 <;> rfl
    · cases e
  | glo _ _ => simp [truD] at e
  | bty _ => simp [truD] at e
  | ob _ _ _ _ _ => simp [truD] at e
end
end DL
end
section
set_option Elab.async false
set_option linter.all false
set_option maxRecDepth 100000
set_option maxHeartbeats 2000000
/-! DL, part d: the operators keep their promises. -/
namespace DL
open PySem PySem.Spec PyProof.Rows L2
section
variable {X : Cx} {W : XW}
theorem Wants.ite {α β : Type} {K : PySem.W.Frag} {mg : Str → Option Value} {W : XW} {rel : List Addr → Hp → α → β → Prop} {c : Prop} [Decidable c] {m : R α} {M : Mem} {μ : List Addr} {H : Hp} {Q : β → Hp → Prop}
    (h : Wants K mg W rel ((if c then m else DL.fail) M) μ H Q) : c ∧ Wants K mg W rel (m M) μ H Q := by
  by_cases hc : c
  · rw [if_pos hc] at h; exact ⟨hc, h⟩
  · rw [if_neg hc] at h; exact h.fail.elim
theorem Wants.iteN {α β : Type} {K : PySem.W.Frag} {mg : Str → Option Value} {W : XW} {rel : List Addr → Hp → α → β → Prop} {c : Prop} [Decidable c] {x : Option (Except D α × Mem)} {μ : List Addr} {H : Hp} {Q : β → Hp → Prop}
    (h : Wants K mg W rel (if c then x else Option.none) μ H Q) : c ∧ Wants K mg W rel x μ H Q := by
  by_cases hc : c
  · rw [if_pos hc] at h; exact ⟨hc, h⟩
  · rw [if_neg hc] at h; exact h.none.elim
theorem bnd_some {α β : Type} {m : R α} {f : α → R β} {M M' : Mem} {r : Except D β} (e : bnd m f M = some (r, M')) : (∃ x, m M = some (.error x, M') ∧ r = .error x) ∨ ∃ a M1, m M = some (.ok a, M1) ∧ f a M1 = some (r, M') := by
  unfold bnd at e
  split at e
  · cases e
  · rename_i x M1 h; cases e; exact .inl ⟨x, h, rfl⟩
  · rename_i a M1 h; exact .inr ⟨a, M1, h, e⟩
theorem op_addD : OpR X (binaryOp .Add) (rD X.K X.mg W (binD .add)) := by
  intro pins s σ H x y v u Q I rx ry ⟨μ, M, a, b, rm, ra, rb, h⟩
  show wpAny _ _ _ _ _ _
  have h : Wants X.K X.mg W (RepV X.K X.mg) (addD a b M) μ H Q := h
  unfold addD at h
  split at h
  · cases ra; cases rb
    exact op_add pins s σ H _ _ v u Q I rx ry ⟨_, _, rfl, rfl, h.ret rm (.int _)⟩
  · cases ra; cases rb
    obtain ⟨hc, h⟩ := h.ite
    exact op_add_str pins s σ H _ _ v u Q I rx ry ⟨_, _, rfl, rfl, hc, h.ret rm (.str _)⟩
  · cases ra with | tup h1 r1 => cases rb with | tup h2 r2 =>
    obtain ⟨hc, h⟩ := h.ite
    refine op_catA pins s σ H _ _ v u Q I rx ry ⟨_, _, _, _, rfl, rfl, SqT.of h1, SqT.of h2, by rw [← r1.length, ← r2.length]; exact hc, fun e => ?_, fun e1 e2 => ?_, fun e1 e2 p hp => ?_⟩
    · subst e; cases r1; exact h.ret rm (.tup h2 r2)
    · subst e2; cases r2; rw [List.append_nil] at h; exact h.ret rm (.tup h1 r1)
    · exact h.some (Le.free hp) (rm.free hp) (.tup upd_same ((r1.up (Le.free hp) rm).append (r2.up (Le.free hp) rm)))
  · dsimp only at h
    split at h
    · rename_i xs ys e1 e2
      obtain ⟨hc, h⟩ := h.iteN
      obtain ⟨p1, vs, ev1, g1, r1⟩ := lst_of rm ra e1
      obtain ⟨p2, ws, ev2, g2, r2⟩ := lst_of rm rb e2
      exact op_cat pins s σ H _ _ v u Q I rx ry ⟨_, _, _, _, ev1, ev2, g1, g2, by rw [← r1.length, ← r2.length]; exact hc, fun p hp => h.made rm hp ⟨_, upd_same, (r1.up (Le.new hp) rm).append (r2.up (Le.new hp) rm)⟩⟩
    · exact h.none.elim
theorem op_subD : OpR X (binaryOp .Sub) (rD X.K X.mg W (binD .sub)) := by
  intro pins s σ H x y v u Q I rx ry ⟨μ, M, a, b, rm, ra, rb, h⟩
  have h : Wants X.K X.mg W (RepV X.K X.mg) (subD a b M) μ H Q := h
  unfold subD at h
  split at h
  · cases ra; cases rb
    exact op_sub pins s σ H _ _ v u Q I rx ry ⟨_, _, rfl, rfl, h.ret rm (.int _)⟩
  · exact h.fail.elim
theorem op_mulD : OpR X (binaryOp .Mult) (rD X.K X.mg W (binD .mul)) := by
  intro pins s σ H x y v u Q I rx ry ⟨μ, M, a, b, rm, ra, rb, h⟩
  have h : Wants X.K X.mg W (RepV X.K X.mg) (mulD a b M) μ H Q := h
  unfold mulD at h
  split at h
  · cases ra; cases rb
    obtain ⟨hc, h⟩ := h.ite
    refine op_mul pins s σ H _ _ v u Q I rx ry ⟨_, _, rfl, rfl, ?_, h.ret rm (.int _)⟩
    simp only [small, Bool.or_eq_true, decide_eq_true_eq] at hc
    exact hc
  · cases ra with | tup h1 r1 => ?_
    cases rb
    obtain ⟨⟨c0, c1, c2, c3⟩, h⟩ := h.ite
    refine op_repT pins s σ H _ _ v u Q I rx ry ⟨_, _, _, rfl, rfl, SqT.of h1, ?_, c1, c2, by rw [← r1.length]; exact c3, fun p hp => h.some (Le.free hp) (rm.free hp) (.tup upd_same ((r1.up (Le.free hp) rm).rep _))⟩
    rintro rfl
    cases r1
    cases c0
  · cases rb
    dsimp only at h
    split at h
    · rename_i xs e1
      obtain ⟨⟨c1, c2, c3⟩, h⟩ := h.iteN
      obtain ⟨p1, vs, ev1, g1, r1⟩ := lst_of rm ra e1
      exact op_rep pins s σ H _ _ v u Q I rx ry ⟨_, _, _, ev1, rfl, g1, c1, c2, by rw [← r1.length]; exact c3, fun p hp => h.made rm hp ⟨_, upd_same, (r1.up (Le.new hp) rm).rep _⟩⟩
    · exact h.none.elim
  · exact h.fail.elim
theorem op_modD : OpR X (binaryOp .Mod) (rD X.K X.mg W (binD .mod)) := by
  intro pins s σ H x y v u Q I rx ry ⟨μ, M, a, b, rm, ra, rb, h⟩
  have h : Wants X.K X.mg W (RepV X.K X.mg) (modD a b M) μ H Q := h
  unfold modD at h
  split at h
  · cases ra; cases rb
    obtain ⟨hc, h⟩ := h.ite
    exact op_mod pins s σ H _ _ v u Q I rx ry ⟨_, _, rfl, rfl, hc, h.ret rm (.int _)⟩
  · exact h.fail.elim
theorem op_fdivD : OpR X (binaryOp .FloorDiv) (rD X.K X.mg W (binD .fdiv)) := by
  intro pins s σ H x y v u Q I rx ry ⟨μ, M, a, b, rm, ra, rb, h⟩
  have h : Wants X.K X.mg W (RepV X.K X.mg) (fdivD a b M) μ H Q := h
  unfold fdivD at h
  split at h
  · cases ra; cases rb
    obtain ⟨hc, h⟩ := h.ite
    exact op_fdiv pins s σ H _ _ v u Q I rx ry ⟨_, _, rfl, rfl, hc, h.ret rm (.int _)⟩
  · exact h.fail.elim
theorem op_powD : OpR X (binaryOp .Pow) (rD X.K X.mg W (binD .pow)) := by
  intro pins s σ H x y v u Q I rx ry ⟨μ, M, a, b, rm, ra, rb, h⟩
  have h : Wants X.K X.mg W (RepV X.K X.mg) (powD a b M) μ H Q := h
  unfold powD at h
  split at h
  · cases ra; cases rb
    obtain ⟨hc, h⟩ := h.ite
    exact op_pow pins s σ H _ _ v u Q I rx ry ⟨_, _, rfl, rfl, hc, h.ret rm (.int _)⟩
  · exact h.fail.elim
/-! ### comparisons -/
theorem str_one {a : Str} {c : Nat} (h : a.cps.toList = [c]) : a = ⟨#[c]⟩ := by
  obtain ⟨cps⟩ := a
  have : cps = #[c] := by
    apply Array.toList_inj.mp
    exact h
  rw [this]
theorem eq_wants {μ : List Addr} {M : Mem} {H : Hp} {a b : D} {f : Bool → Bool} {Q : V → Hp → Prop} {x y : V} (rm : RepM X.K X.mg μ M H) (ra : RepV X.K X.mg μ H a x) (rb : RepV X.K X.mg μ H b y)
    (h : Wants X.K X.mg W (RepV X.K X.mg) (bnd (eqD a b) (fun k => ret (.bl (f k))) M) μ H Q) : ∃ d e, Dp X.K H x d ∧ Dp X.K H y e ∧ SeqAt.shaped d = true ∧ SeqAt.shaped e = true ∧ Q (.bl (f (PyData.eqv d e))) H := by
  obtain ⟨r, M', e, k⟩ := h
  simp only [bnd, eqD] at e
  split at e
  · cases e
  · rename_i e1
    split at e1
    · split at e1 <;> cases e1
    · cases e1
  · rename_i e1
    split at e1
    · rename_i p q hp hq
      split at e1
      · rename_i hs
        cases e1
        simp only [Bool.and_eq_true] at hs
        cases e
        exact ⟨p, q, toPy_dp rm 20 a x p hp ra, toPy_dp rm 20 b y q hq rb, hs.1, hs.2, k μ H (Le.refl _ _) rm _ (.bl _)⟩
      · cases e1
    · cases e1
theorem op_eqDD {k : Nat} (hr : Room k X.A) : OpR X (compareOp .Eq) (rD X.K X.mg W (cmpD .eq)) := by
  intro pins s σ H x y v u Q I rx ry ⟨μ, M, a, b, rm, ra, rb, h⟩
  exact op_eqD hr.units pins s σ H _ _ v u Q I rx ry (eq_wants (f := id) rm ra rb h)
theorem op_neDD {k : Nat} (hr : Room k X.A) : OpR X (compareOp .NotEq) (rD X.K X.mg W (cmpD .ne)) := by
  intro pins s σ H x y v u Q I rx ry ⟨μ, M, a, b, rm, ra, rb, h⟩
  exact op_neD hr.units pins s σ H _ _ v u Q I rx ry (eq_wants (f := not) rm ra rb h)
theorem opt_w {α β γ : Type} {K : PySem.W.Frag} {mg : Str → Option Value} {rel : List Addr → Hp → α → β → Prop} {o : Option γ} {f : γ → R α} {M : Mem} {μ : List Addr} {H : Hp} {Q : β → Hp → Prop} (h : Wants K mg W rel (bnd (opt o) f M) μ H Q) : ∃ x, o = some x ∧ Wants K mg W rel (f x M) μ H Q := by
  obtain ⟨r, M', e, k⟩ := h
  cases o with
  | none => cases e
  | some x => exact ⟨x, rfl, r, M', e, k⟩
theorem op_ltD {k : Nat} (hr : Room k X.A) : OpR X (compareOp .Lt) (rD X.K X.mg W (cmpD .lt)) := by
  intro pins s σ H x y v u Q I rx ry ⟨μ, M, a, b, rm, ra, rb, h⟩
  have h : Wants X.K X.mg W (RepV X.K X.mg) (ltD a b M) μ H Q := h
  unfold ltD at h
  split at h
  · cases ra; cases rb; exact op_lt pins s σ H _ _ v u Q I rx ry ⟨_, _, rfl, rfl, h.ret rm (.bl _)⟩
  · cases ra; cases rb; exact op_lt_str pins s σ H _ _ v u Q I rx ry ⟨_, _, rfl, rfl, h.ret rm (.bl _)⟩
  · obtain ⟨ns, hn, h⟩ := opt_w h
    obtain ⟨ms, hm, h⟩ := opt_w h
    cases ra with | tup h1 r1 => ?_
    cases rb with | tup h2 r2 => ?_
    have e1 := repVs_ints r1 hn
    have e2 := repVs_ints r2 hm
    subst e1 e2
    exact op_ltT (by have := hr.units; omega) pins s σ H _ _ v u Q I rx ry ⟨_, _, ns, ms, rfl, rfl, .of h1, .of h2, h.ret rm (.bl _)⟩
  · exact h.fail.elim
theorem op_leD : OpR X (compareOp .LtE) (rD X.K X.mg W (cmpD .le)) := by
  intro pins s σ H x y v u Q I rx ry ⟨μ, M, a, b, rm, ra, rb, h⟩
  have h : Wants X.K X.mg W (RepV X.K X.mg) (leD a b M) μ H Q := h
  unfold leD at h
  split at h
  · cases ra; cases rb; exact op_le pins s σ H _ _ v u Q I rx ry ⟨_, _, rfl, rfl, h.ret rm (.bl _)⟩
  · cases ra; cases rb; exact op_le_str pins s σ H _ _ v u Q I rx ry ⟨_, _, rfl, rfl, h.ret rm (.bl _)⟩
  · exact h.fail.elim
theorem op_gtD : OpR X (compareOp .Gt) (rD X.K X.mg W (cmpD .gt)) := by
  intro pins s σ H x y v u Q I rx ry ⟨μ, M, a, b, rm, ra, rb, h⟩
  have h : Wants X.K X.mg W (RepV X.K X.mg) (gtD a b M) μ H Q := h
  unfold gtD at h
  split at h
  · cases ra; cases rb; exact op_gt pins s σ H _ _ v u Q I rx ry ⟨_, _, rfl, rfl, h.ret rm (.bl _)⟩
  · cases ra; cases rb; exact op_gt_str pins s σ H _ _ v u Q I rx ry ⟨_, _, rfl, rfl, h.ret rm (.bl _)⟩
  · exact h.fail.elim
theorem op_geD : OpR X (compareOp .GtE) (rD X.K X.mg W (cmpD .ge)) := by
  intro pins s σ H x y v u Q I rx ry ⟨μ, M, a, b, rm, ra, rb, h⟩
  have h : Wants X.K X.mg W (RepV X.K X.mg) (geD a b M) μ H Q := h
  unfold geD at h
  split at h
  · cases ra; cases rb; exact op_ge pins s σ H _ _ v u Q I rx ry ⟨_, _, rfl, rfl, h.ret rm (.bl _)⟩
  · cases ra; cases rb; exact op_ge_str pins s σ H _ _ v u Q I rx ry ⟨_, _, rfl, rfl, h.ret rm (.bl _)⟩
  · exact h.fail.elim
theorem is_wants {μ : List Addr} {M : Mem} {H : Hp} {a b : D} {f : Bool → Bool} {Q : V → Hp → Prop} {x y : V} (rm : RepM X.K X.mg μ M H) (ra : RepV X.K X.mg μ H a x) (rb : RepV X.K X.mg μ H b y)
    (h : Wants X.K X.mg W (RepV X.K X.mg) (bnd (opt (isD a b)) (fun k => ret (.bl (f k))) M) μ H Q) : (y = .non ∧ Q (.bl (f (decide (x = .non)))) H) ∨ ∃ p q : Bool, x = .bl p ∧ y = .bl q ∧ Q (.bl (f (decide (p = q)))) H := by
  obtain ⟨r, M', e, k⟩ := h
  simp only [bnd, opt] at e
  cases hi : isD a b with
  | none => rw [hi] at e; cases e
  | some t =>
    rw [hi] at e
    cases e
    have fin : ∀ b', b' = t → Q (.bl (f b')) H := fun b' e => by subst e; exact k μ H (Le.refl _ _) rm _ (.bl _)
    unfold isD at hi
    split at hi
    · cases ra; cases rb; cases hi; exact .inl ⟨rfl, fin _ (by simp)⟩
    · cases hi
    · rename_i hn hg
      cases rb; cases hi
      refine .inl ⟨rfl, fin _ ?_⟩
      cases ra <;> first | (simp; done) | (exact absurd rfl hn) | (exact absurd rfl (hg _))
    · cases ra; cases rb; cases hi
      exact .inr ⟨_, _, rfl, rfl, fin _ (by rename_i a b; cases a <;> cases b <;> rfl)⟩
    · cases hi
theorem op_isD : OpR X (compareOp .Is) (rD X.K X.mg W (cmpD .isO)) := by
  intro pins s σ H x y v u Q I rx ry ⟨μ, M, a, b, rm, ra, rb, h⟩
  rcases is_wants (f := id) rm ra rb h with h | ⟨p, q, e1, e2, h⟩
  · exact op_isN pins s σ H _ _ v u Q I rx ry h
  · exact op_isBl pins s σ H _ _ v u Q I rx ry ⟨p, q, e1, e2, h⟩
theorem op_isNotD : OpR X (compareOp .IsNot) (rD X.K X.mg W (cmpD .isNot)) := by
  intro pins s σ H x y v u Q I rx ry ⟨μ, M, a, b, rm, ra, rb, h⟩
  rcases is_wants (f := not) rm ra rb h with h | ⟨p, q, e1, e2, h⟩
  · exact op_notN pins s σ H _ _ v u Q I rx ry h
  · exact op_notBl pins s σ H _ _ v u Q I rx ry ⟨p, q, e1, e2, h⟩
theorem in_wants {μ : List Addr} {M : Mem} {H : Hp} {a b : D} {f : Bool → Bool} {Q : V → Hp → Prop} {x y : V} (rm : RepM X.K X.mg μ M H) (ra : RepV X.K X.mg μ H a x) (rb : RepV X.K X.mg μ H b y)
    (h : Wants X.K X.mg W (RepV X.K X.mg) (bnd (inD a b) (fun k => ret (.bl (f k))) M) μ H Q) :
    (∃ (c : Nat) (z : Str), x = .str ⟨#[c]⟩ ∧ y = .str z ∧ Q (.bl (f (decide (c ∈ z.cps.toList)))) H) ∨
    ∃ p xs, y = .ref p ∧ (SqL X.K H p xs ∨ SqT X.K H p xs) ∧ flatV x = true ∧ xs.all flatV = true ∧ Q (.bl (f (inV x xs))) H := by
  obtain ⟨r, M', e, k⟩ := h
  rcases bnd_some e with ⟨z, hi, e⟩ | ⟨t, M1, hi, e⟩
  · exfalso
    unfold inD at hi
    split at hi
    · split at hi <;> cases hi
    · split at hi
      · split at hi <;> cases hi
      · cases hi
  · unfold inD at hi
    split at hi
    · split at hi
      · rename_i c hc
        cases hi
        cases e
        cases ra; cases rb
        have := str_one hc
        exact .inl ⟨c, _, by rw [this], rfl, k μ H (Le.refl _ _) rm _ (.bl _)⟩
      · cases hi
    · split at hi
      · rename_i ys hy
        split at hi
        · rename_i hf
          cases hi
          cases e
          simp only [Bool.and_eq_true] at hf
          obtain ⟨p, vs, e1, hs, rv⟩ := seq_of (X := X) rm rb hy
          refine .inr ⟨p, vs, e1, hs, flat_v ra hf.1, flat_vs rv hf.2, ?_⟩
          rw [inSeq_v ra hf.1 rv hf.2]
          exact k μ H (Le.refl _ _) rm _ (.bl _)
        · cases hi
      · cases hi
theorem op_inDD : OpR X (compareOp .In) (rD X.K X.mg W (cmpD .inO)) := by
  intro pins s σ H x y v u Q I rx ry ⟨μ, M, a, b, rm, ra, rb, h⟩
  rcases in_wants (f := id) rm ra rb h with h | ⟨p, xs, e1, hs, h1, h2, h3⟩
  · exact op_in_sign pins s σ H _ _ v u Q I rx ry h
  · exact op_in_seq pins s σ H _ _ v u Q I rx ry ⟨p, xs, e1, hs, h1, h2, h3⟩
theorem op_notInDD : OpR X (compareOp .NotIn) (rD X.K X.mg W (cmpD .notIn)) := by
  intro pins s σ H x y v u Q I rx ry ⟨μ, M, a, b, rm, ra, rb, h⟩
  rcases in_wants (f := not) rm ra rb h with h | ⟨p, xs, e1, hs, h1, h2, h3⟩
  · exact op_notIn_sign pins s σ H _ _ v u Q I rx ry h
  · exact op_notIn_seq pins s σ H _ _ v u Q I rx ry ⟨p, xs, e1, hs, h1, h2, h3⟩
/-- all of them -/
def opOf : BinO → Operator
  | .add => .Add | .sub => .Sub | .mul => .Mult | .mod => .Mod | .fdiv => .FloorDiv | .pow => .Pow
def cmpOf : CmpO → CmpOp
  | .eq => .Eq | .ne => .NotEq | .lt => .Lt | .le => .LtE | .gt => .Gt | .ge => .GtE | .isO => .Is | .isNot => .IsNot | .inO => .In | .notIn => .NotIn
theorem op_D (o : BinO) : OpR X (binaryOp (opOf o)) (rD X.K X.mg W (binD o)) := by
  cases o
  · exact op_addD
  · exact op_subD
  · exact op_mulD
  · exact op_modD
  · exact op_fdivD
  · exact op_powD
theorem cmp_D {k : Nat} (hr : Room k X.A) (o : CmpO) : OpR X (compareOp (cmpOf o)) (rD X.K X.mg W (cmpD o)) := by
  cases o
  · exact op_eqDD hr
  · exact op_neDD hr
  · exact op_ltD hr
  · exact op_leD
  · exact op_gtD
  · exact op_geD
  · exact op_isD
  · exact op_isNotD
  · exact op_inDD
  · exact op_notInDD
end
end DL
end
section
set_option Elab.async false
set_option linter.all false
set_option maxRecDepth 100000
set_option maxHeartbeats 2000000
/-! DL, part i: the language and its interpreter. -/
namespace DL
open PySem
inductive Sel where | arg (k : Nat) | val (d : D)
/-- len, str, bool of an instance -/
inductive Dk where | len | str | bool
mutual
inductive CE where
  | var (i : Nat) | con (d : D) | bin (o : BinO) (a b : CE) | neg (a : CE) | tst (t : CT)
  | cmp (o : CmpO) (a b : CE) | chain (o o' : CmpO) (a b c : CE) | ite (t : CT) (a b : CE)
  | bcall (f : BF) (as : CEs) | bmeth (m : BM) (o : CE) (as : CEs) | isi (a : CE) (c : D)
  | own (f : Nat) (as ks : CEs) (sel : List Sel) | make (c : Str) (as ks : CEs) (sel : List Sel) | makeV (c : Str) (o : CE) (as : CEs) (sel : List Sel)
  | ometh (m : Str) (c : Str) (o : CE) (as ks : CEs) (sel : List Sel) | cmeth (c m : Str) (as ks : CEs) (sel : List Sel)
  | tupS (as : CSt) | dnew | dget (a b : CE) | din (neg : Bool) (a b : CE) | comp2 (it : CI) (g : CG) (t : CT) (it1 : CI) (g1 : CG) (t1 : CT) (e : CE) (own own1 : List Nat)
  | oeq (ne : Bool) (c : Str) (a b : CE) | dund (k : Dk) (c : Str) (a : CE)
  | attr (o : CE) (f : Str) | ix (a b : CE) | slice (a : CE) (lo hi : CO) | revS (a : CE) | ptD (as : CEs) | ptC (as : CEs) | done (a b : CE) | cnt (o a : CE) | inRng (a b : CE) | lrng (a : CE)
  | tup (as : CEs) | lst (as : CEs) | comp (it : CI) (g : CG) (t : CT) (e : CE) (own : List Nat)
  | frz (a : CE) | fstr (ps : CEs) | fmt (a : CE) | andV (a b : CE) | orV (a b : CE) | notV (a : CE)
inductive CEs where | nil | cons (e : CE) (es : CEs)
inductive CSt where | nil | cons (e : CE) (es : CSt) | star (e : CE) (es : CSt)
inductive CT where | val (e : CE) | nt (t : CT) | an (t u : CT) | or (t u : CT) | yes | bl (e : CE)
inductive CO where | no | yes (e : CE)
inductive CI where | of (e : CE) | dkeys (e : CE) | rng (a : CE) | rng2 (a b : CE) | enum (a : CE) | zip (a b : CE) | zipM (a b : CE)
inductive CG where | nm (i : Nat) | tup (gs : CGs) | sub (o i : CE) | dsub (o i : CE) | att (o : CE) (f : Str)
inductive CGs where | nil | cons (g : CG) (gs : CGs)
inductive CS where
  | asg (g : CG) (e : CE) | ex (e : CE) | rt (e : CE) | rtN | cond (t : CT) (a b : CSs)
  | forS (g : CG) (it : CI) (b : CSs) | whileS (t : CT) (b : CSs) | pass | brk | cont | stuck | tryS (b : CSs)
inductive CSs where | nil | cons (s : CS) (ss : CSs)
end
def CGs.len : CGs → Nat | .nil => 0 | .cons _ gs => gs.len + 1
/-- where a statement leaves -/
inductive Fl where | nx (e : Env) | rt (d : D) | bk (e : Env) | ct (e : Env)
abbrev FM := List D → R D
structure ClsT where
  fld : List Str
  init : FM
  meth : Str → Option FM
  prop : Str → Option FM
  cmet : Str → Option FM
  eqm : Option FM
/-- what the text's own defs and classes do -/
structure Tab where
  fn : Nat → FM
  cls : Str → Option ClsT
  fuel : Nat
theorem nr0 {p : Prop} (h : p) : p := h
/-! ### combinators -/
def noErr {α : Type} (m : R α) : R α := fun M => match m M with | some (.ok a, M') => some (.ok a, M') | _ => none
def negD (d : D) : R D := match d with | .int i => ret (.int (-i)) | _ => fail
def tupD (vs : List D) : R D := if vs.length ≤ sizeLine then ret (.tup vs) else fail
def lstD (vs : List D) : R D := if vs.length ≤ sizeLine then new (.lst vs) else fail
def revD (x : D) : R D := fun M => match x with
  | .pt ds => some (.ok (.pt ds.reverse), M)
  | _ => match lstOf M x with
    | some ds => new (.lst ds.reverse) M
    | none => none
def ptD (vs : List D) : R D := if vs.length ≤ sizeLine then ret (.pt vs) else fail
def ptCD (x : D) : R D := fun M => match lstOf M x with
  | some ds => some (.ok (.pt ds), M)
  | none => none
def ptB (vs : List D) : R D := match vs with | [x] => ptCD x | _ => fail
def asBl (d : D) : R Bool := match d with | .bl b => ret b | _ => fail
def getVar (env : Env) (i : Nat) : R D := match env[i]? with | some (some d) => ret d | _ => fail
def selD (vs : List D) : List Sel → Option (List D)
  | [] => some []
  | .arg k :: r => match vs[k]?, selD vs r with | some d, some ds => some (d :: ds) | _, _ => none
  | .val d :: r => match selD vs r with | some ds => some (d :: ds) | none => none
def setIx (o i d : D) : R Unit := fun M =>
  match o, i with
  | .ref n, .int k => match M[n]? with
    | some (.lst ds) => match L2.ixN ds.length k with
      | some j => some (.ok (), M.set n (.lst (ds.set j d)))
      | none => none
    | _ => none
  | _, _ => none
def putF (f : Str) (v : D) : List (Str × D) → List (Str × D)
  | [] => [(f, v)]
  | (g, x) :: r => if g = f then (g, v) :: r else (g, x) :: putF f v r
def setAt (T : Tab) (o : D) (f : Str) (d : D) : R Unit := fun M =>
  match o with
  | .ref n => match M[n]? with
    | some (.ins c fs) => match T.cls c with
      | some k => if k.fld.contains f = true ∧ fs.length < 1000 then some (.ok (), M.set n (.ins c (putF f d fs))) else none
      | none => none
    | _ => none
  | _ => none
/-- an instance: its class, its attributes -/
def insAny (M : Mem) : D → Option (Str × List (Str × D))
  | .ref n => match M[n]? with
    | some (.ins c fs) => some (c, fs)
    | _ => none
  | .ob c ns ds => some (c, ns.zip ds)
  | _ => none
def getAt (T : Tab) (o : D) (f : Str) : R D := fun M =>
  match insAny M o with
  | some (c, fs) => match T.cls c with
    | some k => match k.prop f with
      | some m => noErr (m [o]) M
      | none => if k.fld.contains f = true then match fs.lookup f with
        | some d => some (.ok d, M)
        | none => none
        else none
    | none => none
  | none => none
/-- the attributes of an instance of this class -/
def insOf (c : Str) (o : D) : R (List (Str × D)) := fun M =>
  match insAny M o with
  | some (c', fs) => if c' = c then some (.ok fs, M) else none
  | none => none
/-- what a class's method does -/
def methOf (T : Tab) (c m : Str) : Option FM := match T.cls c with | some k => k.meth m | none => none
def optF (f : Option FM) (vs : List D) : R D := match f with | some g => noErr (g vs) | none => fail
def makeI (T : Tab) (c : Str) (vs : List D) : R D := fun M =>
  match T.cls c with
  | some k => match k.init (.ref M.length :: vs) (M ++ [.ins c []]) with
    | some (.ok .non, M') => some (.ok (.ref M.length), M')
    | _ => none
  | none => none
def glIs (c : Str) (x : D) : R Unit := match x with | .glo c' => if c' = c then ret () else fail | _ => fail
def dundD (k : Dk) (d : D) : R D := match k, d with
  | .len, .int i => if 0 ≤ i ∧ i < 2 ^ 62 then ret (.int i) else fail
  | .str, .str y => ret (.str y)
  | .bool, .int i => if 0 ≤ i ∧ i < 2 ^ 62 then ret (.bl (decide (i ≠ 0))) else fail
  | _, _ => fail
def dkName : Dk → Str
  | .len => "__len__" | .str => "__str__" | .bool => "__len__"
def chk (g : Option (Nat × List D)) : R Unit := fun M =>
  match g with
  | none => some (.ok (), M)
  | some (n, ds) => match M[n]? with
    | some (.lst es) => if D.beqs es ds then some (.ok (), M) else none
    | _ => none
def push (n : Nat) (d : D) : R Unit := fun M =>
  match M[n]? with
  | some (.lst ds) => if ds.length < sizeLine then some (.ok (), M.set n (.lst (ds ++ [d]))) else none
  | _ => none
def compL (g : Option (Nat × List D)) (n : Nat) (turn : D → R (Option D)) : List D → R Unit
  | [] => chk g
  | d :: ds => bnd (chk g) fun _ => bnd (turn d) fun o => match o with
    | none => compL g n turn ds
    | some y => bnd (push n y) fun _ => compL g n turn ds
/-! dicts with tuples as keys -/
def keyD : D → Option L2.Key
  | .int i => some (.inl i)
  | .str x => some (.inr x)
  | _ => none
def keyOf : D → Option (List L2.Key)
  | .tup ds => mapO keyD ds
  | _ => none
def getK : List (List L2.Key × D) → List L2.Key → Option D
  | [], _ => none
  | (k, d) :: r, q => if k = q then some d else getK r q
def setK (kvs : List (List L2.Key × D)) (q : List L2.Key) (d : D) : List (List L2.Key × D) :=
  if (kvs.any fun kv => decide (kv.1 = q)) = true then kvs.map (fun kv => if kv.1 = q then (kv.1, d) else kv) else kvs ++ [(q, d)]
def dctOf (M : Mem) : D → Option (Bool × List (List L2.Key × D))
  | .ref n => match M[n]? with
    | some (.dct fz kvs) => some (fz, kvs)
    | _ => none
  | _ => none
def dgetD (x y : D) : R D := fun M => match dctOf M x, keyOf y with
  | some p, some k => match getK p.2 k with
    | some d => some (.ok d, M)
    | none => none
  | _, _ => none
def dinD (neg : Bool) (y x : D) : R D := fun M => match dctOf M x, keyOf y with
  | some p, some k => some (.ok (.bl (if neg = true then !(getK p.2 k).isSome else (getK p.2 k).isSome)), M)
  | _, _ => none
def dsetD (x y d : D) : R Unit := fun M => match keyOf y with
  | some k => match x with
    | .ref n => match M[n]? with
      | some (.dct false kvs) => if kvs.length < sizeLine then some (.ok (), M.set n (.dct false (setK kvs k d))) else none
      | _ => none
    | _ => none
  | none => none
def kD : L2.Key → D
  | .inl i => .int i
  | .inr x => .str x
def dkeysD (x : D) : R (List D × Option (Nat × List D)) := fun M => match x with
  | .ref n => match M[n]? with
    | some (.dct _ kvs) => some (.ok (kvs.map fun p => .tup (p.1.map kD), none), M.set n (.dct true kvs))
    | _ => none
  | _ => none
def seqD (x : D) : R (List D) := fun M => match seqOf M x with
  | some ds => some (.ok ds, M)
  | none => none
def loopU (g : Option (Nat × List D)) (turn : D → R Unit) : List D → R Unit
  | [] => chk g
  | d :: ds => bnd (chk g) fun _ => bnd (turn d) fun _ => loopU g turn ds
def forL (g : Option (Nat × List D)) (turn : D → Env → R Fl) : List D → Env → R Fl
  | [], env => bnd (chk g) fun _ => ret (.nx env)
  | d :: ds, env => bnd (chk g) fun _ => bnd (turn d env) fun f => match f with
    | .nx e => forL g turn ds e
    | .ct e => forL g turn ds e
    | .bk e => ret (.nx e)
    | .rt d => ret (.rt d)
def whileL (t : Env → R Bool) (b : Env → R Fl) : Nat → Env → R Fl
  | 0, _ => fail
  | n + 1, env => bnd (t env) fun k => if k = true then bnd (b env) fun f => match f with
      | .nx e => whileL t b n e
      | .ct e => whileL t b n e
      | .bk e => ret (.nx e)
      | .rt d => ret (.rt d)
    else ret (.nx env)
def wipeE (env : Env) : List Nat → Env
  | [] => env
  | v :: vs => (wipeE env vs).set v none
def itemsOf (x : D) : R (List D × Option (Nat × List D)) := fun M =>
  match x with
  | .fl ds => some (.ok (ds, none), M)
  | .str z => some (.ok (z.cps.toList.map fun c => .str ⟨#[c]⟩, none), M)
  | .tup ds => some (.ok (ds, none), M)
  | .pt ds => some (.ok (ds, none), M)
  | .scr ds => some (.ok (ds, none), M)
  | .ref n => match M[n]? with
    | some (.lst ds) => some (.ok (ds, some (n, ds)), M)
    | _ => none
  | _ => none
def seqG (x : D) : R (List D × Option (Nat × List D)) := fun M =>
  match x with
  | .fl ds => some (.ok (ds, none), M)
  | .tup ds => some (.ok (ds, none), M)
  | .pt ds => some (.ok (ds, none), M)
  | .scr ds => some (.ok (ds, none), M)
  | .ref n => match M[n]? with
    | some (.lst ds) => some (.ok (ds, some (n, ds)), M)
    | _ => none
  | _ => none
def numbered (k : Nat) : List D → List D
  | [] => []
  | d :: ds => .tup [.int k, d] :: numbered (k + 1) ds
def inR (k : Int) : Bool := decide (-(2 ^ 62) ≤ k ∧ k < 2 ^ 62)
def rangeD (lo : Int) : Nat → List D
  | 0 => []
  | n + 1 => .int lo :: rangeD (lo + 1) n
def reprD (x : D) : R D := fun M =>
  match toPy M 20 x with
  | some p => if p.showable && !p.hasDict && decide (p.depth ≤ 60) && decide (p.shown.length ≤ sizeLine) then some (.ok (.str p.shown), M) else none
  | none => none
def sortStrs (xs : List Str) : List Str := xs.mergeSort fun a b => !decide (b.cps.toList < a.cps.toList)
def sortInts (xs : List Int) : List Int := xs.mergeSort fun a b => decide (a ≤ b)
def lenB (vs : List D) : R D := fun M =>
  match vs with
  | [.str y] => if y.length ≤ sizeLine then some (.ok (.int y.length), M) else none
  | [x] => match seqOf M x with
    | some ds => some (.ok (.int ds.length), M)
    | none => none
  | _ => none
def absB (vs : List D) : R D := match vs with | [.int i] => ret (.int (if i < 0 then -i else i)) | _ => fail
def maxOf : List Int → Option Int
  | [] => none
  | n :: ns => some (ns.foldl (fun a b => if b > a then b else a) n)
def minOf : List Int → Option Int
  | [] => none
  | n :: ns => some (ns.foldl (fun a b => if b < a then b else a) n)
def maxB (vs : List D) : R D := fun M => match vs with
  | [.int i, .int j] => some (.ok (.int (if j > i then j else i)), M)
  | [x] => match tlOf M x with
    | some ds => match intsOf ds with
      | some ns => match maxOf ns with
        | some m => some (.ok (.int m), M)
        | none => none
      | none => none
    | none => none
  | _ => none
def minB (vs : List D) : R D := fun M => match vs with
  | [.int i, .int j] => some (.ok (.int (if j < i then j else i)), M)
  | [x] => match tlOf M x with
    | some ds => match intsOf ds with
      | some ns => match minOf ns with
        | some m => some (.ok (.int m), M)
        | none => none
      | none => none
    | none => none
  | _ => none
def sumB (vs : List D) : R D := fun M => match vs with
  | [x] => match tlOf M x with
    | some ds => match intsOf ds with
      | some ns => some (.ok (.int ns.sum), M)
      | none => none
    | none => none
  | _ => none
def anyB (vs : List D) : R D := fun M => match vs with
  | [x] => match lstOf M x with
    | some ds => match blsOf ds with
      | some ns => some (.ok (.bl (ns.any id)), M)
      | none => none
    | none => none
  | _ => none
def allB (vs : List D) : R D := fun M => match vs with
  | [x] => match lstOf M x with
    | some ds => match blsOf ds with
      | some ns => some (.ok (.bl (ns.all id)), M)
      | none => none
    | none => none
  | _ => none
def sortedB (vs : List D) : R D := fun M => match vs with
  | [x] => match tlOf M x with
    | some ds => match strsOf ds with
      | some ns => if ns.length < 64 then new (.lst ((sortStrs ns).map D.str)) M else none
      | none => match intsOf ds with
        | some ns => new (.lst ((sortInts ns).map D.int)) M
        | none => none
    | none => none
  | _ => none
def intB (vs : List D) : R D := match vs with
  | [.int i] => ret (.int i)
  | [.bl k] => ret (.int (if k then 1 else 0))
  | [.str a] => match PySem.intText? a with
    | some n => if a.length ≤ 640 then ret (.int n) else fail
    | none => fail
  | _ => fail
def strB (vs : List D) : R D := match vs with
  | [.int i] => if i.natAbs.log2 < 1920 then ret (.str (toString i)) else fail
  | [.str a] => ret (.str a)
  | _ => fail
def reprB (vs : List D) : R D := match vs with | [x] => reprD x | _ => fail
def listB (vs : List D) : R D := fun M => match vs with
  | [x] => match seqOf M x with
    | some ds => new (.lst ds) M
    | none => none
  | _ => none
def tupleB (vs : List D) : R D := fun M => match vs with
  | [.pt ds] => some (.ok (.pt ds), M)
  | [x] => match seqOf M x with
    | some ds => some (.ok (.tup ds), M)
    | none => none
  | _ => none
def bfun : BF → List D → R D
  | .len => lenB | .abs => absB | .max => maxB | .min => minB | .sum => sumB | .any => anyB | .all => allB | .sorted => sortedB
  | .int => intB | .str => strB | .repr => reprB | .list => listB | .tuple => tupleB
def appendM (o : D) (vs : List D) : R D := fun M => match o, vs with
  | .ref n, [d] => match M[n]? with
    | some (.lst ds) => if ds.length < sizeLine then some (.ok .non, M.set n (.lst (ds ++ [d]))) else none
    | _ => none
  | _, _ => none
def popM (o : D) (vs : List D) : R D := fun M => match o, vs with
  | .ref n, [] => match M[n]? with
    | some (.lst ds) => match ds[ds.length - 1]? with
      | some d => some (.ok d, M.set n (.lst ds.dropLast))
      | none => none
    | _ => none
  | .ref n, [.int i] => match M[n]? with
    | some (.lst ds) => if -(2 ^ 63) ≤ i ∧ i < 2 ^ 63 then match seqIndex? i ds.length with
      | some k => match ds[k]? with
        | some d => some (.ok d, M.set n (.lst (ds.eraseIdx k)))
        | none => none
      | none => none
      else none
    | _ => none
  | _, _ => none
def partM (o : D) (vs : List D) : R D := match o, vs with
  | .str a, [.str b] => if (b.length == 0) = false ∧ a.length ≤ sizeLine then ret (.tup [.str (Txt.partition a b).1, .str (Txt.partition a b).2.1, .str (Txt.partition a b).2.2]) else fail
  | _, _ => fail
def splitM (o : D) (vs : List D) : R D := match o, vs with
  | .str a, [.str b] => if (b.length == 0) = false ∧ a.length + 2 ≤ sizeLine then new (.lst ((Txt.split a b).map D.str)) else fail
  | _, _ => fail
def joinM (o : D) (vs : List D) : R D := fun M => match o, vs with
  | .str a, [x] => match seqOf M x with
    | some ds => match strsOf ds with
      | some ys => if (ys.map (·.length)).sum + ys.length * a.length ≤ 16777216 then some (.ok (.str (Txt.join a ys)), M) else none
      | none => none
    | none => none
  | _, _ => none
/-- xs.index(y), xs.count(y): flat things -/
def indexM (o : D) (vs : List D) : R D := fun M => match vs with
  | [d] => match lstOf M o with
    | some ds => if (d.flat && ds.all D.flat) = true then match ds.findIdx? (fun y => D.feq y d) with
      | some j => some (.ok (.int j), M)
      | none => none
      else none
    | none => none
  | _ => none
def lcountM (o : D) (vs : List D) : R D := fun M => match vs with
  | [d] => match lstOf M o with
    | some ds => if (d.flat && ds.all D.flat) = true then some (.ok (.int (ds.countP fun y => D.feq y d)), M) else none
    | none => none
  | _ => none
/-- x in range(n); list(range(n)) -/
def inRngD (x y : D) : R D := match x, y with
  | .int i, .int n => ret (.bl (decide (0 ≤ i ∧ i < n)))
  | _, _ => fail
def lrngD (x : D) : R D := match x with
  | .int n => if 0 ≤ n ∧ n ≤ 16777216 then new (.lst ((List.range n.toNat).map fun (i : Nat) => D.int (i : Int))) else fail
  | _ => fail
def countD (o d : D) : R D := match o with
  | .pt ds => if (d.flat && ds.all D.flat) = true then ret (.int (ds.countP fun y => D.feq y d)) else fail
  | _ => fail
def isPt (o : D) : R Unit := match o with
  | .pt _ => ret ()
  | _ => fail
def bmeth : BM → D → List D → R D
  | .append => appendM | .pop => popM | .partition => partM | .split => splitM | .join => joinM | .index => indexM | .count => lcountM
/-- the receiver is of the type whose method is called -/
def tyChk (T : String) (x : D) : R Unit := fun M =>
  match x with
  | .str _ => if T = "str" then some (.ok (), M) else none
  | .ref n => match M[n]? with
    | some (.lst _) => if T = "list" then some (.ok (), M) else none
    | _ => none
  | .fl _ => if T = "list" then some (.ok (), M) else none
  | _ => none
def bmTy : BM → String
  | .append | .pop | .index | .count => "list"
  | .partition | .split | .join => "str"
def fmtD (x : D) : R D := match x with
  | .str y => if y.length ≤ sizeLine then ret (.str y) else fail
  | .int i => if i.natAbs.log2 < 1920 then ret (.str (toString i)) else fail
  | _ => fail
/-- one text behind the other -/
def glue (acc : Str) (d : D) : Option Str := match d with
  | .str y => if (acc ++ y).length ≤ sizeLine then some (acc ++ y) else none
  | _ => none
/-- an instance is one of a class of the table -/
def notDct (M : Mem) : D → Bool
  | .ref k => match M[k]? with
    | some (.dct _ _) => false
    | _ => true
  | _ => true
def insOk (T : Tab) (M : Mem) (x : D) : Bool := match insAny M x with
  | some (c, _) => (T.cls c).isSome
  | none => notDct M x
/-- len, str, bool of an instance of the class c -/
def dundO (T : Tab) (k : Dk) (c : Str) (x : D) : R D := bnd (insOf c x) fun _ => bnd (optF (methOf T c (dkName k)) [x]) (dundD k)
/-- x == y, x != y, x an instance of the class c with its own __eq__ -/
def eqmOf (T : Tab) (c : Str) : Option FM := match T.cls c with | some k => k.eqm | none => none
/-- no class -/
def plainR : D → Bool
  | .glo _ => false
  | .bty _ => false
  | _ => true
def eqO (T : Tab) (ne : Bool) (c : Str) (x y : D) : R D := fun M => if insOk T M y = true ∧ plainR y = true then bnd (insOf c x) (fun _ => bnd (optF (eqmOf T c) [x, y]) fun d => bnd (asBl d) fun r => ret (.bl (if ne = true then !r else r))) M else none
def isCls (M : Mem) (x : D) (c : Str) : Option Bool := match x with
  | .ref k => match M[k]? with
    | some (.lst _) => some false
    | some (.ins c' _) => some (decide (c' = c))
    | some (.dct _ _) => none
    | none => none
  | .non | .bl _ | .int _ | .str _ | .tup _ | .scr _ | .fl _ | .pt _ => some false
  | .ob c' _ _ => some (decide (c' = c))
  | _ => none
def isAny (M : Mem) (x c : D) : Option Bool := match c with
  | .bty n => isInst M x n
  | .glo c => isCls M x c
  | _ => none
def isiD (T : Tab) (x c : D) : R Bool := fun M => if insOk T M x = true then match isAny M x c with | some b => some (.ok b, M) | none => none else none
/-! what a computation made, let go: its objects as values -/
mutual
def D.low (n : Nat) : D → Bool
  | .ref k => decide (k < n)
  | .tup ds => D.lows n ds
  | .scr ds => D.lows n ds
  | .fl ds => D.lows n ds
  | .pt ds => D.lows n ds
  | .ob _ _ ds => D.lows n ds
  | _ => true
def D.lows (n : Nat) : List D → Bool
  | [] => true
  | d :: ds => D.low n d && D.lows n ds
end
def O.low (n : Nat) : O → Bool
  | .lst ds => D.lows n ds
  | .ins _ fs => D.lows n (fs.map (·.2))
  | .dct _ kvs => D.lows n (kvs.map (·.2))
def frD (M : Mem) (n : Nat) : Nat → D → Option D
  | 0, d => if D.low n d = true then some d else none
  | m + 1, d => if D.low n d = true then some d else match d with
    | .ref k => match M[k]? with
      | some (.lst ds) => (mapO (frD M n m) ds).map .fl
      | some (.ins c fs) => (mapO (frD M n m) (fs.map (·.2))).map (.ob c (fs.map (·.1)))
      | some (.dct _ _) => none
      | none => none
    | .tup ds => (mapO (frD M n m) ds).map .tup
    | .scr ds => (mapO (frD M n m) ds).map .scr
    | .fl ds => (mapO (frD M n m) ds).map .fl
    | .pt ds => (mapO (frD M n m) ds).map .pt
    | .ob c ns ds => (mapO (frD M n m) ds).map (.ob c ns)
    | _ => none
def O.beq : O → O → Bool
  | .lst a, .lst b => D.beqs a b
  | .ins c fs, .ins c' gs => c == c' && (fs.map (·.1) == gs.map (·.1) && D.beqs (fs.map (·.2)) (gs.map (·.2)))
  | .dct z fs, .dct z' gs => z == z' && (decide (fs.map (·.1) = gs.map (·.1)) && D.beqs (fs.map (·.2)) (gs.map (·.2)))
  | _, _ => false
theorem pairs_eq {α β : Type} : ∀ {fs gs : List (α × β)}, fs.map (·.1) = gs.map (·.1) → fs.map (·.2) = gs.map (·.2) → fs = gs
  | [], [], _, _ => rfl
  | [], _ :: _, h, _ => by simp at h
  | _ :: _, [], h, _ => by simp at h
  | (a, b) :: fs, (c, d) :: gs, h1, h2 => by
    simp only [List.map_cons, List.cons.injEq] at h1 h2
    rw [h1.1, h2.1, pairs_eq h1.2 h2.2]
theorem O.eq_of : ∀ {a b : O}, O.beq a b = true → a = b
  | .lst a, .lst b, h => by rw [D.eqs_of a b h]
  | .ins c fs, .ins c' gs, h => by
    simp only [O.beq, Bool.and_eq_true, beq_iff_eq] at h
    rw [h.1, pairs_eq h.2.1 (D.eqs_of _ _ h.2.2)]
  | .dct z fs, .dct z' gs, h => by
    simp only [O.beq, Bool.and_eq_true, beq_iff_eq, decide_eq_true_eq] at h
    rw [h.1, pairs_eq h.2.1 (D.eqs_of _ _ h.2.2)]
  | .lst _, .ins _ _, h => by cases h
  | .ins _ _, .lst _, h => by cases h
  | .lst _, .dct _ _, h => by cases h
  | .ins _ _, .dct _ _, h => by cases h
  | .dct _ _, .ins _ _, h => by cases h
  | .dct _ _, .lst _, h => by cases h
theorem O.beq_self (a : O) : O.beq a a = true := by cases a <;> simp [O.beq, D.beqs_self]
/-- the old objects are as they were, or hold nothing new -/
def oldOk (n : Nat) : Mem → Mem → Bool
  | [], _ => true
  | _ :: _, [] => false
  | o :: M, o' :: M' => (O.beq o o' || O.low n o') && oldOk n M M'
def frzR (m : R D) : R D := fun M => match m M with
  | some (.ok d, M') => match frD M' M.length 20 d with
    | some d' => if oldOk M.length M M' = true then some (.ok d', M'.take M.length) else none
    | none => none
  | _ => none
def optI (d : D) : R (Option Int) := match d with | .int i => ret (some i) | _ => fail
def zipTD (x y : D) : R (List D × Option (Nat × List D)) := match x, y with
  | .tup ds, .tup es => ret (List.zipWith (fun d e => .tup [d, e]) ds es, none)
  | _, _ => fail
def zipMD (x y : D) : R (List D × Option (Nat × List D)) := match x, y with
  | .tup ds, .fl es => ret (List.zipWith (fun d e => .tup [d, e]) ds es, none)
  | _, _ => fail
/-! ### the interpreter -/
mutual
def evE (T : Tab) : CE → Env → R D
  | .var i, env => getVar env i
  | .con d, _ => ret d
  | .bin o a b, env => bnd (evE T a env) fun x => bnd (evE T b env) fun y => binD o x y
  | .neg a, env => bnd (evE T a env) negD
  | .tst t, env => bnd (evT T t env) fun b => ret (.bl b)
  | .cmp o a b, env => bnd (evE T a env) fun x => bnd (evE T b env) fun y => cmpD o x y
  | .chain o o' a b c, env => bnd (evE T a env) fun x => bnd (evE T b env) fun y => bnd (cmpD o x y) fun d => bnd (asBl d) fun k =>
      if k = true then bnd (evE T c env) fun z => cmpD o' y z else ret (.bl false)
  | .ite t a b, env => bnd (evT T t env) fun k => if k = true then evE T a env else evE T b env
  | .bcall f as, env => bnd (evEs T as env) fun vs => bfun f vs
  | .bmeth m o as, env => bnd (evE T o env) fun x => bnd (tyChk (bmTy m) x) fun _ => bnd (evEs T as env) fun vs => bmeth m x vs
  | .isi a c, env => bnd (evE T a env) fun x => bnd (isiD T x c) fun b => ret (.bl b)
  | .own f as ks sel, env => bnd (evEs T as env) fun vs => bnd (evEs T ks env) fun us => bnd (opt (selD (vs ++ us) sel)) fun ws => noErr (T.fn f ws)
  | .make c as ks sel, env => bnd (evEs T as env) fun vs => bnd (evEs T ks env) fun us => bnd (opt (selD (vs ++ us) sel)) fun ws => makeI T c ws
  | .makeV c o as sel, env => bnd (evE T o env) fun x => bnd (glIs c x) fun _ => bnd (evEs T as env) fun vs => bnd (opt (selD vs sel)) fun ws => makeI T c ws
  | .ometh m c o as ks sel, env => bnd (evE T o env) fun x => bnd (insOf c x) fun fs => if (fs.lookup m).isNone = true then bnd (evEs T as env) fun vs => bnd (evEs T ks env) fun us => bnd (opt (selD (vs ++ us) sel)) fun ws => optF (methOf T c m) (x :: ws) else fail
  | .cmeth c m as ks sel, env => bnd (evEs T as env) fun vs => bnd (evEs T ks env) fun us => bnd (opt (selD (vs ++ us) sel)) fun ws => match T.cls c with
      | some k => optF (k.cmet m) (.glo c :: ws)
      | none => fail
  | .tupS as, env => bnd (evSt T as env) tupD
  | .dnew, _ => new (.dct false [])
  | .dget a b, env => bnd (evE T a env) fun x => bnd (evE T b env) fun y => dgetD x y
  | .din neg a b, env => bnd (evE T a env) fun y => bnd (evE T b env) fun x => dinD neg y x
  | .comp2 it g t it1 g1 t1 e own own1, env => bnd (evI T it env) fun p => bnd (new (.lst [])) fun r => match r with
      | .ref n => bnd (loopU p.2 (fun d => bnd (evG T g d (wipeE env own)) fun env2 => bnd (evT T t env2) fun k => if k = true then bnd (evI T it1 env2) fun p1 => compL p1.2 n (fun d => bnd (evG T g1 d (wipeE env2 own1)) fun env3 => bnd (evT T t1 env3) fun k => if k = true then bnd (evE T e env3) fun y => ret (some y) else ret none) p1.1 else ret ()) p.1) fun _ => ret (.ref n)
      | _ => fail
  | .oeq ne c a b, env => bnd (evE T a env) fun x => bnd (evE T b env) fun y => eqO T ne c x y
  | .dund k c a, env => bnd (evE T a env) (dundO T k c)
  | .attr o f, env => bnd (evE T o env) fun x => getAt T x f
  | .ix a b, env => bnd (evE T a env) fun x => bnd (evE T b env) fun y => getIx x y
  | .slice a lo hi, env => bnd (evE T a env) fun x => bnd (evO T lo env) fun l => bnd (evO T hi env) fun h => getSl x l h
  | .revS a, env => bnd (evE T a env) revD
  | .ptD as, env => bnd (evEs T as env) ptD
  | .ptC as, env => bnd (evEs T as env) ptB
  | .cnt o a, env => bnd (evE T o env) fun x => bnd (isPt x) fun _ => bnd (evE T a env) fun y => countD x y
  | .inRng a b, env => bnd (evE T a env) fun x => bnd (evE T b env) fun y => inRngD x y
  | .lrng a, env => bnd (evE T a env) lrngD
  | .done a b, env => bnd (new (.dct false [])) fun r => bnd (evE T a env) fun x => bnd (evE T b env) fun y => bnd (dsetD r x y) fun _ => ret r
  | .tup as, env => bnd (evEs T as env) tupD
  | .lst as, env => bnd (evEs T as env) lstD
  | .comp it g t e own, env => bnd (evI T it env) fun p => bnd (new (.lst [])) fun r => match r with
      | .ref n => bnd (compL p.2 n (fun d => bnd (evG T g d (wipeE env own)) fun env2 => bnd (evT T t env2) fun k => if k = true then bnd (evE T e env2) fun y => ret (some y) else ret none) p.1) fun _ => ret (.ref n)
      | _ => fail
  | .frz a, env => frzR (evE T a env)
  | .fstr ps, env => bnd (evJ T ps Str.empty env) fun z => ret (.str z)
  | .fmt a, env => bnd (evE T a env) fmtD
  | .andV a b, env => bnd (evE T a env) fun x => bnd (tru x) fun k => if k = true then evE T b env else ret x
  | .orV a b, env => bnd (evE T a env) fun x => bnd (tru x) fun k => if k = true then ret x else evE T b env
  | .notV a, env => bnd (evE T a env) fun x => bnd (tru x) fun k => ret (.bl (!k))
def evEs (T : Tab) : CEs → Env → R (List D)
  | .nil, _ => ret []
  | .cons e es, env => bnd (evE T e env) fun x => bnd (evEs T es env) fun xs => ret (x :: xs)
def evSt (T : Tab) : CSt → Env → R (List D)
  | .nil, _ => ret []
  | .cons e es, env => bnd (evE T e env) fun x => bnd (evSt T es env) fun xs => ret (x :: xs)
  | .star e es, env => bnd (evE T e env) fun x => bnd (seqD x) fun ys => bnd (evSt T es env) fun xs => ret (ys ++ xs)
def evJ (T : Tab) : CEs → Str → Env → R Str
  | .nil, acc, _ => ret acc
  | .cons e es, acc, env => bnd (evE T e env) fun x => bnd (opt (glue acc x)) fun z => evJ T es z env
def evT (T : Tab) : CT → Env → R Bool
  | .val e, env => bnd (evE T e env) tru
  | .bl e, env => bnd (evE T e env) asBl
  | .nt t, env => bnd (evT T t env) fun b => ret (!b)
  | .an t u, env => bnd (evT T t env) fun b => if b = true then evT T u env else ret false
  | .or t u, env => bnd (evT T t env) fun b => if b = true then ret true else evT T u env
  | .yes, _ => ret true
def evO (T : Tab) : CO → Env → R (Option Int)
  | .no, _ => ret none
  | .yes e, env => bnd (evE T e env) optI
def evI (T : Tab) : CI → Env → R (List D × Option (Nat × List D))
  | .of e, env => bnd (evE T e env) itemsOf
  | .dkeys e, env => bnd (evE T e env) dkeysD
  | .rng a, env => bnd (evE T a env) fun x => match x with | .int j => if inR j then ret (rangeD 0 j.toNat, none) else fail | _ => fail
  | .rng2 a b, env => bnd (evE T a env) fun x => bnd (evE T b env) fun y => match x, y with | .int i, .int j => if inR i && inR j then ret (rangeD i (j - i).toNat, none) else fail | _, _ => fail
  | .enum a, env => bnd (evE T a env) fun x => bnd (seqG x) fun p => ret (numbered 0 p.1, p.2)
  | .zip a b, env => bnd (evE T a env) fun x => bnd (evE T b env) fun y => match x, y with
      | .tup ds, .tup es => ret (List.zipWith (fun d e => .tup [d, e]) ds es, none)
      | _, _ => fail
  | .zipM a b, env => bnd (evE T a env) fun x => bnd (evE T b env) fun y => zipMD x y
def evG (T : Tab) : CG → D → Env → R Env
  | .nm i, d, env => ret (env.set i (some d))
  | .tup gs, d, env => match d with
      | .tup ds => if ds.length = gs.len then evGs T gs ds env else fail
      | _ => fail
  | .sub o i, d, env => bnd (evE T o env) fun x => bnd (evE T i env) fun y => bnd (setIx x y d) fun _ => ret env
  | .dsub o i, d, env => bnd (evE T o env) fun x => bnd (evE T i env) fun y => bnd (dsetD x y d) fun _ => ret env
  | .att o f, d, env => bnd (evE T o env) fun x => bnd (setAt T x f d) fun _ => ret env
def evGs (T : Tab) : CGs → List D → Env → R Env
  | .nil, ds, env => if ds.isEmpty = true then ret env else fail
  | .cons g gs, ds, env => match ds with
      | d :: ds => bnd (evG T g d env) fun env2 => evGs T gs ds env2
      | [] => fail
def evS (T : Tab) : CS → Env → R Fl
  | .asg g e, env => bnd (evE T e env) fun d => bnd (evG T g d env) fun env2 => ret (.nx env2)
  | .ex e, env => bnd (evE T e env) fun _ => ret (.nx env)
  | .rt e, env => bnd (evE T e env) fun d => ret (.rt d)
  | .rtN, _ => ret (.rt .non)
  | .cond t a b, env => bnd (evT T t env) fun k => if k = true then evSs T a env else evSs T b env
  | .forS g it b, env => bnd (evI T it env) fun p => forL p.2 (fun d env => bnd (evG T g d env) fun env2 => evSs T b env2) p.1 env
  | .whileS t b, env => whileL (evT T t) (evSs T b) T.fuel env
  | .pass, env => ret (.nx env)
  | .brk, env => ret (.bk env)
  | .cont, env => ret (.ct env)
  | .stuck, _ => fail
  | .tryS b, env => evSs T b env
def evSs (T : Tab) : CSs → Env → R Fl
  | .nil, env => ret (.nx env)
  | .cons s ss, env => bnd (evS T s env) fun f => match f with
      | .nx env2 => evSs T ss env2
      | .rt d => ret (.rt d)
      | .bk e => ret (.bk e)
      | .ct e => ret (.ct e)
end
/-- a def's body with its arguments; n names in all -/
def runDef (T : Tab) (n : Nat) (b : CSs) : FM := fun vs => bnd (evSs T b (vs.map some ++ List.replicate (n - vs.length) none)) fun f => match f with
  | .rt d => ret d
  | .nx _ => ret .non
  | _ => fail
end DL
end
section
set_option Elab.async false
set_option linter.all false
set_option maxRecDepth 100000
set_option maxHeartbeats 2000000
/-! DL, part e: readings by computations; expressions. -/
namespace DL
open PySem PySem.Spec PyProof.Rows L2
/-- the values of the names -/
def RepS (K : PySem.W.Frag) (mg : Str → Option Value) (μ : List Addr) (H : Hp) (env : Env) (σ : L2.St) : Prop :=
  env.length = σ.length ∧ ∀ (i : Nat) (d : D), env[i]? = some (some d) → ∃ v, σ[i]? = some (some v) ∧ RepV K mg μ H d v
section
variable {K : PySem.W.Frag} {mg : Str → Option Value} {μ μ' : List Addr} {M : Mem} {H H' : Hp} {env : Env} {σ : L2.St}
theorem RepS.up (s : RepS K mg μ H env σ) (l : Le μ H μ' H') (r : RepM K mg μ M H) : RepS K mg μ' H' env σ :=
  ⟨s.1, fun i d e => let ⟨v, h, q⟩ := s.2 i d e; ⟨v, h, q.up l r⟩⟩
theorem RepS.set (s : RepS K mg μ H env σ) (i : Nat) {d : D} {v : V} (h : RepV K mg μ H d v) : RepS K mg μ H (env.set i (some d)) (σ.set i (some v)) := by
  refine ⟨by rw [List.length_set, List.length_set]; exact s.1, fun j e hj => ?_⟩
  by_cases hij : i = j
  · subst hij
    have hl : i < env.length := by
      have := (List.getElem?_eq_some_iff.mp hj).1
      simpa using this
    rw [List.getElem?_set_self hl] at hj
    cases hj
    exact ⟨v, List.getElem?_set_self (by rw [← s.1]; exact hl), h⟩
  · rw [List.getElem?_set_ne hij] at hj
    rw [List.getElem?_set_ne hij]
    exact s.2 j e hj
theorem RepS.unset (s : RepS K mg μ H env σ) (i : Nat) : RepS K mg μ H (env.set i none) (σ.set i none) := by
  refine ⟨by rw [List.length_set, List.length_set]; exact s.1, fun j e hj => ?_⟩
  by_cases hij : i = j
  · subst hij
    have hl : i < env.length := by
      have := (List.getElem?_eq_some_iff.mp hj).1
      simpa using this
    rw [List.getElem?_set_self hl] at hj
    cases hj
  · rw [List.getElem?_set_ne hij] at hj
    rw [List.getElem?_set_ne hij]
    exact s.2 j e hj
theorem RepS.wipe (s : RepS K mg μ H env σ) : ∀ vs : List Nat, RepS K mg μ H (wipeE env vs) (wipe σ vs)
  | [] => s
  | v :: vs => (RepS.wipe s vs).unset v
end
def relB (_ : List Addr) (_ : Hp) (a b : Bool) : Prop := a = b
def relO (_ : List Addr) (_ : Hp) (a b : Option Int) : Prop := a = b
def tD (K : PySem.W.Frag) (mg : Str → Option Value) (W : XW) (m : Env → R D) : TE := fun σ H Q => ∃ μ M env, RepM K mg μ M H ∧ RepS K mg μ H env σ ∧ Wants K mg W (RepV K mg) (m env M) μ H Q
def tTD (K : PySem.W.Frag) (mg : Str → Option Value) (W : XW) (m : Env → R Bool) : TT := fun σ H Q => ∃ μ M env, RepM K mg μ M H ∧ RepS K mg μ H env σ ∧ Wants K mg W relB (m env M) μ H Q
def tAD (K : PySem.W.Frag) (mg : Str → Option Value) (W : XW) (m : Env → R (List D)) : TA := fun σ H Q => ∃ μ M env, RepM K mg μ M H ∧ RepS K mg μ H env σ ∧ Wants K mg W (RepVs K mg) (m env M) μ H Q
def tOD (K : PySem.W.Frag) (mg : Str → Option Value) (W : XW) (m : Env → R (Option Int)) : TO := fun σ H Q => ∃ μ M env, RepM K mg μ M H ∧ RepS K mg μ H env σ ∧ Wants K mg W relO (m env M) μ H Q
theorem pe_imp {X : Cx} {e : Expr} {t t' : TE} (h : PE X e t) (i : ∀ σ H Q, t' σ H Q → t σ H Q) : PE X e t' := ⟨fun pins s σ H Q I q => h.run pins s σ H Q I (i σ H Q q)⟩
theorem pt_imp {X : Cx} {e : Expr} {t t' : TT} (h : PT X e t) (i : ∀ σ H Q, t' σ H Q → t σ H Q) : PT X e t' := ⟨fun pins s σ H Q I q => h.run pins s σ H Q I (i σ H Q q)⟩
theorem pa_imp {X : Cx} {e : List Expr} {t t' : TA} (h : PA X e t) (i : ∀ σ H Q, t' σ H Q → t σ H Q) : PA X e t' := ⟨fun pos pins s σ H Q I q => h.run pos pins s σ H Q I (i σ H Q q)⟩
theorem po_imp {X : Cx} {e : Option Expr} {t t' : TO} (h : PO X e t) (i : ∀ σ H Q, t' σ H Q → t σ H Q) : PO X e t' := ⟨fun pins s σ H Q I q => h.run pins s σ H Q I (i σ H Q q)⟩
theorem ps_imp {X : Cx} {e : Stmt} {t t' : TS} (h : PS X e t) (i : ∀ D σ H, t' D σ H → t D σ H) : PS X e t' := ⟨fun pins s σ H D I q => h.run pins s σ H D I (i D σ H q)⟩
theorem pss_imp {X : Cx} {e : List Stmt} {t t' : TS} (h : PSs X e t) (i : ∀ D σ H, t' D σ H → t D σ H) : PSs X e t' := ⟨fun pins s σ H D I q => h.run pins s σ H D I (i D σ H q)⟩
section
variable {X : Cx} {W : XW} {a b c e : Expr} {pos : Pos} {ma mb mc : Env → R D} {σ : L2.St} {H : Hp}
/-- first a computation, then what follows from its value -/
theorem tD_bnd {α : Type} {K : PySem.W.Frag} {mg : Str → Option Value} {rel : List Addr → Hp → α → β → Prop} {f : D → Env → R α} {Q : β → Hp → Prop} {μ : List Addr} {M : Mem} {env : Env} (rm : RepM K mg μ M H) (rs : RepS K mg μ H env σ)
    (h : Wants K mg W rel (bnd (ma env) (fun d => f d env) M) μ H Q) {Q' : VK} (k : ∀ v H1 μ1 M1 d, Le μ H μ1 H1 → RepM K mg μ1 M1 H1 → RepS K mg μ1 H1 env σ → RepV K mg μ1 H1 d v → Wants K mg W rel (f d env M1) μ1 H1 Q → Q' v H1) : tD K mg W ma σ H Q' := by
  obtain ⟨r, M', e, q⟩ := h.bnd (rel1 := RepV K mg)
  refine ⟨μ, M, env, rm, rs, r, M', e, fun μ' H' l rm' => ?_⟩
  have q' := q μ' H' l rm'
  cases r with
  | error x => exact q'
  | ok d =>
    intro v rv
    obtain ⟨μ1, M1, d1, l1, rm1, rv1, w⟩ := q' v rv
    exact k v H' μ1 M1 d1 l1 rm1 (rs.up l1 rm) rv1 w
theorem tT_bnd {α β : Type} {K : PySem.W.Frag} {mg : Str → Option Value} {rel : List Addr → Hp → α → β → Prop} {mt : Env → R Bool} {f : Bool → Env → R α} {Q : β → Hp → Prop} {μ : List Addr} {M : Mem} {env : Env} (rm : RepM K mg μ M H) (rs : RepS K mg μ H env σ)
    (h : Wants K mg W rel (bnd (mt env) (fun d => f d env) M) μ H Q) {Q' : Bool → Hp → Prop} (k : ∀ b H1 μ1 M1, Le μ H μ1 H1 → RepM K mg μ1 M1 H1 → RepS K mg μ1 H1 env σ → Wants K mg W rel (f b env M1) μ1 H1 Q → Q' b H1) : tTD K mg W mt σ H Q' := by
  obtain ⟨r, M', e, q⟩ := h.bnd (rel1 := relB)
  refine ⟨μ, M, env, rm, rs, r, M', e, fun μ' H' l rm' => ?_⟩
  have q' := q μ' H' l rm'
  cases r with
  | error x => exact q'
  | ok d =>
    intro v rv
    obtain ⟨μ1, M1, d1, l1, rm1, rv1, w⟩ := q' v rv
    cases rv1
    exact k _ H' μ1 M1 l1 rm1 (rs.up l1 rm) w
theorem tA_bnd {α β : Type} {K : PySem.W.Frag} {mg : Str → Option Value} {rel : List Addr → Hp → α → β → Prop} {mt : Env → R (List D)} {f : List D → Env → R α} {Q : β → Hp → Prop} {μ : List Addr} {M : Mem} {env : Env} (rm : RepM K mg μ M H) (rs : RepS K mg μ H env σ)
    (h : Wants K mg W rel (bnd (mt env) (fun d => f d env) M) μ H Q) {Q' : List V → Hp → Prop} (k : ∀ vs H1 μ1 M1 ds, Le μ H μ1 H1 → RepM K mg μ1 M1 H1 → RepS K mg μ1 H1 env σ → RepVs K mg μ1 H1 ds vs → Wants K mg W rel (f ds env M1) μ1 H1 Q → Q' vs H1) : tAD K mg W mt σ H Q' := by
  obtain ⟨r, M', e, q⟩ := h.bnd (rel1 := RepVs K mg)
  refine ⟨μ, M, env, rm, rs, r, M', e, fun μ' H' l rm' => ?_⟩
  have q' := q μ' H' l rm'
  cases r with
  | error x => exact q'
  | ok d =>
    intro v rv
    obtain ⟨μ1, M1, d1, l1, rm1, rv1, w⟩ := q' v rv
    exact k _ H' μ1 M1 d1 l1 rm1 (rs.up l1 rm) rv1 w
theorem tO_bnd {α β : Type} {K : PySem.W.Frag} {mg : Str → Option Value} {rel : List Addr → Hp → α → β → Prop} {mt : Env → R (Option Int)} {f : Option Int → Env → R α} {Q : β → Hp → Prop} {μ : List Addr} {M : Mem} {env : Env} (rm : RepM K mg μ M H) (rs : RepS K mg μ H env σ)
    (h : Wants K mg W rel (bnd (mt env) (fun d => f d env) M) μ H Q) {Q' : Option Int → Hp → Prop} (k : ∀ b H1 μ1 M1, Le μ H μ1 H1 → RepM K mg μ1 M1 H1 → RepS K mg μ1 H1 env σ → Wants K mg W rel (f b env M1) μ1 H1 Q → Q' b H1) : tOD K mg W mt σ H Q' := by
  obtain ⟨r, M', e, q⟩ := h.bnd (rel1 := relO)
  refine ⟨μ, M, env, rm, rs, r, M', e, fun μ' H' l rm' => ?_⟩
  have q' := q μ' H' l rm'
  cases r with
  | error x => exact q'
  | ok d =>
    intro v rv
    obtain ⟨μ1, M1, d1, l1, rm1, rv1, w⟩ := q' v rv
    cases rv1
    exact k _ H' μ1 M1 l1 rm1 (rs.up l1 rm) w
/-! ### names, constants -/
theorem de_var {i : Nat} {x : Str} (hN : X.N[i]? = some x) (hv : Vis X.env.scope x) (hd : (x == ("__debug__" : Str)) = false) (hc : (x == ("__classdict__" : Str)) = false) : PE X (.Name x pos) (tD X.K X.mg W (fun env => getVar env i)) :=
  pe_imp (pe_var hN hv hd hc) fun σ H Q ⟨μ, M, env, rm, rs, h⟩ => by
    have h : Wants X.K X.mg W (RepV X.K X.mg) (getVar env i M) μ H Q := h
    cases he : env[i]? with
    | none => simp only [getVar, he] at h; exact h.fail.elim
    | some o =>
      cases o with
      | none => simp only [getVar, he] at h; exact h.fail.elim
      | some d =>
        simp only [getVar, he] at h
        obtain ⟨v, e, rv⟩ := rs.2 i d he
        exact ⟨v, e, h.ret rm rv⟩
theorem de_c {v : V} {d : D} (h : PE X e (tC v)) (hv : ∀ μ H, RepV X.K X.mg μ H d v) : PE X e (tD X.K X.mg W (fun _ => ret d)) :=
  pe_imp h fun σ H Q ⟨μ, M, env, rm, rs, h⟩ => h.ret rm (hv μ H)
/-! ### operators -/
theorem de_bin (o : BinO) (ha : PE X a (tD X.K X.mg W ma)) (hb : PE X b (tD X.K X.mg W mb)) : PE X (.BinOp a (opOf o) b pos) (tD X.K X.mg W (fun env => bnd (ma env) fun x => bnd (mb env) fun y => binD o x y)) :=
  pe_imp (pe_op (op_D (W := W) o) ha hb) fun σ H Q ⟨μ, M, env, rm, rs, h⟩ =>
    tD_bnd rm rs h (f := fun x env => bnd (mb env) fun y => binD o x y) fun v H1 μ1 M1 d l1 rm1 rs1 rv w =>
      tD_bnd rm1 rs1 w (f := fun y env => binD o d y) fun v2 H2 μ2 M2 d2 l2 rm2 rs2 rv2 w2 => ⟨μ2, M2, d, d2, rm2, rv.up l2 rm1, rv2, w2⟩
theorem de_cmp {k : Nat} (hr : Room k X.A) (o : CmpO) (ha : PE X a (tD X.K X.mg W ma)) (hb : PE X b (tD X.K X.mg W mb)) (hm : behindInMarks (cmpOf o) b = false) :
    PE X (.Compare a [cmpOf o] [b] pos) (tD X.K X.mg W (fun env => bnd (ma env) fun x => bnd (mb env) fun y => cmpD o x y)) :=
  pe_imp (pe_cmpR (cmp_D (W := W) hr o) ha hb hm) fun σ H Q ⟨μ, M, env, rm, rs, h⟩ =>
    tD_bnd rm rs h (f := fun x env => bnd (mb env) fun y => cmpD o x y) fun v H1 μ1 M1 d l1 rm1 rs1 rv w =>
      tD_bnd rm1 rs1 w (f := fun y env => cmpD o d y) fun v2 H2 μ2 M2 d2 l2 rm2 rs2 rv2 w2 => ⟨μ2, M2, d, d2, rm2, rv.up l2 rm1, rv2, w2⟩
/-- a value wanted as a truth value -/
theorem asBl_w {M : Mem} {μ : List Addr} {d : D} {v : V} {Q : Bool → Hp → Prop} (rm : RepM X.K X.mg μ M H) (rv : RepV X.K X.mg μ H d v) (h : Wants X.K X.mg W relB (asBl d M) μ H Q) : ∃ k, v = .bl k ∧ Q k H := by
  unfold asBl at h
  split at h
  · cases rv; exact ⟨_, rfl, h.ret rm rfl⟩
  · exact h.fail.elim
theorem dt_cmp {k : Nat} (hr : Room k X.A) (o : CmpO) (ha : PE X a (tD X.K X.mg W ma)) (hb : PE X b (tD X.K X.mg W mb)) (hm : behindInMarks (cmpOf o) b = false) :
    PT X (.Compare a [cmpOf o] [b] pos) (tTD X.K X.mg W (fun env => bnd (bnd (ma env) fun x => bnd (mb env) fun y => cmpD o x y) asBl)) :=
  pt_imp (pt_cmpR (cmp_D (W := W) hr o) ha hb hm) fun σ H Q ⟨μ, M, env, rm, rs, h⟩ => by
    obtain ⟨r, M', e, q⟩ := h.bnd (rel1 := RepV X.K X.mg)
    have h2 : Wants X.K X.mg W (RepV X.K X.mg) ((bnd (ma env) fun x => bnd (mb env) fun y => cmpD o x y) M) μ H (fun v H1 => ∃ k, v = .bl k ∧ Q k H1) := by
      refine ⟨r, M', e, fun μ' H' l rm' => ?_⟩
      have q' := q μ' H' l rm'
      cases r with
      | error x => exact q'
      | ok d =>
        intro v rv
        obtain ⟨μ1, M1, d1, l1, rm1, rv1, w⟩ := q' v rv
        exact asBl_w rm1 rv1 w
    exact tD_bnd rm rs h2 (f := fun x env => bnd (mb env) fun y => cmpD o x y) fun v H1 μ1 M1 d l1 rm1 rs1 rv w =>
      tD_bnd rm1 rs1 w (f := fun y env => cmpD o d y) fun v2 H2 μ2 M2 d2 l2 rm2 rs2 rv2 w2 => ⟨μ2, M2, d, d2, rm2, rv.up l2 rm1, rv2, w2⟩
theorem chain_w (o o' : CmpO) {μ : List Addr} {M : Mem} {env : Env} {Q : VK} (rm : RepM X.K X.mg μ M H) (rs : RepS X.K X.mg μ H env σ)
    (h : Wants X.K X.mg W (RepV X.K X.mg) ((bnd (ma env) fun x => bnd (mb env) fun y => bnd (cmpD o x y) fun d => bnd (asBl d) fun k => if k = true then bnd (mc env) fun z => cmpD o' y z else ret (.bl false)) M) μ H Q) :
    tChain (rD X.K X.mg W (cmpD o)) (rD X.K X.mg W (cmpD o')) (tD X.K X.mg W ma) (tD X.K X.mg W mb) (tD X.K X.mg W mc) σ H Q :=
  tD_bnd rm rs h (f := fun x env => bnd (mb env) fun y => bnd (cmpD o x y) fun d => bnd (asBl d) fun k => if k = true then bnd (mc env) fun z => cmpD o' y z else ret (.bl false)) fun v H1 μ1 M1 d l1 rm1 rs1 rv w =>
    tD_bnd rm1 rs1 w (f := fun y env => bnd (cmpD o d y) fun d => bnd (asBl d) fun k => if k = true then bnd (mc env) fun z => cmpD o' y z else ret (.bl false)) fun v2 H2 μ2 M2 d2 l2 rm2 rs2 rv2 w2 => by
      obtain ⟨r, M', e, q⟩ := w2.bnd (rel1 := RepV X.K X.mg)
      refine ⟨μ2, M2, d, d2, rm2, rv.up l2 rm1, rv2, r, M', e, fun μ' H' l rm' => ?_⟩
      have q' := q μ' H' l rm'
      cases r with
      | error x => exact q'
      | ok t =>
        intro v3 rv3
        obtain ⟨μ3, M3, d3, l3, rm3, rv3, w3⟩ := q' v3 rv3
        obtain ⟨r4, M4, e4, q4⟩ := w3.bnd (rel1 := relB)
        have h4 : Wants X.K X.mg W relB (asBl d3 M3) μ3 H' (fun k H4 => if k = true then tD X.K X.mg W mc σ H4 fun w' H4 => rD X.K X.mg W (cmpD o') v2 w' H4 Q else Q (.bl false) H4) := by
          refine ⟨r4, M4, e4, fun μ5 H5 l5 rm5 => ?_⟩
          have q5 := q4 μ5 H5 l5 rm5
          cases r4 with
          | error x => exact q5
          | ok kk =>
            intro b hb
            obtain ⟨μ6, M6, b6, l6, rm6, hb6, w6⟩ := q5 b hb
            have hb6 : b6 = b := hb6
            subst hb6
            have rs6 := (rs2.up l3 rm2).up l6 rm3
            have rv6 := (rv2.up l3 rm2).up l6 rm3
            cases b6 with
            | true =>
              show tD X.K X.mg W mc σ H5 _
              exact tD_bnd rm6 rs6 w6 (f := fun z env => cmpD o' d2 z) fun v7 H7 μ7 M7 d7 l7 rm7 rs7 rv7 w7 => ⟨μ7, M7, d2, d7, rm7, rv6.up l7 rm6, rv7, w7⟩
            | false =>
              show Q (.bl false) H5
              exact Wants.ret (a := D.bl false) w6 rm6 (RepV.bl _)
        exact asBl_w rm3 rv3 h4
theorem de_chain {k : Nat} (hr : Room k X.A) (o o' : CmpO) (ha : PE X a (tD X.K X.mg W ma)) (hb : PE X b (tD X.K X.mg W mb)) (hc : PE X c (tD X.K X.mg W mc)) (hm : lastMarks [cmpOf o, cmpOf o'] [b, c] = false) :
    PE X (.Compare a [cmpOf o, cmpOf o'] [b, c] pos) (tD X.K X.mg W (fun env => bnd (ma env) fun x => bnd (mb env) fun y => bnd (cmpD o x y) fun d => bnd (asBl d) fun k => if k = true then bnd (mc env) fun z => cmpD o' y z else ret (.bl false))) :=
  pe_imp (pe_chain (cmp_D (W := W) hr o) (cmp_D (W := W) hr o') ha hb hc hm) fun σ H Q ⟨μ, M, env, rm, rs, h⟩ => chain_w o o' rm rs h
theorem dt_chain {k : Nat} (hr : Room k X.A) (o o' : CmpO) (ha : PE X a (tD X.K X.mg W ma)) (hb : PE X b (tD X.K X.mg W mb)) (hc : PE X c (tD X.K X.mg W mc)) (hm : lastMarks [cmpOf o, cmpOf o'] [b, c] = false) :
    PT X (.Compare a [cmpOf o, cmpOf o'] [b, c] pos) (tTD X.K X.mg W (fun env => bnd (bnd (ma env) fun x => bnd (mb env) fun y => bnd (cmpD o x y) fun d => bnd (asBl d) fun k => if k = true then bnd (mc env) fun z => cmpD o' y z else ret (.bl false)) asBl)) :=
  pt_imp (pt_chain (cmp_D (W := W) hr o) (cmp_D (W := W) hr o') ha hb hc hm) fun σ H Q ⟨μ, M, env, rm, rs, h⟩ => by
    obtain ⟨r, M', e, q⟩ := h.bnd (rel1 := RepV X.K X.mg)
    refine chain_w o o' rm rs ⟨r, M', e, fun μ' H' l rm' => ?_⟩
    have q' := q μ' H' l rm'
    cases r with
    | error x => exact q'
    | ok d =>
      intro v rv
      obtain ⟨μ1, M1, d1, l1, rm1, rv1, w⟩ := q' v rv
      exact asBl_w rm1 rv1 w
theorem de_neg (ha : PE X a (tD X.K X.mg W ma)) : PE X (.UnaryOp .USub a pos) (tD X.K X.mg W (fun env => bnd (ma env) negD)) :=
  pe_imp (pe_un un_neg ha) fun σ H Q ⟨μ, M, env, rm, rs, h⟩ =>
    tD_bnd rm rs h (f := fun x env => negD x) fun v H1 μ1 M1 d l1 rm1 rs1 rv w => by
      have w : Wants X.K X.mg W (RepV X.K X.mg) (negD d M1) μ1 H1 Q := w
      unfold negD at w
      split at w
      · cases rv; exact ⟨_, rfl, w.ret rm1 (.int _)⟩
      · exact w.fail.elim
/-! ### tests -/
theorem dt_val (ha : PE X a (tD X.K X.mg W ma)) (he : ∀ whole, isTrue a X.env whole = (do let v ← whole; standAt a.pos; holding [v] (truthy v))) : PT X a (tTD X.K X.mg W (fun env => bnd (ma env) tru)) :=
  pt_imp (pt_truth ha he) fun σ H Q ⟨μ, M, env, rm, rs, h⟩ =>
    tD_bnd rm rs h (f := fun x env => tru x) fun v H1 μ1 M1 d l1 rm1 rs1 rv w => by
      have w : Wants X.K X.mg W relB (tru d M1) μ1 H1 Q := w
      unfold tru at w
      split at w
      · exact w.none.elim
      · rename_i b hb
        exact ⟨b, tru_v rm1 rv hb, w.some (Le.refl _ _) rm1 rfl⟩
variable {mt mu : Env → R Bool}
theorem dt_not (ha : PT X a (tTD X.K X.mg W mt)) : PT X (.UnaryOp .Not a pos) (tTD X.K X.mg W (fun env => bnd (mt env) fun b => ret (!b))) :=
  pt_imp (pt_not ha) fun σ H Q ⟨μ, M, env, rm, rs, h⟩ => tT_bnd rm rs h (f := fun b env => ret (!b)) fun b H1 μ1 M1 l1 rm1 rs1 w => Wants.ret (a := !b) w rm1 rfl
theorem an_w {μ : List Addr} {M : Mem} {env : Env} {Q : Bool → Hp → Prop} (rm : RepM X.K X.mg μ M H) (rs : RepS X.K X.mg μ H env σ) (h : Wants X.K X.mg W relB ((bnd (mt env) fun b => if b = true then mu env else ret false) M) μ H Q) :
    tAnd (tTD X.K X.mg W mt) (tTD X.K X.mg W mu) σ H Q :=
  tT_bnd rm rs h (f := fun b env => if b = true then mu env else ret false) fun b H1 μ1 M1 l1 rm1 rs1 w => by
    cases b with
    | true => show tTD X.K X.mg W mu σ H1 Q; exact ⟨μ1, M1, env, rm1, rs1, w⟩
    | false => show Q false H1; exact Wants.ret (a := false) w rm1 rfl
theorem or_w {μ : List Addr} {M : Mem} {env : Env} {Q : Bool → Hp → Prop} (rm : RepM X.K X.mg μ M H) (rs : RepS X.K X.mg μ H env σ) (h : Wants X.K X.mg W relB ((bnd (mt env) fun b => if b = true then ret true else mu env) M) μ H Q) :
    tOr (tTD X.K X.mg W mt) (tTD X.K X.mg W mu) σ H Q :=
  tT_bnd rm rs h (f := fun b env => if b = true then ret true else mu env) fun b H1 μ1 M1 l1 rm1 rs1 w => by
    cases b with
    | false => show tTD X.K X.mg W mu σ H1 Q; exact ⟨μ1, M1, env, rm1, rs1, w⟩
    | true => show Q true H1; exact Wants.ret (a := true) w rm1 rfl
theorem pw_imp {e : Expr} {t t' : TT} (h : PW X e t) (i : ∀ σ H Q, t' σ H Q → t σ H Q) : PW X e t' := ⟨fun whole pins s σ H Q I q => h.run whole pins s σ H Q I (i σ H Q q)⟩
theorem dw_and {rest : List Expr} (ha : PT X a (tTD X.K X.mg W mt)) (hb : PW X (.BoolOp .And (b :: rest) pos) (tTD X.K X.mg W mu)) : PW X (.BoolOp .And (a :: b :: rest) pos) (tTD X.K X.mg W (fun env => bnd (mt env) fun b => if b = true then mu env else ret false)) :=
  pw_imp (pw_and ha hb) fun σ H Q ⟨μ, M, env, rm, rs, h⟩ => an_w rm rs h
theorem dw_or {rest : List Expr} (ha : PT X a (tTD X.K X.mg W mt)) (hb : PW X (.BoolOp .Or (b :: rest) pos) (tTD X.K X.mg W mu)) : PW X (.BoolOp .Or (a :: b :: rest) pos) (tTD X.K X.mg W (fun env => bnd (mt env) fun b => if b = true then ret true else mu env)) :=
  pw_imp (pw_or ha hb) fun σ H Q ⟨μ, M, env, rm, rs, h⟩ => or_w rm rs h
/-- truth values by tests: not, and, or as values -/
theorem de_notV (ha : PE X a (tD X.K X.mg W ma)) : PE X (.UnaryOp .Not a pos) (tD X.K X.mg W (fun env => bnd (bnd (bnd (ma env) asBl) fun b => ret (!b)) fun b => ret (.bl b))) :=
  pe_imp (pe_not ha) fun σ H Q ⟨μ, M, env, rm, rs, h⟩ => by
    have h1 := (h.bnd (rel1 := relB)).bnd (rel1 := relB)
    exact tD_bnd rm rs h1 (f := fun x env => asBl x) fun v H1 μ1 M1 d l1 rm1 rs1 rv w => by
      obtain ⟨k, e, q⟩ := asBl_w rm1 rv w
      obtain ⟨μ2, M2, b2, l2, rm2, e2, w2⟩ := q
      have e2 : b2 = k := e2
      subst e2
      have w3 := Wants.ret (a := !b2) w2 rm2 rfl
      obtain ⟨μ4, M4, b4, l4, rm4, e4, w4⟩ := w3
      have e4 : b4 = !b2 := e4
      subst e4
      exact ⟨b2, e, Wants.ret (a := D.bl (!b2)) w4 rm4 (RepV.bl _)⟩
theorem de_ite (hc : PT X c (tTD X.K X.mg W mt)) (ha : PE X a (tD X.K X.mg W ma)) (hb : PE X b (tD X.K X.mg W mb)) : PE X (.IfExp c a b pos) (tD X.K X.mg W (fun env => bnd (mt env) fun k => if k = true then ma env else mb env)) :=
  pe_imp (pe_ifExp hc ha hb) fun σ H Q ⟨μ, M, env, rm, rs, h⟩ =>
    tT_bnd rm rs h (f := fun k env => if k = true then ma env else mb env) fun k H1 μ1 M1 l1 rm1 rs1 w => by
      cases k with
      | true => show tD X.K X.mg W ma σ H1 Q; exact ⟨μ1, M1, env, rm1, rs1, w⟩
      | false => show tD X.K X.mg W mb σ H1 Q; exact ⟨μ1, M1, env, rm1, rs1, w⟩
/-! ### argument lists, displays -/
variable {es : List Expr} {mes : Env → R (List D)}
theorem da_nil : PA X [] (tAD X.K X.mg W (fun _ => ret [])) := pa_imp pa_nil fun σ H Q ⟨μ, M, env, rm, rs, h⟩ => Wants.ret (a := []) h rm .nil
theorem da_cons (ha : PE X e (tD X.K X.mg W ma)) (hr : PA X es (tAD X.K X.mg W mes)) (hs : starEach (e :: es) X.env = (false, eval e X.env) :: starEach es X.env) : PA X (e :: es) (tAD X.K X.mg W (fun env => bnd (ma env) fun x => bnd (mes env) fun xs => ret (x :: xs))) :=
  pa_imp (pa_cons ha hr hs) fun σ H Q ⟨μ, M, env, rm, rs, h⟩ =>
    tD_bnd rm rs h (f := fun x env => bnd (mes env) fun xs => ret (x :: xs)) fun v H1 μ1 M1 d l1 rm1 rs1 rv w =>
      tA_bnd rm1 rs1 w (f := fun xs env => ret (d :: xs)) fun vs H2 μ2 M2 ds l2 rm2 rs2 rv2 w2 => Wants.ret (a := d :: ds) w2 rm2 (.cons (rv.up l2 rm1) rv2)
theorem de_tup {x1 : Nat} (h : PA X es (tAD X.K X.mg W mes)) : PE X (.Tuple es x1 pos) (tD X.K X.mg W (fun env => bnd (mes env) tupD)) :=
  pe_imp (pe_tup h) fun σ H Q ⟨μ, M, env, rm, rs, h⟩ =>
    tA_bnd rm rs h (f := fun vs env => tupD vs) fun vs H1 μ1 M1 ds l1 rm1 rs1 rv w => by
      obtain ⟨hc, w⟩ := Wants.ite w
      exact ⟨by rw [← rv.length]; exact hc, fun p hp => w.some (Le.free hp) (rm1.free hp) (.tup upd_same (rv.up (Le.free hp) rm1))⟩
theorem de_lst (h : PA X es (tAD X.K X.mg W mes)) : PE X (.List es pos) (tD X.K X.mg W (fun env => bnd (mes env) lstD)) :=
  pe_imp (pe_lst h) fun σ H Q ⟨μ, M, env, rm, rs, h⟩ =>
    tA_bnd rm rs h (f := fun vs env => lstD vs) fun vs H1 μ1 M1 ds l1 rm1 rs1 rv w => by
      obtain ⟨hc, w⟩ := Wants.ite w
      exact ⟨by rw [← rv.length]; exact hc, fun p hp => w.made rm1 hp ⟨_, upd_same, rv.up (Le.new hp) rm1⟩⟩
/-! ### subscripts, slices -/
theorem getIx_w {M : Mem} {μ : List Addr} {Q : VK} {d e : D} {x y : V} (rm : RepM X.K X.mg μ M H) (rd : RepV X.K X.mg μ H d x) (re : RepV X.K X.mg μ H e y) (h : Wants X.K X.mg W (RepV X.K X.mg) (getIx d e M) μ H Q) : rIx X.K x y H Q := by
  unfold getIx at h
  split at h
  · cases rd; cases re
    obtain ⟨hc, h⟩ := h.iteN
    split at h
    · exact h.none.elim
    · rename_i c hc'
      exact .inr (.inr ⟨_, _, c, rfl, rfl, hc, hc', h.some (Le.refl _ _) rm (.str _)⟩)
  · cases re
    split at h
    · rename_i ds hds
      split at h
      · exact h.none.elim
      · rename_i d' hd'
        obtain ⟨a, vs, e1, hs, rv⟩ := seq_of (X := X) rm rd hds
        obtain ⟨v, hv, r⟩ := atI_v rv hd'
        rcases hs with hs | hs
        · exact .inl ⟨a, vs, _, v, e1, rfl, hs, hv, h.some (Le.refl _ _) rm r⟩
        · exact .inr (.inl ⟨a, vs, _, v, e1, rfl, hs, hv, h.some (Le.refl _ _) rm r⟩)
    · exact h.none.elim
  · exact h.none.elim
theorem de_ix (ha : PE X a (tD X.K X.mg W ma)) (hb : PE X b (tD X.K X.mg W mb)) (hs : PlainIx b) : PE X (.Subscript a b pos) (tD X.K X.mg W (fun env => bnd (ma env) fun x => bnd (mb env) fun y => getIx x y)) :=
  pe_imp (pe_ix ix_seq ha hb hs) fun σ H Q ⟨μ, M, env, rm, rs, h⟩ =>
    tD_bnd rm rs h (f := fun x env => bnd (mb env) fun y => getIx x y) fun v H1 μ1 M1 d l1 rm1 rs1 rv w =>
      tD_bnd rm1 rs1 w (f := fun y env => getIx d y) fun v2 H2 μ2 M2 d2 l2 rm2 rs2 rv2 w2 => getIx_w rm2 (rv.up l2 rm1) rv2 w2
theorem do_no : PO X none (tOD X.K X.mg W (fun _ => ret none)) := po_imp po_none fun σ H Q ⟨μ, M, env, rm, rs, h⟩ => Wants.ret (a := none) h rm rfl
theorem do_yes (ha : PE X a (tD X.K X.mg W ma)) : PO X (some a) (tOD X.K X.mg W (fun env => bnd (ma env) optI)) :=
  po_imp (po_some ha) fun σ H Q ⟨μ, M, env, rm, rs, h⟩ =>
    tD_bnd rm rs h (f := fun x env => optI x) fun v H1 μ1 M1 d l1 rm1 rs1 rv w => by
      cases rv with
      | int i => exact ⟨i, rfl, Wants.ret (M := M1) (a := some i) w rm1 rfl⟩
      | _ => exact (Wants.fail (M := M1) w).elim
variable {lo hi : Option Expr} {ml mh : Env → R (Option Int)} {p2 : Pos}
theorem cut_all {α : Type} {xs : List α} {lo hi : Option Int} (h1 : HT.sIx xs.length 0 lo = 0) (h2 : HT.sIx xs.length xs.length hi = xs.length) : cut xs lo hi = xs := by
  unfold cut
  rw [h1, h2, List.drop_zero, Nat.sub_zero, List.take_length]
theorem de_slice (ha : PE X a (tD X.K X.mg W ma)) (hl : PO X lo (tOD X.K X.mg W ml)) (hh : PO X hi (tOD X.K X.mg W mh)) : PE X (.Subscript a (.Slice lo hi none p2) pos) (tD X.K X.mg W (fun env => bnd (ma env) fun x => bnd (ml env) fun l => bnd (mh env) fun h => getSl x l h)) :=
  pe_imp (pe_slice ((sl_str.or sl_tupA).or sl_list) ha hl hh) fun σ H Q ⟨μ, M, env, rm, rs, h⟩ =>
    tD_bnd rm rs h (f := fun x env => bnd (ml env) fun l => bnd (mh env) fun h => getSl x l h) fun v H1 μ1 M1 d l1 rm1 rs1 rv w =>
      tO_bnd rm1 rs1 w (f := fun l env => bnd (mh env) fun h => getSl d l h) fun lo' H2 μ2 M2 l2 rm2 rs2 w2 =>
        tO_bnd rm2 rs2 w2 (f := fun h env => getSl d lo' h) fun hi' H3 μ3 M3 l3 rm3 rs3 w3 => by
          have w3 : Wants X.K X.mg W (RepV X.K X.mg) (getSl d lo' hi' M3) μ3 H3 Q := w3
          have rv3 := (rv.up l2 rm1).up l3 rm2
          unfold getSl at w3
          split at w3
          · cases rv3
            obtain ⟨hz, w3⟩ := w3.iteN
            exact .inl (.inl ⟨_, rfl, hz, w3.some (Le.refl _ _) rm3 (.str _)⟩)
          · cases rv3 with | tup hq rr => ?_
            refine .inl (.inr ⟨_, _, rfl, SqT.of hq, fun hw => ?_, fun _ p hp => ?_⟩)
            · refine w3.some (Le.refl _ _) rm3 (.tup hq ?_)
              have this := rr.cut lo' hi'
              rw [cut_all hw.1 hw.2] at this
              exact this
            · exact w3.some (Le.free hp) (rm3.free hp) (.tup upd_same ((rr.cut lo' hi').up (Le.free hp) rm3))
          · cases rv3 with | scr hq rr => ?_
            exact .inr ⟨_, _, rfl, hq.sq, fun p hp => w3.made rm3 hp ⟨_, upd_same, (rr.cut lo' hi').up (Le.new hp) rm3⟩⟩
          · cases rv3 with | fl hq _ rr => ?_
            exact .inr ⟨_, _, rfl, SqL.of hq, fun p hp => w3.made rm3 hp ⟨_, upd_same, (rr.cut lo' hi').up (Le.new hp) rm3⟩⟩
          · cases rv3 with | ref hn => ?_
            split at w3
            · rename_i ds hds
              obtain ⟨vs, h1, rr⟩ := seq_l rm3 hn hds
              exact .inr ⟨_, _, rfl, SqL.of h1, fun p hp => w3.made rm3 hp ⟨_, upd_same, (rr.cut lo' hi').up (Le.new hp) rm3⟩⟩
            · exact w3.none.elim
          · exact w3.none.elim
end
end DL
end
section
set_option Elab.async false
set_option linter.all false
set_option maxRecDepth 100000
set_option maxHeartbeats 2000000
/-! DL, part f: built-in functions and methods. -/
namespace DL
open PySem PySem.Spec PyProof.Rows L2
def rC (K : PySem.W.Frag) (mg : Str → Option Value) (W : XW) (g : List D → R D) : List V → Hp → VK → Prop := fun vs H Q => ∃ μ M ds, RepM K mg μ M H ∧ RepVs K mg μ H ds vs ∧ Wants K mg W (RepV K mg) (g ds M) μ H Q
def rMt (K : PySem.W.Frag) (mg : Str → Option Value) (W : XW) (g : D → List D → R D) : V → List V → Hp → VK → Prop := fun x vs H Q => ∃ μ M d ds, RepM K mg μ M H ∧ RepV K mg μ H d x ∧ RepVs K mg μ H ds vs ∧ Wants K mg W (RepV K mg) (g d ds M) μ H Q
section
variable {X : Cx} {W : XW}
theorem rv1 {K : PySem.W.Frag} {mg : Str → Option Value} {μ : List Addr} {H : Hp} {d : D} {vs : List V} (r : RepVs K mg μ H [d] vs) : ∃ v, vs = [v] ∧ RepV K mg μ H d v := by
  cases r with | cons h r => cases r; exact ⟨_, rfl, h⟩
theorem rv2 {K : PySem.W.Frag} {mg : Str → Option Value} {μ : List Addr} {H : Hp} {d e : D} {vs : List V} (r : RepVs K mg μ H [d, e] vs) : ∃ v w, vs = [v, w] ∧ RepV K mg μ H d v ∧ RepV K mg μ H e w := by
  cases r with | cons h r => obtain ⟨w, rfl, h2⟩ := rv1 r; exact ⟨_, _, rfl, h, h2⟩
theorem lenC : CallR X (.builtin "len") (rC X.K X.mg W lenB) := by
  intro pins s σ H xs us Q I r ⟨μ, M, ds, rm, rv, h⟩
  unfold lenB at h
  split at h
  · obtain ⟨v, rfl, q⟩ := rv1 rv
    cases q
    obtain ⟨hc, h⟩ := h.iteN
    exact call_len_str pins s σ H _ us Q I r ⟨_, rfl, hc, h.some (Le.refl _ _) rm (.int _)⟩
  · obtain ⟨v, rfl, q⟩ := rv1 rv
    split at h
    · rename_i es he
      obtain ⟨a, vs, rfl, hs, rr⟩ := seq_of (X := X) rm q he
      refine call_len_seq pins s σ H _ us Q I r ⟨a, vs, rfl, hs, ?_⟩
      rw [← rr.length]
      exact h.some (Le.refl _ _) rm (.int _)
    · exact h.none.elim
  · exact h.none.elim
theorem absC : CallR X (.builtin "abs") (rC X.K X.mg W absB) := by
  intro pins s σ H xs us Q I r ⟨μ, M, ds, rm, rv, h⟩
  unfold absB at h
  split at h
  · obtain ⟨v, rfl, q⟩ := rv1 rv
    cases q
    exact call_abs pins s σ H _ us Q I r ⟨_, rfl, h.ret rm (.int _)⟩
  · exact h.fail.elim
theorem max_fold : ∀ (ns : List Int) (n : Int), (ns.foldl (fun a b => if b > a then b else a) n ∈ n :: ns) ∧ ∀ y ∈ n :: ns, y ≤ ns.foldl (fun a b => if b > a then b else a) n
  | [], n => ⟨by simp, by simp⟩
  | m :: ns, n => by
    obtain ⟨h1, h2⟩ := max_fold ns (if m > n then m else n)
    rw [List.foldl_cons]
    refine ⟨?_, fun y hy => ?_⟩
    · rcases List.mem_cons.mp h1 with e | e
      · rw [e]; split <;> simp
      · exact List.mem_cons_of_mem _ (List.mem_cons_of_mem _ e)
    · have h0 := h2 (if m > n then m else n) (List.mem_cons_self ..)
      rcases List.mem_cons.mp hy with e | hy
      · exact Int.le_trans (by subst e; split <;> omega) h0
      · rcases List.mem_cons.mp hy with e | hy
        · exact Int.le_trans (by subst e; split <;> omega) h0
        · exact h2 y (List.mem_cons_of_mem _ hy)
theorem min_fold : ∀ (ns : List Int) (n : Int), (ns.foldl (fun a b => if b < a then b else a) n ∈ n :: ns) ∧ ∀ y ∈ n :: ns, ns.foldl (fun a b => if b < a then b else a) n ≤ y
  | [], n => ⟨by simp, by simp⟩
  | m :: ns, n => by
    obtain ⟨h1, h2⟩ := min_fold ns (if m < n then m else n)
    rw [List.foldl_cons]
    refine ⟨?_, fun y hy => ?_⟩
    · rcases List.mem_cons.mp h1 with e | e
      · rw [e]; split <;> simp
      · exact List.mem_cons_of_mem _ (List.mem_cons_of_mem _ e)
    · have h0 := h2 (if m < n then m else n) (List.mem_cons_self ..)
      rcases List.mem_cons.mp hy with e | hy
      · exact Int.le_trans h0 (by subst e; split <;> omega)
      · rcases List.mem_cons.mp hy with e | hy
        · exact Int.le_trans h0 (by subst e; split <;> omega)
        · exact h2 y (List.mem_cons_of_mem _ hy)
theorem maxOf_eq {ns : List Int} {m m' : Int} (h : maxOf ns = some m) (h1 : m' ∈ ns) (h2 : ∀ y, y ∈ ns → y ≤ m') : m' = m := by
  cases ns with
  | nil => cases h
  | cons n ns =>
    obtain ⟨g1, g2⟩ := max_fold ns n
    simp only [maxOf, Option.some.injEq] at h
    rw [h] at g1 g2
    have a := h2 m g1
    have b := g2 m' h1
    omega
theorem minOf_eq {ns : List Int} {m m' : Int} (h : minOf ns = some m) (h1 : m' ∈ ns) (h2 : ∀ y, y ∈ ns → m' ≤ y) : m' = m := by
  cases ns with
  | nil => cases h
  | cons n ns =>
    obtain ⟨g1, g2⟩ := min_fold ns n
    simp only [minOf, Option.some.injEq] at h
    rw [h] at g1 g2
    have a := h2 m g1
    have b := g2 m' h1
    omega
end
/-! ### tuples of ints, of texts: max, min, sum, sorted -/
section
variable {prog : Program} {w : World} {A : Around} {E : Value → Shared → Prop} {s : Shared} {l : Addr}
theorem iter_tupD {its : Array Value} {Q : Value → Shared → Prop} (hl : s.heap.IsTuple l its)
    (h : ∀ s₂ : Shared, s₂ = { s with heap := s.heap.push { cls := .type "tuple_iterator", data := .fields #[.ref l, .int 0 0] } } →
      (s₂.heap.IsTupleIter s.heap.objs.size l 0 ∧ s₂.heap.IsTuple l its) → (∀ b ∈ [s.heap.objs.size, l], b < s₂.heap.objs.size) → l ≠ s.heap.objs.size → Q (.ref s.heap.objs.size) s₂) :
    wpAny (model prog w) A (pyIter (.ref l)) Q E s := by
  have hlt : l < s.heap.objs.size := by obtain ⟨_, e, _⟩ := hl; exact Heap.lt_size e
  refine PySem.wpAny_pyIter_tuple hl (h _ rfl ⟨⟨_, Heap.get?_push_size _ rfl, rfl, rfl⟩, hl.push _⟩ (fun b hb => ?_) (Nat.ne_of_lt hlt))
  show b < (s.heap.push _).objs.size
  rw [Heap.size_push]
  rcases List.mem_cons.mp hb with rfl | hb
  · exact Nat.lt_succ_self _
  · rcases List.mem_cons.mp hb with rfl | hb
    · exact Nat.lt_succ_of_lt hlt
    · cases hb
theorem old_keptT {h' : Heap} {ob : Obj} (hk : ∀ b o, b ∉ [s.heap.objs.size] → (s.heap.push ob).get? b = some o → h'.get? b = some o) :
    ∀ b o, s.heap.get? b = some o → h'.get? b = some o := fun b o e => by
  refine hk b o (fun hm => ?_) (Heap.get?_push_of_some _ e)
  rcases List.mem_cons.mp hm with e1 | hm
  · exact absurd (e1 ▸ Heap.lt_size e) (Nat.lt_irrefl _)
  · cases hm
theorem maxT_raw {its : List Value} {ns : List Int} {Q : Value → Shared → Prop} (hh : A.handled = none) (hl : s.heap.IsTuple l its.toArray) (hi : IntsAre its ns) (hne : 0 < ns.length)
    (h : ∀ h' tk M t', (∀ b o, s.heap.get? b = some o → h'.get? b = some o) → M ∈ ns → (∀ a, a ∈ ns → a ≤ M) → Q (.int M t') { s with heap := h', toks := tk }) : wpAny (model prog w) A (call (.builtin "max") [.ref l]) Q E s := by
  obtain ⟨xs, e⟩ := hi.allInts.items
  have hn : numsOf (intItems xs).toList = ns := by rw [← e]; exact hi.numsOf
  rw [nums_intItems] at hn
  subst hn
  rw [e] at hl
  have hsz : 0 < xs.size := by simpa using hne
  refine call_max_walk (iter_tupD hl fun s₂ e st hfp hlI => ?_)
  subst e
  refine ⟨_, _, _, _, _, _, _, rfl, Walks.tuple (A := A.in1) hh _ l hlI (intItems xs), st, hfp, by simpa [intItems] using hsz, CmpOf.ints_gt (numAt xs) (fun _ _ => intItems_at), fun v h' tk hP hk => ?_⟩
  have hv : (intItems xs)[argBest (fun i j => decide (numAt xs i > numAt xs j)) (xs.size - 1)]? = some v := by simpa [intItems] using hP
  obtain ⟨t, rfl⟩ := intItems_at hv
  obtain ⟨h1, h2⟩ := argBest_gt (numAt xs) (xs.size - 1)
  refine h h' tk _ t (old_keptT hk) ?_ fun a ha => ?_
  · rw [numAt_eq]; exact PySem.getD_mem (by rw [List.length_map, Array.length_toList]; omega)
  · obtain ⟨j, hj, rfl⟩ := mem_getD ha
    rw [List.length_map, Array.length_toList] at hj
    rw [← numAt_eq]; exact h2 j (by omega)
theorem minT_raw {its : List Value} {ns : List Int} {Q : Value → Shared → Prop} (hh : A.handled = none) (hl : s.heap.IsTuple l its.toArray) (hi : IntsAre its ns) (hne : 0 < ns.length)
    (h : ∀ h' tk M t', (∀ b o, s.heap.get? b = some o → h'.get? b = some o) → M ∈ ns → (∀ a, a ∈ ns → M ≤ a) → Q (.int M t') { s with heap := h', toks := tk }) : wpAny (model prog w) A (call (.builtin "min") [.ref l]) Q E s := by
  obtain ⟨xs, e⟩ := hi.allInts.items
  have hn : numsOf (intItems xs).toList = ns := by rw [← e]; exact hi.numsOf
  rw [nums_intItems] at hn
  subst hn
  rw [e] at hl
  have hsz : 0 < xs.size := by simpa using hne
  refine call_min_walk (iter_tupD hl fun s₂ e st hfp hlI => ?_)
  subst e
  refine ⟨_, _, _, _, _, _, _, rfl, Walks.tuple (A := A.in1) hh _ l hlI (intItems xs), st, hfp, by simpa [intItems] using hsz, CmpOf.ints_lt (numAt xs) (fun _ _ => intItems_at), fun v h' tk hP hk => ?_⟩
  have hv : (intItems xs)[argBest (fun i j => decide (numAt xs i < numAt xs j)) (xs.size - 1)]? = some v := by simpa [intItems] using hP
  obtain ⟨t, rfl⟩ := intItems_at hv
  obtain ⟨h1, h2⟩ := argBest_lt (numAt xs) (xs.size - 1)
  refine h h' tk _ t (old_keptT hk) ?_ fun a ha => ?_
  · rw [numAt_eq]; exact PySem.getD_mem (by rw [List.length_map, Array.length_toList]; omega)
  · obtain ⟨j, hj, rfl⟩ := mem_getD ha
    rw [List.length_map, Array.length_toList] at hj
    rw [← numAt_eq]; exact h2 j (by omega)
theorem collect_tupD {vs : List Value} {Q : List Value → Shared → Prop} (hl : s.heap.IsTuple l vs.toArray)
    (h : Q vs { s with heap := (s.heap.push (seqObj "list" #[] 0)).update s.heap.objs.size (Obj.mapSeq (· ++ vs.toArray)) }) (hsz : vs.length ≤ sizeLine := by size_fits) :
    wpAny (model prog w) A (collect (.ref l)) Q E s := by
  obtain ⟨o, ho, hc, n, hd⟩ := id hl
  unfold collect
  refine wpAny_bind (wpAny_runValue (codeAny_builtin entry_proto_collect' ?_))
  show wpAny _ _ (do again (.builtin "list.__iadd__" ⟨[← newList [], .ref l], []⟩)) _ _ s
  refine wpAny_bind (wpAny_newList (wpAny_pure ⟨Code.quiet_builtin _ (by decide +kernel), codeAny_builtin entry_list_iadd' ?_⟩))
  show wpAny _ _ (Builtin.List.listExtendWith (.ref s.heap.objs.size) (.ref l) (.ref s.heap.objs.size)) _ _ { s with heap := s.heap.push (seqObj "list" #[] 0) }
  unfold Builtin.List.listExtendWith
  have ho' : (s.heap.push (seqObj "list" #[] 0)).get? l = some o := Heap.get?_push_of_some _ ho
  refine wpAny_bind (wpAny_typeOf (T := "tuple") ⟨o, ho', hc⟩ ?_)
  have ht : (Value.type "tuple" == Value.type "tuple") = true := by rfl
  rw [if_pos (by rw [ht]; simp)]
  refine wpAny_bind (listItems_at ho' hd ?_)
  refine wpAny_bind (listItems_at (xs := #[]) (n := 0) (Heap.get?_push_size _ rfl) rfl ?_)
  rw [if_neg (by simp)]
  refine wpAny_bind (listUpdate_at (xs := #[]) (n := 0) (Heap.get?_push_size _ rfl) rfl ?_ (Nat.zero_le _) (by show (#[] ++ vs.toArray).size ≤ sizeLine + 1; simp only [Array.size_append, List.size_toArray, List.length_nil]; omega))
  refine wpAny_pure ?_
  show wpAny (model prog w) A (do
      let o ← load s.heap.objs.size
      match o.data with
      | .seq xs _ => pure xs.toList
      | _ => unsupported "internal:collect") Q E { s with heap := (s.heap.push (seqObj "list" #[] 0)).update s.heap.objs.size (Obj.mapSeq (· ++ vs.toArray)) }
  refine wpAny_bind (wpAny_load (get?_update_seq (Heap.get?_push_size _ rfl) _) ?_)
  show wpAny _ _ (pure ((#[] : Array Value) ++ vs.toArray).toList) Q E _
  rw [show ((#[] : Array Value) ++ vs.toArray).toList = vs by simp]
  exact wpAny_pure h
theorem sortedT_key {κ : KeyKind} (hO : κ.OneLt) {vs : List Value} {Q : Value → Shared → Prop} (hl : s.heap.IsTuple l vs.toArray) (h0 : KeysOf κ (pairsOf vs)) (hkk : ∀ v₁ v₂ rest, vs = v₁ :: v₂ :: rest → keyKind' (v₁ :: v₂ :: rest).toArray = pure oneType') (hL : vs.length ≤ sizeLine)
    (h : ∀ st' : SortSt, (arrOf st').Perm (pairsOf vs) → SortedToK κ (arrOf st') (pairsOf vs).size → Q (.ref (s.heap.objs.size + 1)) { s with heap := sortedAll s.heap vs ((arrOf st').map (·.2)) }) :
    wpAny (model prog w) A (call (.builtin "sorted") [.ref l]) Q E s := by
  refine Calls.call_function_entry kind_sorted plain_sorted entry_sorted (args_sorted1 _) ?_
  unfold Builtin.«sorted»
  refine wpAny_bind (m := checkCount "sorted" 1 1 _) (wpAny_pure ?_)
  refine wpAny_bind (collect_tupD hl ?_)
  refine wpAny_bind (wpAny_newList ?_)
  have hsz : ((s.heap.push (seqObj "list" #[] 0)).update s.heap.objs.size (Obj.mapSeq (· ++ vs.toArray))).objs.size = s.heap.objs.size + 1 := by
    rw [Heap.size_update, size_push']
  have hoL : (((s.heap.push (seqObj "list" #[] 0)).update s.heap.objs.size (Obj.mapSeq (· ++ vs.toArray))).push (seqObj "list" vs.toArray 0)).get? (s.heap.objs.size + 1) = some (seqObj "list" vs.toArray 0) := by
    rw [← hsz]; exact Heap.get?_push_size _ rfl
  show wpAny _ _ _ _ _ { s with heap := ((s.heap.push (seqObj "list" #[] 0)).update s.heap.objs.size (Obj.mapSeq (· ++ vs.toArray))).push (seqObj "list" vs.toArray 0) }
  rw [hsz]
  refine wpAny_bind (wpAny_holding (wpAny_call_entry slot_list_sort ⟨_, hoL, rfl⟩ entry_list_sort (list_sort_treeKAny hO hoL h0 hkk hL fun st' a1 a2 => ⟨_, rfl, ?_⟩) (args_list_sort _)))
  exact wpAny_pure ⟨_, rfl, h st' a1 a2⟩
end
/-- a list or a tuple of the layer -/
theorem tl_of {X : Cx} {μ : List Addr} {M : Mem} {H : Hp} {x : D} {v : V} {ds : List D} (rm : RepM X.K X.mg μ M H) (rv : RepV X.K X.mg μ H x v) (e : tlOf M x = some ds) : ∃ a vs, v = .ref a ∧ (H a = some (.lst vs) ∨ SqT X.K H a vs) ∧ RepVs X.K X.mg μ H ds vs := by
  cases rv with
  | tup h r => cases e; exact ⟨_, _, rfl, .inr (SqT.of h), r⟩
  | pt h _ r => cases e; exact ⟨_, _, rfl, .inr (.inl (.inr ⟨_, h⟩)), r⟩
  | fl h _ r => cases e; exact ⟨_, _, rfl, .inl h, r⟩
  | @ref n a h =>
    simp only [tlOf] at e
    split at e
    · rename_i ds' hm
      cases e
      obtain ⟨vs, h1, h2⟩ := rm.obj n a _ h hm
      exact ⟨a, vs, rfl, .inl h1, h2⟩
    · cases e
  | _ => simp [tlOf] at e
section
variable {X : Cx} {W : XW}
theorem maxC (hc : X.calm = true) : CallR X (.builtin "max") (rC X.K X.mg W maxB) := by
  intro pins s σ H xs us Q I r ⟨μ, M, ds, rm, rv, h⟩
  unfold maxB at h
  split at h
  · obtain ⟨v, w, rfl, q1, q2⟩ := rv2 rv
    cases q1; cases q2
    exact call_max2 hc pins s σ H _ us Q I r ⟨_, _, rfl, h.some (Le.refl _ _) rm (.int _)⟩
  · obtain ⟨v, rfl, q⟩ := rv1 rv
    split at h
    · rename_i es he
      split at h
      · rename_i ns hn
        split at h
        · rename_i m hm
          obtain ⟨a, vs, rfl, hs, rr⟩ := tl_of (X := X) rm q he
          have e := repVs_ints rr hn
          subst e
          have hne : 0 < ns.length := by
            cases ns with
            | nil => cases hm
            | cons => simp
          rcases hs with hs | hs
          · refine cr_max hc pins s σ H _ us Q I r ⟨a, ns, rfl, SqL.of hs, hne, fun m' h1 h2 => ?_⟩
            rw [maxOf_eq hm h1 h2]
            exact h.some (Le.refl _ _) rm (.int _)
          · obtain ⟨its, rv', p', _⟩ := I.tuple hs
            rw [Vals.ref1 r]
            refine maxT_raw (I.ok.hd hc) p' rv'.ints hne fun h' tk m' t' hk h1 h2 => ⟨.int m', H, I.kept hk, ⟨_, rfl⟩, ?_⟩
            rw [maxOf_eq hm h1 h2]
            exact h.some (Le.refl _ _) rm (.int _)
        · exact h.none.elim
      · exact h.none.elim
    · exact h.none.elim
  · exact h.none.elim
theorem minC (hc : X.calm = true) : CallR X (.builtin "min") (rC X.K X.mg W minB) := by
  intro pins s σ H xs us Q I r ⟨μ, M, ds, rm, rv, h⟩
  unfold minB at h
  split at h
  · obtain ⟨v, w, rfl, q1, q2⟩ := rv2 rv
    cases q1; cases q2
    exact call_min2 hc pins s σ H _ us Q I r ⟨_, _, rfl, h.some (Le.refl _ _) rm (.int _)⟩
  · obtain ⟨v, rfl, q⟩ := rv1 rv
    split at h
    · rename_i es he
      split at h
      · rename_i ns hn
        split at h
        · rename_i m hm
          obtain ⟨a, vs, rfl, hs, rr⟩ := tl_of (X := X) rm q he
          have e := repVs_ints rr hn
          subst e
          have hne : 0 < ns.length := by
            cases ns with
            | nil => cases hm
            | cons => simp
          rcases hs with hs | hs
          · refine cr_min hc pins s σ H _ us Q I r ⟨a, ns, rfl, SqL.of hs, hne, fun m' h1 h2 => ?_⟩
            rw [minOf_eq hm h1 h2]
            exact h.some (Le.refl _ _) rm (.int _)
          · obtain ⟨its, rv', p', _⟩ := I.tuple hs
            rw [Vals.ref1 r]
            refine minT_raw (I.ok.hd hc) p' rv'.ints hne fun h' tk m' t' hk h1 h2 => ⟨.int m', H, I.kept hk, ⟨_, rfl⟩, ?_⟩
            rw [minOf_eq hm h1 h2]
            exact h.some (Le.refl _ _) rm (.int _)
        · exact h.none.elim
      · exact h.none.elim
    · exact h.none.elim
  · exact h.none.elim
theorem sumT_raw {prog : Program} {w : World} {A : Around} {E : Value → Shared → Prop} {s : Shared} {l : Addr} {its : List Value} {ns : List Int} {Q : Value → Shared → Prop} (hh : A.handled = none) (hl : s.heap.IsTuple l its.toArray) (hi : IntsAre its ns)
    (h : ∀ h' tk t', (∀ b o, s.heap.get? b = some o → h'.get? b = some o) → Q (.int ns.sum t') { s with heap := h', toks := tk }) : wpAny (model prog w) A (call (.builtin "sum") [.ref l]) Q E s := by
  obtain ⟨xs, e⟩ := hi.allInts.items
  have hn : numsOf (intItems xs).toList = ns := by rw [← e]; exact hi.numsOf
  rw [nums_intItems] at hn
  rw [e] at hl
  refine call_sum_walkG (iter_tupD hl fun s₂ e st hfp hlI => ?_)
  subst e
  refine ⟨_, _, _, _, _, _, numAt xs, rfl, Walks.tuple (A := A.in1) hh _ l hlI (intItems xs), st, hfp, (fun _ _ => intItems_at), fun h' tk t' hk => ?_⟩
  have := h h' tk t' (old_keptT hk)
  simp only [intItems, Array.size_map]
  rw [preSum_eq, List.take_of_length_le (by simp), hn]; exact this
theorem sumC (hc : X.calm = true) : CallR X (.builtin "sum") (rC X.K X.mg W sumB) := by
  intro pins s σ H xs us Q I r ⟨μ, M, ds, rm, rv, h⟩
  unfold sumB at h
  split at h
  · obtain ⟨v, rfl, q⟩ := rv1 rv
    split at h
    · rename_i es he
      split at h
      · rename_i ns hn
        obtain ⟨a, vs, rfl, hs, rr⟩ := tl_of (X := X) rm q he
        have e := repVs_ints rr hn
        subst e
        rcases hs with hs | hs
        · exact cr_sum hc pins s σ H _ us Q I r ⟨a, ns, rfl, SqL.of hs, h.some (Le.refl _ _) rm (.int _)⟩
        · obtain ⟨its, rv', p', _⟩ := I.tuple hs
          rw [Vals.ref1 r]
          exact sumT_raw (I.ok.hd hc) p' rv'.ints fun h' tk t' hk => ⟨.int _, H, I.kept hk, ⟨_, rfl⟩, h.some (Le.refl _ _) rm (.int _)⟩
      · exact h.none.elim
    · exact h.none.elim
  · exact h.none.elim
theorem anyC (hc : X.calm = true) : CallR X (.builtin "any") (rC X.K X.mg W anyB) := by
  intro pins s σ H xs us Q I r ⟨μ, M, ds, rm, rv, h⟩
  unfold anyB at h
  split at h
  · obtain ⟨v, rfl, q⟩ := rv1 rv
    split at h
    · rename_i es he
      split at h
      · rename_i ns hn
        obtain ⟨a, vs, rfl, hs, rr⟩ := lst_of (X := X) rm q he
        have e := repVs_bls rr hn
        subst e
        exact cr_any hc pins s σ H _ us Q I r ⟨a, ns, rfl, SqL.of hs, h.some (Le.refl _ _) rm (.bl _)⟩
      · exact h.none.elim
    · exact h.none.elim
  · exact h.none.elim
theorem allC (hc : X.calm = true) : CallR X (.builtin "all") (rC X.K X.mg W allB) := by
  intro pins s σ H xs us Q I r ⟨μ, M, ds, rm, rv, h⟩
  unfold allB at h
  split at h
  · obtain ⟨v, rfl, q⟩ := rv1 rv
    split at h
    · rename_i es he
      split at h
      · rename_i ns hn
        obtain ⟨a, vs, rfl, hs, rr⟩ := lst_of (X := X) rm q he
        have e := repVs_bls rr hn
        subst e
        exact cr_all hc pins s σ H _ us Q I r ⟨a, ns, rfl, SqL.of hs, h.some (Le.refl _ _) rm (.bl _)⟩
      · exact h.none.elim
    · exact h.none.elim
  · exact h.none.elim
theorem intC : CallR X (.type "int") (rC X.K X.mg W intB) := by
  intro pins s σ H xs us Q I r ⟨μ, M, ds, rm, rv, h⟩
  unfold intB at h
  split at h
  · obtain ⟨v, rfl, q⟩ := rv1 rv
    cases q
    exact call_int1 pins s σ H _ us Q I r (.inl ⟨_, rfl, h.ret rm (.int _)⟩)
  · obtain ⟨v, rfl, q⟩ := rv1 rv
    cases q
    exact call_int1 pins s σ H _ us Q I r (.inr ⟨_, rfl, h.ret rm (.int _)⟩)
  · obtain ⟨v, rfl, q⟩ := rv1 rv
    cases q
    rename_i a
    cases hn : PySem.intText? a with
    | none => simp only [hn] at h; exact h.fail.elim
    | some n =>
      simp only [hn] at h
      obtain ⟨hc, h⟩ := h.ite
      exact call_int_str pins s σ H _ us Q I r ⟨_, n, rfl, hn, hc, h.ret rm (.int _)⟩
  · exact h.fail.elim
theorem strC : CallR X (.type "str") (rC X.K X.mg W strB) := by
  intro pins s σ H xs us Q I r ⟨μ, M, ds, rm, rv, h⟩
  unfold strB at h
  split at h
  · obtain ⟨v, rfl, q⟩ := rv1 rv
    cases q
    obtain ⟨hc, h⟩ := h.ite
    exact call_str_int pins s σ H _ us Q I r ⟨_, rfl, hc, h.ret rm (.str _)⟩
  · obtain ⟨v, rfl, q⟩ := rv1 rv
    cases q
    exact SkE.call_str_str pins s σ H _ us Q I r ⟨_, rfl, h.ret rm (.str _)⟩
  · exact h.fail.elim
theorem listC : CallR X (.type "list") (rC X.K X.mg W listB) := by
  intro pins s σ H xs us Q I r ⟨μ, M, ds, rm, rv, h⟩
  unfold listB at h
  split at h
  · obtain ⟨v, rfl, q⟩ := rv1 rv
    split at h
    · rename_i es he
      obtain ⟨a, vs, rfl, hs, rr⟩ := seq_of (X := X) rm q he
      exact call_list_of pins s σ H _ us Q I r ⟨a, vs, rfl, hs, fun p hp => h.made rm hp ⟨_, upd_same, rr.up (Le.new hp) rm⟩⟩
    · exact h.none.elim
  · exact h.none.elim
theorem tupleC : CallR X (.type "tuple") (rC X.K X.mg W tupleB) := by
  intro pins s σ H xs us Q I r ⟨μ, M, ds, rm, rv, h⟩
  unfold tupleB at h
  split at h
  · obtain ⟨v, rfl, q⟩ := rv1 rv
    cases q with | pt hq hd r1 => ?_
    exact call_tuple_of pins s σ H _ us Q I r ⟨_, _, rfl, .inr ⟨.inl (.inr ⟨_, hq⟩), h.some (Le.refl _ _) rm (.pt hq hd r1)⟩⟩
  · rename_i x hx
    obtain ⟨v, rfl, q⟩ := rv1 rv
    split at h
    · rename_i es he
      by_cases ht : x = .tup es
      · subst ht
        cases q with | tup hq r1 => ?_
        exact call_tuple_of pins s σ H _ us Q I r ⟨_, _, rfl, .inr ⟨SqT.of hq, h.some (Le.refl _ _) rm (.tup hq r1)⟩⟩
      · have key : ∃ a vs, v = .ref a ∧ SqL X.K H a vs ∧ RepVs X.K X.mg μ H es vs := by
          cases q with
          | tup hq r1 => cases he; exact absurd rfl ht
          | pt hq _ r1 => exact absurd rfl (hx _)
          | scr hq r1 => cases he; exact ⟨_, _, rfl, hq.sq, r1⟩
          | fl hq _ r1 => cases he; exact ⟨_, _, rfl, SqL.of hq, r1⟩
          | @ref n a hn =>
            simp only [seqOf] at he
            split at he
            · rename_i ds' hm
              cases he
              obtain ⟨vs, h1, h2⟩ := rm.obj _ _ _ hn hm
              exact ⟨a, vs, rfl, SqL.of h1, h2⟩
            · cases he
          | _ => simp [seqOf] at he
        obtain ⟨a, vs, rfl, hs, rr⟩ := key
        exact call_tuple_of pins s σ H _ us Q I r ⟨a, vs, rfl, .inl ⟨hs, fun p hp => h.some (Le.free hp) (rm.free hp) (.tup upd_same (rr.up (Le.free hp) rm))⟩⟩
    · exact h.none.elim
  · exact h.none.elim
/-! ### repr, sorted -/
theorem reprC {k : Nat} (hg : X.A.guards = some []) (hr : Room k X.A) : CallR X (.builtin "repr") (rC X.K X.mg W reprB) := by
  intro pins s σ H xs us Q I r ⟨μ, M, ds, rm, rv, h⟩
  unfold reprB at h
  split at h
  · obtain ⟨v, rfl, q⟩ := rv1 rv
    unfold reprD at h
    split at h
    · rename_i p hp
      obtain ⟨hc, h⟩ := h.iteN
      simp only [Bool.and_eq_true, decide_eq_true_eq, Bool.not_eq_true'] at hc
      obtain ⟨⟨⟨h1, h2⟩, h3⟩, h4⟩ := hc
      have dp := toPy_dp (K := X.K) (mg := X.mg) rm 20 _ _ _ hp q
      obtain ⟨u, rfl, ru⟩ := vals1 r
      obtain ⟨as, rd⟩ := Dp.reads I p v u dp ru
      have fin : Q (.str p.shown) H := h.some (Le.refl _ _) rm (.str _)
      cases rd with
      | none =>
        simp only [PyData.shown] at fin
        exact PySem.P.repr_of_none ⟨V.str _, H, I.tok _, ⟨_, rfl⟩, fin⟩
      | bool b =>
        simp only [PyData.shown] at fin
        exact PySem.P.repr_of_bool ⟨V.str _, H, I.tok _, ⟨_, rfl⟩, fin⟩
      | int i t =>
        simp only [PyData.shown] at fin
        simp only [PyData.showable, decide_eq_true_eq] at h1
        exact PySem.P.repr_of_int h1 ⟨V.str _, H, I.tok _, ⟨_, rfl⟩, fin⟩
      | str x t =>
        simp only [PyData.shown] at fin h4
        exact PySem.P.repr_of_str ⟨V.str _, H, I.tok _, ⟨_, rfl⟩, fin⟩ h4
      | list e1 e2 e3 e4 =>
        exact repr_of_reads' (.list e1 e2 e3 e4) h1 (PyData.noDict_hsm h2) hg (by have := hr.un; omega) (fun _ _ e => e) (fun h' u tk hk => ⟨.str _, H, I.kept (t' := tk) hk, ⟨_, rfl⟩, fin⟩) h4
      | tuple e1 e2 e3 e4 =>
        exact repr_of_reads' (.tuple e1 e2 e3 e4) h1 (PyData.noDict_hsm h2) hg (by have := hr.un; omega) (fun _ _ e => e) (fun h' u tk hk => ⟨.str _, H, I.kept (t' := tk) hk, ⟨_, rfl⟩, fin⟩) h4
      | dict e1 e2 e3 e4 e5 =>
        simp only [PyData.hasDict] at h2
        cases h2
    · exact h.none.elim
  · exact h.fail.elim
def leS (a b : Str) : Bool := !decide (b.cps.toList < a.cps.toList)
theorem leS_total (a b : Str) : (leS a b || leS b a) = true := by
  unfold leS
  by_cases h : b.cps.toList < a.cps.toList
  · have : ¬ a.cps.toList < b.cps.toList := List.lt_asymm h
    simp [h, this]
  · simp [h]
theorem leS_trans (a b c : Str) (h1 : leS a b = true) (h2 : leS b c = true) : leS a c = true := by
  simp only [leS, Bool.not_eq_true', decide_eq_false_iff_not, List.not_lt] at *
  exact List.le_trans h1 h2
theorem leS_antisymm (a b : Str) (h1 : leS a b = true) (h2 : leS b a = true) : a = b := by
  simp only [leS, Bool.not_eq_true', decide_eq_false_iff_not, List.not_lt] at *
  have e := List.le_antisymm h1 h2
  obtain ⟨a⟩ := a
  obtain ⟨b⟩ := b
  have : a = b := Array.toList_inj.mp e
  rw [this]
theorem rising_pw : ∀ (l : List Str) (p : Str), risingS p l = true → (p :: l).Pairwise (fun a b => leS a b = true)
  | [], p, _ => by simp
  | x :: l, p, h => by
    simp only [risingS, Bool.and_eq_true] at h
    have ih := rising_pw l x h.2
    have hpx : leS p x = true := by
      have := h.1
      rw [PyProof.Rows.ltCps_eq] at this
      exact this
    refine List.pairwise_cons.mpr ⟨fun y hy => ?_, ih⟩
    rcases List.mem_cons.mp hy with e | hy
    · rw [e]; exact hpx
    · exact leS_trans p x y hpx ((List.pairwise_cons.mp ih).1 y hy)
theorem sorted_pw : ∀ (l : List Str), sortedS l = true → l.Pairwise (fun a b => leS a b = true)
  | [], _ => by simp
  | x :: l, h => rising_pw l x h
theorem sortStrs_eq {xs ys : List Str} (hp : ys.Perm xs) (hs : sortedS ys = true) : ys = sortStrs xs := by
  refine List.Perm.eq_of_pairwise (le := fun a b => leS a b = true) (fun a b _ _ h1 h2 => leS_antisymm a b h1 h2) (sorted_pw ys hs) ?_ (hp.trans (List.mergeSort_perm xs _).symm)
  exact List.pairwise_mergeSort leS_trans leS_total xs
theorem sortInts_eq {xs ys : List Int} (hp : ys.Perm xs) (hs : ys.Pairwise (· ≤ ·)) : ys = sortInts xs := by
  refine List.Perm.eq_of_pairwise (le := fun a b => a ≤ b) (fun a b _ _ h1 h2 => Int.le_antisymm h1 h2) hs ?_ (hp.trans (List.mergeSort_perm xs _).symm)
  have := List.pairwise_mergeSort (le := fun a b : Int => decide (a ≤ b)) (fun a b c h1 h2 => by simp at *; omega) (fun a b => by simp; omega) xs
  exact this.imp (by intro a b h; simpa using h)
theorem sortedC : CallR X (.builtin "sorted") (rC X.K X.mg W sortedB) := by
  intro pins s σ H xs us Q I r ⟨μ, M, ds, rm, rv, h⟩
  unfold sortedB at h
  split at h
  · obtain ⟨v, rfl, q⟩ := rv1 rv
    split at h
    · rename_i es he
      obtain ⟨a, vs, rfl, hs, rr⟩ := tl_of (X := X) rm q he
      split at h
      · rename_i ns hn
        obtain ⟨hc, h⟩ := h.iteN
        have e := repVs_strs rr hn
        subst e
        rcases hs with hs | hs
        · refine cr_sortedS pins s σ H _ us Q I r ⟨a, ns, rfl, SqL.of hs, hc, fun ys p hp hso hH => ?_⟩
          rw [sortStrs_eq hp hso]
          exact h.made rm hH ⟨_, upd_same, repVs_of_strs _⟩
        · obtain ⟨its, rv', p', hz⟩ := I.tuple hs
          rw [Vals.ref1 r]
          have hS := rv'.strs
          refine sortedT_key strKind_oneLt p' hS.keysOf (fun v₁ v₂ rest e => keyKind_strs (by rw [← e]; exact hS)) (by rw [← rv'.length]; exact hz) fun st' hp hs' => ?_
          obtain ⟨ys, h1, h2, h3⟩ := sorted_out_str hS hp hs'
          obtain ⟨ep, he'⟩ := PyProof.Rows.sortedAll_at s.heap its ((arrOf st').map (·.2))
          have hlen : (ys.map V.str).length ≤ sizeLine := by rw [List.length_map] at hz ⊢; rw [h2.length_eq]; exact hz
          refine ⟨.ref _, upd H (s.heap.objs.size + 1) (.lst (ys.map V.str)), I.laid (t' := s.toks) (fun _ _ => PyProof.Rows.sortedAll_old) (Nat.le_succ _) ⟨hlen, _, ep, vals_of_strs h1, he'⟩, rfl, ?_⟩
          rw [sortStrs_eq h2 h3]
          exact h.made rm (I.hok.fresh (Nat.le_succ _)) ⟨_, upd_same, repVs_of_strs _⟩
      · split at h
        · rename_i ns hn
          have e := repVs_ints rr hn
          subst e
          rcases hs with hs | hs
          · refine cr_sortedI pins s σ H _ us Q I r ⟨a, ns, rfl, SqL.of hs, fun ys p hp hso hH => ?_⟩
            rw [sortInts_eq hp hso]
            exact h.made rm hH ⟨_, upd_same, repVs_of_ints _⟩
          · obtain ⟨its, rv', p', hz⟩ := I.tuple hs
            rw [Vals.ref1 r]
            have hI := rv'.ints
            refine sortedT_key intKind_oneLt p' hI.keysOfInt (fun v₁ v₂ rest e => keyKind_ints (by rw [← e]; exact hI)) (by rw [← rv'.length]; exact hz) fun st' hp hs' => ?_
            obtain ⟨ys, h1, h2, h3⟩ := sorted_out hI hp (sortedTo_of_int hs')
            obtain ⟨ep, he'⟩ := PyProof.Rows.sortedAll_at s.heap its ((arrOf st').map (·.2))
            have hlen : (ys.map V.int).length ≤ sizeLine := by rw [List.length_map] at hz ⊢; rw [h2.length_eq]; exact hz
            refine ⟨.ref _, upd H (s.heap.objs.size + 1) (.lst (ys.map V.int)), I.laid (t' := s.toks) (fun _ _ => PyProof.Rows.sortedAll_old) (Nat.le_succ _) ⟨hlen, _, ep, vals_of_ints h1, he'⟩, rfl, ?_⟩
            rw [sortInts_eq h2 h3]
            exact h.made rm (I.hok.fresh (Nat.le_succ _)) ⟨_, upd_same, repVs_of_ints _⟩
        · exact h.none.elim
    · exact h.none.elim
  · exact h.none.elim
end
end DL
end
section
set_option Elab.async false
set_option linter.all false
set_option maxRecDepth 100000
set_option maxHeartbeats 2000000
/-! DL, part g: methods of built-in types; the rules of calls. -/
namespace DL
open PySem PySem.Spec PyProof.Rows L2
section
variable {X : Cx} {W : XW}
theorem appendMt : MtR X "list.append" (rMt X.K X.mg W appendM) := by
  intro pins s σ H x xs v us Q I rx rxs ⟨μ, M, d, ds, rm, rv, rvs, h⟩
  unfold appendM at h
  split at h
  · obtain ⟨y, rfl, ry⟩ := rv1 rvs
    cases rv with | ref hn => ?_
    split at h
    · rename_i es he
      obtain ⟨hc, h⟩ := h.iteN
      obtain ⟨vs, h1, rr⟩ := seq_l rm hn he
      have hm := wr_of hn h1
      exact mt_append pins s σ H _ _ v us Q I rx rxs ⟨_, vs, y, rfl, rfl, h1, by rw [← rr.length]; exact hc, h.some (Le.write hm) (rm.write hm hn ⟨_, upd_same, (rr.up (Le.write hm) rm).append (.cons (ry.up (Le.write hm) rm) .nil)⟩) .non⟩
    · exact h.none.elim
  · exact h.none.elim
theorem findIdx_v {K : PySem.W.Frag} {mg : Str → Option Value} {μ : List Addr} {H : Hp} {d : D} {v : V} (r : RepV K mg μ H d v) (f : d.flat = true) : ∀ {ds : List D} {vs : List V} {j : Nat}, RepVs K mg μ H ds vs → ds.all D.flat = true → ds.findIdx? (fun y => D.feq y d) = some j →
    ∃ z, vs[j]? = some z ∧ eqV z v = true ∧ ∀ (m : Nat) (z' : V), m < j → vs[m]? = some z' → eqV z' v = false
  | _, _, j, .nil, _, e => by simp at e
  | _, _, j, .cons (d := d0) (v := v0) h rr, g, e => by
    rw [List.all_cons, Bool.and_eq_true] at g
    have q := feq_v h r g.1 f
    rw [List.findIdx?_cons] at e
    split at e
    · rename_i hb
      cases e
      exact ⟨v0, rfl, by rw [q]; exact hb, fun m z' hm _ => absurd hm (Nat.not_lt_zero _)⟩
    · rename_i hb
      cases e2 : List.findIdx? (fun y => D.feq y d) _ with
      | none => rw [e2] at e; cases e
      | some j' =>
        rw [e2] at e
        cases e
        obtain ⟨z, h1, h2, h3⟩ := findIdx_v r f rr g.2 e2
        refine ⟨z, h1, h2, fun m z' hm hz => ?_⟩
        cases m with
        | zero =>
          cases hz
          rw [q]
          simpa using hb
        | succ m => exact h3 m z' (Nat.lt_of_succ_lt_succ hm) hz
theorem indexMt : MtR X "list.index" (rMt X.K X.mg W indexM) := by
  intro pins s σ H x xs v us Q I rx rxs ⟨μ, M, d, ds, rm, rv, rvs, h⟩
  unfold indexM at h
  split at h
  · obtain ⟨y, rfl, ry⟩ := rv1 rvs
    split at h
    · rename_i es he
      obtain ⟨a, vs, rfl, h1, rr⟩ := lst_of (X := X) rm rv he
      obtain ⟨hc, h⟩ := h.iteN
      rw [Bool.and_eq_true] at hc
      split at h
      · rename_i j hj
        obtain ⟨z, z1, z2, z3⟩ := findIdx_v ry hc.1 rr hc.2 hj
        exact mt_index pins s σ H _ _ v us Q I rx rxs ⟨a, vs, y, j, z, rfl, rfl, SqL.of h1, flat_v ry hc.1, flat_vs rr hc.2, z1, z2, z3, h.some (Le.refl _ _) rm (.int _)⟩
      · exact h.none.elim
    · exact h.none.elim
  · exact h.none.elim
theorem count_eqL {x : V} : ∀ {xs : List V} {us : List Value}, Vals xs us → xs.all flatV = true → us.countP (eqU x) = xs.countP fun y => eqV y x
  | _, _, .nil, _ => rfl
  | y :: xs, u :: us, .cons r t, f => by
    rw [List.all_cons, Bool.and_eq_true] at f
    rw [List.countP_cons, List.countP_cons, eqU_of r f.1, count_eqL t f.2]
theorem countL_v {K : PySem.W.Frag} {mg : Str → Option Value} {μ : List Addr} {H : Hp} {d : D} {v : V} (r : RepV K mg μ H d v) (f : d.flat = true) : ∀ {ds : List D} {vs : List V}, RepVs K mg μ H ds vs → ds.all D.flat = true → (ds.countP fun y => D.feq y d) = vs.countP fun z => eqV z v
  | _, _, .nil, _ => rfl
  | _, _, .cons h rr, g => by
    rw [List.all_cons, Bool.and_eq_true] at g
    rw [List.countP_cons, List.countP_cons, ← feq_v h r g.1 f, countL_v r f rr g.2]
theorem countMt : MtR X "list.count" (rMt X.K X.mg W lcountM) := by
  intro pins s σ H x xs v us Q I rx rxs ⟨μ, M, d, ds, rm, rv, rvs, h⟩
  unfold lcountM at h
  split at h
  · obtain ⟨y, rfl, ry⟩ := rv1 rvs
    split at h
    · rename_i es he
      obtain ⟨a, vs, rfl, h1, rr⟩ := lst_of (X := X) rm rv he
      obtain ⟨hc, h⟩ := h.iteN
      rw [Bool.and_eq_true] at hc
      cases rx
      obtain ⟨u, rfl, ru⟩ := rxs.one
      obtain ⟨its, rvv, ⟨⟨cls, dd, data, sl⟩, n, ho, hcl, hdn, hd⟩, hlen⟩ := I.list (SqL.of h1)
      simp only at hcl hd
      subst hcl hd
      have fy := flat_v ry hc.1
      have fx := flat_vs rr hc.2
      refine call_meets PySem.F.slot_list_count ⟨_, ho, rfl⟩ PySem.F.entry_list_count (PySem.F.args_list_count_2 _ _)
        (SeqAt.list_countAt a its.toArray n dd sl u (eqU y)) ⟨ho, fun w hw => mem_eqAt ru fy rvv fx w (by simpa using hw), ?_⟩
      refine ⟨.int _, H, I.tok _, ⟨_, rfl⟩, ?_⟩
      rw [show its.toArray.toList = its from rfl, count_eqL rvv fx, ← countL_v ry hc.1 rr hc.2]
      exact h.some (Le.refl _ _) rm (.int _)
    · exact h.none.elim
  · exact h.none.elim
theorem dropLast_rep {K : PySem.W.Frag} {mg : Str → Option Value} {μ : List Addr} {H : Hp} {ds : List D} {vs : List V} (r : RepVs K mg μ H ds vs) : RepVs K mg μ H ds.dropLast vs.dropLast := by
  rw [List.dropLast_eq_take, List.dropLast_eq_take, r.length]
  exact r.take _
theorem erase_rep {K : PySem.W.Frag} {mg : Str → Option Value} {μ : List Addr} {H : Hp} {ds : List D} {vs : List V} (r : RepVs K mg μ H ds vs) (k : Nat) : RepVs K mg μ H (ds.eraseIdx k) (vs.eraseIdx k) := by
  rw [List.eraseIdx_eq_take_drop_succ, List.eraseIdx_eq_take_drop_succ]
  exact (r.take _).append (r.drop _)
theorem popMt : MtR X "list.pop" (rMt X.K X.mg W popM) := by
  intro pins s σ H x xs v us Q I rx rxs ⟨μ, M, d, ds, rm, rv, rvs, h⟩
  unfold popM at h
  split at h
  · cases rvs
    cases rv with | ref hn => ?_
    split at h
    · rename_i es he
      obtain ⟨vs, h1, rr⟩ := seq_l rm hn he
      have hm := wr_of hn h1
      split at h
      · rename_i d hd
        obtain ⟨w, hw, rw'⟩ := rr.get hd
        rw [rr.length] at hw
        exact mt_pop pins s σ H _ _ v us Q I rx rxs ⟨_, vs, w, rfl, rfl, h1, hw, h.some (Le.write hm) (rm.write hm hn ⟨_, upd_same, dropLast_rep (rr.up (Le.write hm) rm)⟩) (rw'.up (Le.write hm) rm)⟩
      · exact h.none.elim
    · exact h.none.elim
  · obtain ⟨y, rfl, ry⟩ := rv1 rvs
    cases ry
    cases rv with | ref hn => ?_
    split at h
    · rename_i es he
      obtain ⟨vs, h1, rr⟩ := seq_l rm hn he
      have hm := wr_of hn h1
      obtain ⟨⟨c1, c2⟩, h⟩ := h.iteN
      split at h
      · rename_i k hk
        split at h
        · rename_i d hd
          obtain ⟨w, hw, rw'⟩ := rr.get hd
          rw [rr.length] at hk
          exact mt_popAt pins s σ H _ _ v us Q I rx rxs ⟨_, vs, _, k, w, rfl, rfl, h1, c1, c2, hk, hw, h.some (Le.write hm) (rm.write hm hn ⟨_, upd_same, erase_rep (rr.up (Le.write hm) rm) k⟩) (rw'.up (Le.write hm) rm)⟩
        · exact h.none.elim
      · exact h.none.elim
    · exact h.none.elim
  · exact h.none.elim
theorem partMt : MtR X "str.partition" (rMt X.K X.mg W partM) := by
  intro pins s σ H x xs v us Q I rx rxs ⟨μ, M, d, ds, rm, rv, rvs, h⟩
  unfold partM at h
  split at h
  · obtain ⟨y, rfl, ry⟩ := rv1 rvs
    cases ry; cases rv
    obtain ⟨⟨c1, c2⟩, h⟩ := h.ite
    exact mt_partition pins s σ H _ _ v us Q I rx rxs ⟨_, _, rfl, rfl, c1, c2, fun p hp => h.some (Le.free hp) (rm.free hp) (.tup upd_same (.cons (.str _) (.cons (.str _) (.cons (.str _) .nil))))⟩
  · exact h.fail.elim
theorem splitMt : MtR X "str.split" (rMt X.K X.mg W splitM) := by
  intro pins s σ H x xs v us Q I rx rxs ⟨μ, M, d, ds, rm, rv, rvs, h⟩
  unfold splitM at h
  split at h
  · obtain ⟨y, rfl, ry⟩ := rv1 rvs
    cases ry; cases rv
    obtain ⟨⟨c1, c2⟩, h⟩ := h.ite
    exact mt_split pins s σ H _ _ v us Q I rx rxs ⟨_, _, rfl, rfl, c1, c2, fun p hp => h.made rm hp ⟨_, upd_same, repVs_of_strs _⟩⟩
  · exact h.fail.elim
theorem joinMt : MtR X "str.join" (rMt X.K X.mg W joinM) := by
  intro pins s σ H x xs v us Q I rx rxs ⟨μ, M, d, ds, rm, rv, rvs, h⟩
  unfold joinM at h
  split at h
  · obtain ⟨y, rfl, ry⟩ := rv1 rvs
    cases rv
    split at h
    · rename_i es he
      split at h
      · rename_i ys hy
        obtain ⟨hc, h⟩ := h.iteN
        obtain ⟨a, vs, rfl, hs, rr⟩ := seq_of (X := X) rm ry he
        have e := repVs_strs rr hy
        subst e
        exact mt_join pins s σ H _ _ v us Q I rx rxs ⟨_, a, ys, rfl, rfl, hs, hc, h.some (Le.refl _ _) rm (.str _)⟩
      · exact h.none.elim
    · exact h.none.elim
  · exact h.none.elim
/-! ### the rules -/
variable {e o : Expr} {es : List Expr} {mes : Env → R (List D)} {mo ma : Env → R D} {pos p apos : Pos} {x name : Str}
theorem de_callB {id : String} {g : List D → R D} (hc : CallR X (.builtin id) (rC X.K X.mg W g)) (hg : Gl X x) (hm : X.mg x = none) (hv : bootBuiltins x = some (.builtin id)) (hn : x ≠ "__name__") (hdb : (x == ("__debug__" : Str)) = false)
    (ha : PA X (e :: es) (tAD X.K X.mg W mes)) (he : starEach (e :: es) X.env = (false, eval e X.env) :: starEach es X.env) (hpl : (backTo pos (starEach es X.env)).any (·.1) = false) :
    PE X (.Call (.Name x p) (e :: es) [] pos) (tD X.K X.mg W (fun env => bnd (mes env) g)) :=
  pe_imp (pe_callB hc hg hm hv ha hn hdb he hpl) fun σ H Q ⟨μ, M, env, rm, rs, h⟩ =>
    tA_bnd rm rs h (f := fun vs env => g vs) fun vs H1 μ1 M1 ds l1 rm1 rs1 rv w => ⟨μ1, M1, ds, rm1, rv, w⟩
theorem de_callTy {T : String} {g : List D → R D} (hc : CallR X (.type T) (rC X.K X.mg W g)) (hg : Gl X x) (hm : X.mg x = none) (hv : bootBuiltins x = some (.type T)) (hn : x ≠ "__name__") (hdb : (x == ("__debug__" : Str)) = false)
    (ha : PA X (e :: es) (tAD X.K X.mg W mes)) (he : starEach (e :: es) X.env = (false, eval e X.env) :: starEach es X.env) (hpl : (backTo pos (starEach es X.env)).any (·.1) = false) :
    PE X (.Call (.Name x p) (e :: es) [] pos) (tD X.K X.mg W (fun env => bnd (mes env) g)) :=
  pe_imp (pe_callTy hc hg hm hv ha hn hdb he hpl) fun σ H Q ⟨μ, M, env, rm, rs, h⟩ =>
    tA_bnd rm rs h (f := fun vs env => g vs) fun vs H1 μ1 M1 ds l1 rm1 rs1 rv w => ⟨μ1, M1, ds, rm1, rv, w⟩
theorem tyChk_w {α β : Type} {rel : List Addr → Hp → α → β → Prop} {T : String} {f : Unit → R α} {M : Mem} {μ : List Addr} {H : Hp} {Q : β → Hp → Prop} {d : D} {v : V} (rm : RepM X.K X.mg μ M H) (rv : RepV X.K X.mg μ H d v)
    (h : Wants X.K X.mg W rel (bnd (tyChk T d) f M) μ H Q) : tyV X.K T v H ∧ Wants X.K X.mg W rel (f () M) μ H Q := by
  obtain ⟨r, M', e, k⟩ := h
  rcases bnd_some e with ⟨z, hi, e⟩ | ⟨t, M1, hi, e⟩
  · exfalso
    unfold tyChk at hi
    split at hi
    · split at hi <;> cases hi
    · split at hi
      · split at hi <;> cases hi
      · cases hi
    · split at hi <;> cases hi
    · cases hi
  · unfold tyChk at hi
    split at hi
    · split at hi
      · rename_i hT
        cases hi
        cases rv
        exact ⟨hT, r, M', e, k⟩
      · cases hi
    · split at hi
      · rename_i ds hds
        split at hi
        · rename_i hT
          cases hi
          cases rv with | ref hn => ?_
          obtain ⟨vs, h1, rr⟩ := seq_l rm hn hds
          exact ⟨.inl ⟨hT, vs, SqL.of h1⟩, r, M', e, k⟩
        · cases hi
      · cases hi
    · split at hi
      · rename_i hT
        cases hi
        cases rv with | fl h1 _ rr => ?_
        exact ⟨.inl ⟨hT, _, SqL.of h1⟩, r, M', e, k⟩
      · cases hi
    · cases hi
/-- a method of one built-in type -/
theorem de_bm {T id : String} {g : D → List D → R D} (pa : PlainAttrs T) (slot : Slot T name id) (hty : typeOf (.builtin id) = pure (.type "method_descriptor")) (hm : MtR X id (rMt X.K X.mg W g))
    (ho : PE X o (tD X.K X.mg W mo)) (ha : PA X (e :: es) (tAD X.K X.mg W mes)) (hbase : attributeBase o name X.env (eval o X.env) = eval o X.env)
    (hfew : ((backTo pos (starEach (e :: es) X.env)).all (fun x => !x.1) && (backToKw pos (keywordEach [] X.env)).all (fun x => x.1.isSome)
      && decide ((e :: es).length + ([] : List Keyword).length + (if ([] : List Keyword).isEmpty then 0 else 1) < 30)) = true)
    (hline : (apos.endLine == pos.line) = true) (hs : starEach (e :: es) X.env = (false, eval e X.env) :: starEach es X.env) (hpl : (backTo pos (starEach es X.env)).any (·.1) = false) :
    PE X (.Call (.Attribute o name apos) (e :: es) [] pos) (tD X.K X.mg W (fun env => bnd (mo env) fun x => bnd (tyChk T x) fun _ => bnd (mes env) fun vs => g x vs)) :=
  pe_imp (pe_bm pa slot hty hm ho ha hbase hfew hline hs hpl) fun σ H Q ⟨μ, M, env, rm, rs, h⟩ =>
    tD_bnd rm rs h (f := fun x env => bnd (tyChk T x) fun _ => bnd (mes env) fun vs => g x vs) fun v H1 μ1 M1 d l1 rm1 rs1 rv w => by
      obtain ⟨ty, w⟩ := tyChk_w rm1 rv w
      exact ⟨ty, tA_bnd rm1 rs1 w (f := fun vs env => g d vs) fun vs H2 μ2 M2 ds l2 rm2 rs2 rvs w2 => ⟨μ2, M2, d, ds, rm2, rv.up l2 rm1, rvs, w2⟩⟩
theorem de_bm0 {T id : String} {g : D → List D → R D} (pa : PlainAttrs T) (slot : Slot T name id) (hty : typeOf (.builtin id) = pure (.type "method_descriptor")) (hm : MtR X id (rMt X.K X.mg W g))
    (ho : PE X o (tD X.K X.mg W mo)) (hbase : attributeBase o name X.env (eval o X.env) = eval o X.env) (hline : (apos.endLine == pos.line) = true) :
    PE X (.Call (.Attribute o name apos) [] [] pos) (tD X.K X.mg W (fun env => bnd (mo env) fun x => bnd (tyChk T x) fun _ => bnd (ret []) fun vs => g x vs)) :=
  pe_imp (pe_bm0 pa slot hty hm ho hbase hline) fun σ H Q ⟨μ, M, env, rm, rs, h⟩ =>
    tD_bnd rm rs h (f := fun x env => bnd (tyChk T x) fun _ => bnd (ret []) fun vs => g x vs) fun v H1 μ1 M1 d l1 rm1 rs1 rv w => by
      obtain ⟨ty, w⟩ := tyChk_w rm1 rv w
      exact ⟨ty, μ1, M1, d, [], rm1, rv, .nil, w⟩
/-! ### f-strings -/
theorem de_fmt (ha : PE X o (tD X.K X.mg W mo)) : PE X (.FormattedValue o (-1) none pos) (tD X.K X.mg W (fun env => bnd (mo env) fmtD)) :=
  pe_imp (pe_fmt ha) fun σ H Q ⟨μ, M, env, rm, rs, h⟩ =>
    tD_bnd rm rs h (f := fun x env => fmtD x) fun v H1 μ1 M1 d l1 rm1 rs1 rv w => by
      have w : Wants X.K X.mg W (RepV X.K X.mg) (fmtD d M1) μ1 H1 Q := w
      unfold fmtD at w
      split at w
      · cases rv
        obtain ⟨hc, w⟩ := w.ite
        exact .inl ⟨_, rfl, hc, w.ret rm1 (.str _)⟩
      · cases rv
        obtain ⟨hc, w⟩ := w.ite
        exact .inr ⟨_, rfl, hc, w.ret rm1 (.str _)⟩
      · exact w.fail.elim
/-- the parts -/
inductive PJD (X : Cx) (W : XW) : List Expr → List (Env → R D) → Prop where
  | nil : PJD X W [] []
  | cons {e : Expr} {m : Env → R D} {es : List Expr} {ms : List (Env → R D)} (h : PE X e (tD X.K X.mg W m)) (r : PJD X W es ms) : PJD X W (e :: es) (m :: ms)
def glueM : List (Env → R D) → Str → Env → R Str
  | [], acc, _ => ret acc
  | m :: ms, acc, env => bnd (m env) fun x => bnd (opt (glue acc x)) fun z => glueM ms z env
theorem pjd_pj {es : List Expr} {ms : List (Env → R D)} (h : PJD X W es ms) : PJ X es (ms.map (tD X.K X.mg W)) := by
  induction h with
  | nil => exact .nil
  | cons h r ih => exact .cons h ih
def relT (_ : List Addr) (_ : Hp) (a b : Str) : Prop := a = b
theorem js_w {σ : L2.St} : ∀ {ms : List (Env → R D)} {acc : Str} {μ : List Addr} {M : Mem} {H : Hp} {env : Env} {Q : Str → Hp → Prop} (rm : RepM X.K X.mg μ M H) (rs : RepS X.K X.mg μ H env σ)
    (h : Wants X.K X.mg W relT (glueM ms acc env M) μ H Q), tJs (ms.map (tD X.K X.mg W)) acc σ H Q
  | [], acc, μ, M, H, env, Q, rm, rs, h => by
    show Q acc H
    exact Wants.ret (M := M) (a := acc) h rm rfl
  | m :: ms, acc, μ, M, H, env, Q, rm, rs, h => by
    refine tD_bnd rm rs h (f := fun x env => bnd (opt (glue acc x)) fun z => glueM ms z env) fun v H1 μ1 M1 d l1 rm1 rs1 rv w => ?_
    obtain ⟨z, hz, w⟩ := opt_w w
    unfold glue at hz
    split at hz
    · split at hz
      · rename_i hc
        cases hz
        cases rv
        exact ⟨_, rfl, hc, js_w rm1 rs1 w⟩
      · cases hz
    · cases hz
theorem de_fstr {v1 v2 : Expr} {rest : List Expr} {ms : List (Env → R D)} (h : PJD X W (v1 :: v2 :: rest) ms) : PE X (.JoinedStr (v1 :: v2 :: rest) pos) (tD X.K X.mg W (fun env => bnd (glueM ms Str.empty env) fun z => ret (.str z))) :=
  pe_imp (pe_joined (pjd_pj h)) fun σ H Q ⟨μ, M, env, rm, rs, h⟩ => by
    obtain ⟨r, M', e, q⟩ := h.bnd (rel1 := relT)
    refine js_w rm rs ⟨r, M', e, fun μ' H' l rm' => ?_⟩
    have q' := q μ' H' l rm'
    cases r with
    | error x => exact q'
    | ok z =>
      intro y hy
      obtain ⟨μ1, M1, z1, l1, rm1, e1, w⟩ := q' y hy
      have e1 : z1 = y := e1
      subst e1
      exact Wants.ret (M := M1) (a := D.str z1) w rm1 (RepV.str _)
end
end DL
end
section
set_option Elab.async false
set_option linter.all false
set_option maxRecDepth 100000
set_option maxHeartbeats 2000000
/-! DL, part h: the defs of the text, called. -/
namespace DL
open PySem PySem.Spec PyProof.Rows L2
/-- nothing is raised -/
def W0 : XW := fun _ _ _ _ => False
theorem Wants.noErr {α β : Type} {K : PySem.W.Frag} {mg : Str → Option Value} {W : XW} {rel : List Addr → Hp → α → β → Prop} {m : R α} {M : Mem} {μ : List Addr} {H : Hp} {Q : β → Hp → Prop} (h : Wants K mg W rel (DL.noErr m M) μ H Q) : Wants K mg W0 rel (m M) μ H Q := by
  obtain ⟨r, M', e, k⟩ := h
  unfold DL.noErr at e
  split at e
  · rename_i a M1 he
    cases e
    exact ⟨_, _, he, fun μ' H' l rm => k μ' H' l rm⟩
  · cases e
/-- a fact of all values that a computation gives -/
theorem Wants.also {α β : Type} {K : PySem.W.Frag} {mg : Str → Option Value} {W : XW} {rel : List Addr → Hp → α → β → Prop} {x : Option (Except D α × Mem)} {μ : List Addr} {H : Hp} {Q : β → Hp → Prop} (P : α → Prop) (hP : ∀ a M', x = Option.some (Except.ok a, M') → P a) (h : Wants K mg W (fun μ H a b => P a ∧ rel μ H a b) x μ H Q) : Wants K mg W rel x μ H Q := by
  obtain ⟨r, M', e, k⟩ := h
  refine ⟨r, M', e, fun μ' H' l rm => ?_⟩
  have z := k μ' H' l rm
  cases r with
  | error er => exact z
  | ok a => exact fun b hb => z b ⟨hP a M' e, hb⟩
/-- what stands around a call: room, and no repr under way -/
structure Sur (k : Nat) (A : Around) : Prop where
  room : Room k A
  gd : A.guards = some []
section
variable {j k : Nat} {A : Around}
theorem Sur.mono (r : Sur k A) (h : j ≤ k) : Sur j A := ⟨r.room.mono h, r.gd⟩
theorem Sur.deeper (r : Sur (k + 1) A) (env : PySem.Env) : Sur k (A.deeper env) := ⟨r.room.deeper env, r.gd⟩
theorem Sur.in1 (r : Sur (k + 1) A) : Sur k A.in1 := ⟨r.room.in1, r.gd⟩
theorem Sur.make (r : Sur (k + 1) A) (C : Addr) (us : List Value) (kw : List (Str × Value)) : Sur k (A.under (.builtin "type.__call__" ⟨.ref C :: us, kw⟩)) := by
  refine ⟨r.room.make C us kw, ?_⟩
  have e : (Code.builtin "type.__call__" ⟨.ref C :: us, kw⟩).guards = [] := by
    have z : (guardIds.contains "type.__call__") = false := by decide +kernel
    show (if (guardIds.contains "type.__call__") = true then _ else _) = _
    rw [z]; rfl
  show pushGuards (Code.builtin "type.__call__" ⟨.ref C :: us, kw⟩).guards A.guards = _
  rw [e]; exact r.gd
end
/-- what a def of the text does to values of the store -/
structure FnG (P : Program) (w : World) (K : PySem.W.Frag) (mg : Str → Option Value) (base : Heap) (k : Nat) (f : Addr) (fd : FuncData) (ps : List Str) (fm : FM) : Prop where
  run : ∀ (A : Around) (outer : List PySem.Env) (s : Shared) (H : Hp) (args : Args) (us : List Value) (vs : List V) (ds : List D) (μ : List Addr) (M : Mem) (Q : VK), Sur k A → Env0 P w K mg base A outer s H → BindsTo s fd args (ps.zip us) → Vals vs us → ds.length = ps.length →
    RepM K mg μ M H → RepVs K mg μ H ds vs → Wants K mg W0 (RepV K mg) (fm ds M) μ H Q → codeAny (model P w) A (.call (.ref f) args) (CR CX0 outer P w H s Q fun _ _ _ => False) s
/-- how a call's values reach the parameters: n positional ones, keywords ks -/
structure BindG (K : PySem.W.Frag) (mg : Str → Option Value) (fd : FuncData) (ps : List Str) (n : Nat) (ks : List Str) (sel : List Sel) : Prop where
  to : ∀ (s : Shared) (us ws : List Value), K.In s.heap → us.length = n → ws.length = ks.length → ∃ rs : List Value, BindsTo s fd ⟨us, ks.zip ws⟩ (ps.zip rs) ∧
    ∀ (vs : List V) (μ : List Addr) (H : Hp) (ds es : List D), Vals vs (us ++ ws) → RepVs K mg μ H ds vs → selD ds sel = some es → ∃ rv, Vals rv rs ∧ RepVs K mg μ H es rv
  len : sel.length = ps.length
theorem selD_length : ∀ {sel : List Sel} {ds es : List D}, selD ds sel = some es → es.length = sel.length
  | [], _, _, h => by cases h; rfl
  | .arg k :: r, ds, es, h => by
    unfold selD at h
    split at h
    · rename_i d es' h1 h2
      cases h
      simp [selD_length h2]
    · cases h
  | .val d :: r, ds, es, h => by
    unfold selD at h
    split at h
    · rename_i es' h2
      cases h
      simp [selD_length h2]
    · cases h
theorem sel_args {K : PySem.W.Frag} {mg : Str → Option Value} {μ : List Addr} {H : Hp} {vs : List V} {us : List Value} {ds : List D} (r : Vals vs us) (q : RepVs K mg μ H ds vs) : ∀ {idx : List Nat} {es : List D}, selD ds (idx.map Sel.arg) = some es →
    ∃ rv, Vals rv (idx.map fun i => us[i]?.getD .none) ∧ RepVs K mg μ H es rv
  | [], _, h => by cases h; exact ⟨[], .nil, .nil⟩
  | i :: idx, es, h => by
    unfold List.map selD at h
    split at h
    · rename_i d es' h1 h2
      cases h
      obtain ⟨rv, e1, e2⟩ := sel_args r q h2
      obtain ⟨v, hv, rvd⟩ := q.get h1
      obtain ⟨u, hu, ru⟩ := r.get hv
      refine ⟨v :: rv, ?_, .cons rvd e2⟩
      rw [List.map_cons]
      refine .cons ?_ e1
      rw [hu]
      exact ru
    · cases h
/-- a call that gives every parameter -/
theorem BindG.args {K : PySem.W.Frag} {mg : Str → Option Value} {fd : FuncData} {ps : List Str} {n : Nat} {ks : List Str} (idx : List Nat) (hl : idx.length = ps.length)
    (h : ∀ us ws : List Value, us.length = n → ws.length = ks.length → bindArgs fd ⟨us, ks.zip ws⟩ = pure (ps.zip (idx.map fun i => (us ++ ws)[i]?.getD .none))) : BindG K mg fd ps n ks (idx.map Sel.arg) :=
  ⟨fun s us ws _ h1 h2 => ⟨_, .of_eq (h us ws h1 h2), fun vs μ H ds es r q e => sel_args r q e⟩, by rw [List.length_map]; exact hl⟩
/-- what a callee does -/
def CallG (X : Cx) (u : Value) (n : Nat) (ks : List Str) (m : List D → R D) : Prop :=
  ∀ (pins : List (Addr × Obj)) (s : Shared) (σ : L2.St) (H : Hp) (us ws : List Value) (vs zs : List V) (ds es : List D) (μ : List Addr) (M : Mem) (Q : VK), Inv X pins σ H s → Vals vs us → Vals zs ws → us.length = n → ws.length = ks.length →
    RepM X.K X.mg μ M H → RepVs X.K X.mg μ H ds vs → RepVs X.K X.mg μ H es zs → Wants X.K X.mg W0 (RepV X.K X.mg) (m (ds ++ es) M) μ H Q → wpAny (model X.prog X.w) X.A (call u us (ks.zip ws)) (EP X pins σ Q) X.xe s
section
variable {X : Cx} {k n : Nat} {f C : Addr} {fd : FuncData} {ps ks : List Str} {sel : List Sel} {fm : FM} {T : Tab} {c : Str}
theorem back_w {pins : List (Addr × Obj)} {σ : L2.St} {H : Hp} {s : Shared} {Q : VK} {E : XK} (I : Inv X pins σ H s) : ∀ (r : Result) (s' : Shared), CR CX0 X.stack X.prog X.w H s Q E r s' → wants (EP X pins σ Q) X.xe r s'
  | .ok (.ret _), _, h => I.after h
  | .ok .next, _, h => h.elim
  | .ok .brk, _, h => h.elim
  | .ok .cont, _, h => h.elim
  | .error _, _, h => h.elim
theorem callG_fn (F : FnG X.prog X.w X.K X.mg X.base k f fd ps fm) (hr : Sur k X.A) (hb : BindG X.K X.mg fd ps n ks sel) : CallG X (.ref f) n ks (fun vs => bnd (opt (selD vs sel)) fm) := by
  intro pins s σ H us ws vs zs ds es μ M Q I r1 r2 l1 l2 rm q1 q2 h
  obtain ⟨as, e, h⟩ := opt_w h
  obtain ⟨rs, hbind, hsel⟩ := hb.to s us ws I.kIn l1 l2
  obtain ⟨rv, r3, q3⟩ := hsel _ _ _ _ _ (r1.append r2) (q1.append q2) e
  exact wpAny_call (codeAny_mono (F.run X.A X.stack s H _ rs rv as μ M Q hr I.env0 hbind r3 ((selD_length e).trans hb.len) rm q3 h) (back_w I))
/-- the receiver in front -/
def selS (sel : List Sel) : List Sel := .arg 0 :: sel.map fun q => match q with | .arg k => .arg (k + 1) | .val d => .val d
theorem selD_S {d : D} {ds : List D} : ∀ {sel : List Sel}, selD (d :: ds) (sel.map fun q => match q with | .arg k => .arg (k + 1) | .val d => .val d) = selD ds sel
  | [] => rfl
  | .arg k :: r => by
    have ih := selD_S (d := d) (ds := ds) (sel := r)
    show selD (d :: ds) (.arg (k + 1) :: r.map _) = _
    unfold selD
    rw [ih]
    rfl
  | .val v :: r => by
    have ih := selD_S (d := d) (ds := ds) (sel := r)
    show selD (d :: ds) (.val v :: r.map _) = _
    unfold selD
    rw [ih]
theorem selD_selS {d : D} {ds es : List D} {sel : List Sel} (h : selD ds sel = some es) : selD (d :: ds) (selS sel) = some (d :: es) := by
  unfold selS selD
  rw [selD_S, h]
  rfl
theorem callG_mt (F : FnG X.prog X.w X.K X.mg X.base k f fd ps fm) (hr : Sur k X.A) (hb : BindG X.K X.mg fd ps (n + 1) ks (selS sel)) {pins : List (Addr × Obj)} {s : Shared} {σ : L2.St} {H : Hp} {u : Value} {v : V} {d : D} {us ws : List Value} {vs zs : List V} {ds es as : List D} {μ : List Addr} {M : Mem} {Q : VK}
    (I : Inv X pins σ H s) (r0 : RelV v u) (r1 : Vals vs us) (r2 : Vals zs ws) (l1 : us.length = n) (l2 : ws.length = ks.length) (rm : RepM X.K X.mg μ M H) (q0 : RepV X.K X.mg μ H d v) (q1 : RepVs X.K X.mg μ H ds vs) (q2 : RepVs X.K X.mg μ H es zs)
    (e : selD (ds ++ es) sel = some as) (h : Wants X.K X.mg W0 (RepV X.K X.mg) (fm (d :: as) M) μ H Q) : wpAny (model X.prog X.w) X.A (call (.ref f) (u :: us) (ks.zip ws)) (EP X pins σ Q) X.xe s := by
  refine callG_fn F hr hb pins s σ H (u :: us) ws (v :: vs) zs (d :: ds) es μ M Q I (.cons r0 r1) r2 (by simp [l1]) l2 rm (.cons q0 q1) q2 ?_
  have e2 : selD (d :: ds ++ es) (selS sel) = some (d :: as) := selD_selS e
  show Wants _ _ _ _ (bnd (opt (selD (d :: ds ++ es) (selS sel))) fm M) _ _ _
  rw [e2]
  exact h
/-- a new instance -/
theorem callG_make (MK : L2.Mk X.K C f) (F : FnG X.prog X.w X.K X.mg X.base k f fd ps fm) (hr : Sur (k + 1) X.A) (hb : BindG X.K X.mg fd ps (n + 1) ks (selS sel)) (hc : X.mg c = some (.ref C)) {ct : ClsT} (hT : T.cls c = some ct) (hi : ct.init = fm) :
    CallG X (.ref C) n ks (fun vs => bnd (opt (selD vs sel)) (makeI T c)) := by
  intro pins s σ H us ws vs zs ds es μ M Q I r1 r2 l1 l2 rm q1 q2 h
  obtain ⟨as, e, h⟩ := opt_w h
  obtain ⟨r, M', e1, kk⟩ := h
  unfold makeI at e1
  rw [hT] at e1
  dsimp only at e1
  rw [hi] at e1
  split at e1
  · rename_i M2 he
    cases e1
    have I2 := Inv.made (C := C) I
    have f1 : H s.heap.objs.size = none := I.hok.fresh (Nat.le_refl _)
    have f2 : (upd H s.heap.objs.size (.own (s.heap.objs.size + 1))) (s.heap.objs.size + 1) = none := by
      rw [upd_ne (Nat.ne_of_gt (Nat.lt_succ_self _))]
      exact I.hok.fresh (Nat.le_succ _)
    have le1 : Le μ H μ (upd H s.heap.objs.size (.own (s.heap.objs.size + 1))) := Le.free f1
    have rm1 := rm.free (o := .own (s.heap.objs.size + 1)) f1
    have le2 := Le.new (μ := μ) (o := .ins C s.heap.objs.size []) f2
    have le := le1.trans le2
    have rm2 := rm1.new (o := .ins C s.heap.objs.size []) (q := .ins c []) f2 ⟨C, s.heap.objs.size, [], hc, upd_same, .nil⟩
    have hx : (μ ++ [s.heap.objs.size + 1])[M.length]? = some (s.heap.objs.size + 1) := by
      rw [← rm.len, List.getElem?_append_right (Nat.le_refl _)]
      simp
    obtain ⟨rs, hbind, hsel⟩ := hb.to { s with heap := (s.heap.push PySem.W.emptyDict).push (PySem.W.instObj C s.heap.objs.size) } (.ref (s.heap.objs.size + 1) :: us) ws I2.kIn (by simp [l1]) l2
    have e2 : selD (D.ref M.length :: ds ++ es) (selS sel) = some (D.ref M.length :: as) := selD_selS e
    obtain ⟨rv, r3, q3⟩ := hsel (.ref (s.heap.objs.size + 1) :: vs ++ zs) _ _ _ _ (.cons rfl (r1.append r2)) (.cons (.ref hx) ((q1.append q2).up le rm)) e2
    refine wpAny_call (make_map (f := f) I.kIn MK.makes MK.init (beq_iff_eq.mp MK.fn) (codeAny_mono (F.run _ X.stack _ _ _ rs rv (D.ref M.length :: as) (μ ++ [s.heap.objs.size + 1]) (M ++ [.ins c []]) (fun v H2 => v = .non ∧ Q (.ref (s.heap.objs.size + 1)) H2) (hr.make C us (ks.zip ws))
      (I2.env0.make C us (ks.zip ws)) hbind r3 ((selD_length e2).trans hb.len) rm2 q3 ⟨.ok .non, M', he, fun μ' H' l' rm' v hv => (by cases hv; exact ⟨rfl, kk μ' H' (le.trans l') rm' _ (.ref (l'.at hx))⟩)⟩) fun r s' hq' => ?_))
    · match r, hq' with
      | .ok (.ret u), hq' =>
        obtain ⟨v, H', I3, rv', ev, q4⟩ := I2.after hq'
        subst ev
        exact ⟨rv', V.ref (s.heap.objs.size + 1), H', I3, rfl, q4⟩
      | .ok .next, hq' => exact False.elim hq'
      | .ok .brk, hq' => exact False.elim hq'
      | .ok .cont, hq' => exact False.elim hq'
      | .error _, hq' => exact False.elim hq'
  · cases e1
end
end DL
end
section
set_option Elab.async false
set_option linter.all false
set_option maxRecDepth 100000
set_option maxHeartbeats 2000000
/-! DL, part j: rules over the language: names, calls, attributes. -/
namespace DL
open PySem PySem.Spec PyProof.Rows L2
abbrev DE (X : Cx) (W : XW) (T : Tab) (e : Expr) (c : CE) : Prop := PE X e (tD X.K X.mg W (evE T c))
abbrev DT (X : Cx) (W : XW) (T : Tab) (e : Expr) (c : CT) : Prop := PT X e (tTD X.K X.mg W (evT T c))
abbrev DEs (X : Cx) (W : XW) (T : Tab) (e : List Expr) (c : CEs) : Prop := PA X e (tAD X.K X.mg W (evEs T c))
abbrev DO (X : Cx) (W : XW) (T : Tab) (e : Option Expr) (c : CO) : Prop := PO X e (tOD X.K X.mg W (evO T c))
abbrev DK (X : Cx) (W : XW) (T : Tab) (e : List Keyword) (c : CEs) : Prop := PK X e (tAD X.K X.mg W (evEs T c))
def CEs.len : CEs → Nat | .nil => 0 | .cons _ es => es.len + 1
theorem evEs_len {T : Tab} : ∀ {as : CEs} {env : Env} {M M' : Mem} {ds : List D}, evEs T as env M = some (.ok ds, M') → ds.length = as.len
  | .nil, env, M, M', ds, h => by
    rw [evEs] at h
    cases (show some (Except.ok [], M) = some (.ok ds, M') from h)
    rfl
  | .cons e es, env, M, M', ds, h => by
    rw [evEs] at h
    rcases bnd_some h with ⟨z, hi, e⟩ | ⟨t, M1, hi, e⟩
    · cases e
    · rcases bnd_some e with ⟨z, hi2, e2⟩ | ⟨ts, M2, hi2, e2⟩
      · cases e2
      · have := evEs_len hi2
        cases (show some (Except.ok (t :: ts), M2) = some (.ok ds, M') from e2)
        show ts.length + 1 = es.len + 1
        rw [this]
section
variable {X : Cx} {W : XW} {T : Tab} {σ : L2.St} {H : Hp}
theorem tA_bndL {α β : Type} {as : CEs} {rel : List Addr → Hp → α → β → Prop} {f : List D → Env → R α} {Q : β → Hp → Prop} {μ : List Addr} {M : Mem} {env : Env} (rm : RepM X.K X.mg μ M H) (rs : RepS X.K X.mg μ H env σ)
    (h : Wants X.K X.mg W rel (bnd (evEs T as env) (fun d => f d env) M) μ H Q) {Q' : List V → Hp → Prop} (k : ∀ vs H1 μ1 M1 ds, Le μ H μ1 H1 → RepM X.K X.mg μ1 M1 H1 → RepS X.K X.mg μ1 H1 env σ → RepVs X.K X.mg μ1 H1 ds vs → ds.length = as.len → Wants X.K X.mg W rel (f ds env M1) μ1 H1 Q → Q' vs H1) : tAD X.K X.mg W (evEs T as) σ H Q' := by
  have hb := h.bnd (rel1 := fun μ H a b => a.length = as.len ∧ RepVs X.K X.mg μ H a b)
  refine ⟨μ, M, env, rm, rs, Wants.also (fun a => a.length = as.len) (fun a M' e => evEs_len e) ?_⟩
  obtain ⟨r, M', e, q⟩ := hb
  refine ⟨r, M', e, fun μ' H' l rm' => ?_⟩
  have q' := q μ' H' l rm'
  cases r with
  | error x => exact q'
  | ok d =>
    intro v rv
    obtain ⟨μ1, M1, d1, l1, rm1, rv1, w⟩ := q' v rv
    exact k _ H' μ1 M1 d1 l1 rm1 (rs.up l1 rm) rv1.2 rv1.1 w
/-! ### keywords -/
theorem dk_nil : DK X W T [] .nil := ⟨fun pos pins s σ H Q I ⟨μ, M, env, rm, rs, h⟩ => pk_nil.run pos pins s σ H Q I (by
  have h : Wants X.K X.mg W (RepVs X.K X.mg) (ret [] M) μ H Q := h
  exact h.ret rm .nil)⟩
theorem dk_cons {nm : Option Str} {e : Expr} {kpos : Pos} {kws : List Keyword} {c : CE} {cs : CEs} (ha : DE X W T e c) (hr : DK X W T kws cs) : DK X W T (⟨nm, e, kpos⟩ :: kws) (.cons c cs) :=
  ⟨fun pos pins s σ H Q I ⟨μ, M, env, rm, rs, h⟩ => (pk_cons ha hr).run pos pins s σ H Q I (by
    have h : Wants X.K X.mg W (RepVs X.K X.mg) (bnd (evE T c env) (fun x => bnd (evEs T cs env) fun xs => ret (x :: xs)) M) μ H Q := h
    exact tD_bnd rm rs h (f := fun x env => bnd (evEs T cs env) fun xs => ret (x :: xs)) fun v H1 μ1 M1 d l1 rm1 rs1 rv w =>
      tA_bnd rm1 rs1 w (f := fun xs env => ret (d :: xs)) fun vs H2 μ2 M2 ds l2 rm2 rs2 rvs w2 => Wants.ret (a := d :: ds) w2 rm2 (.cons (rv.up l2 rm1) rvs))⟩
/-! ### calls -/
inductive ArgsOk (X : Cx) (pos : Pos) : List Expr → CEs → Prop where
  | nil : ArgsOk X pos [] .nil
  | cons {e : Expr} {r : List Expr} {as : CEs} (he : starEach (e :: r) X.env = (false, eval e X.env) :: starEach r X.env) (hpl : (backTo pos (starEach r X.env)).any (·.1) = false) : ArgsOk X pos (e :: r) as
inductive KwsOk (X : Cx) (pos : Pos) (ks : List Str) : List Keyword → CEs → Prop where
  | nil (h : ks = []) : KwsOk X pos ks [] .nil
  | cons {kws : List Keyword} {bs : CEs} (hall : (backToKw pos (keywordEach kws X.env)).all (·.1.isSome) = true) (hks : (backToKw pos (keywordEach kws X.env)).filterMap (·.1) = ks) (hn : (backToKw pos (keywordEach kws X.env)).any (·.1.isNone) = false) : KwsOk X pos ks kws bs
theorem call_wP {u : Value} {first : List Value} {P : Heap → Prop} {pins : List (Addr × Obj)} {s : Shared} {es : List Expr} {kws : List Keyword} {pos : Pos} {as bs : CEs} {ks : List Str} {μ : List Addr} {M : Mem} {env : Env} {g : List D → R D} {Q : VK} {Z : Value → Shared → Prop}
    (hk : ∀ h, P h → ∃ k, (k = Keeper.frame ∨ k = Keeper.machine ∨ k = Keeper.boundFrame) ∧ PySem.W.Looks (model X.prog X.w) h (keeperOf u) k) (ao : ArgsOk X pos es as) (ko : KwsOk X pos ks kws bs) (ha : DEs X W T es as) (hkw : DK X W T kws bs) (I : Inv X pins σ H s) (rm : RepM X.K X.mg μ M H) (rs : RepS X.K X.mg μ H env σ)
    (h : Wants X.K X.mg W (RepV X.K X.mg) (bnd (evEs T as env) (fun vs => bnd (evEs T bs env) fun us => g (vs ++ us)) M) μ H Q)
    (run : ∀ (s2 : Shared) (H2 : Hp) (us ws : List Value) (vs zs : List V) (ds es : List D) (μ2 : List Addr) (M2 : Mem), Inv X pins σ H2 s2 → Vals vs us → Vals zs ws → us.length = as.len → ws.length = bs.len → Le μ H μ2 H2 → RepM X.K X.mg μ2 M2 H2 → RepVs X.K X.mg μ2 H2 ds vs → RepVs X.K X.mg μ2 H2 es zs →
      Wants X.K X.mg W (RepV X.K X.mg) (g (ds ++ es) M2) μ2 H2 Q → P s2.heap ∧ wpAny (model X.prog X.w) X.A (call u (first ++ us) (ks.zip ws)) Z X.xe s2) :
    wpAny (model X.prog X.w) X.A (callWith pos u first (backTo pos (starEach es X.env)) (backToKw pos (keywordEach kws X.env))) Z X.xe s := by
  cases ko with
  | nil hn =>
    subst hn
    cases ao with
    | nil => exact PySem.W.callWith_of rfl hk (evalArgs_nil3 (run s H [] [] [] [] [] [] μ M I .nil .nil rfl rfl (Le.refl _ _) rm .nil .nil h))
    | @cons e r as he hpl =>
      refine PySem.W.callWith_of (by rw [he]; show ((false || (backTo pos (starEach r X.env)).any (·.1)) || false) = false; rw [hpl]; rfl) hk ?_
      have z : wpAny (model X.prog X.w) X.A (spliced (backTo pos (starEach (e :: r) X.env))) (fun vs s' => P s'.heap ∧ wpAny (model X.prog X.w) X.A (call u (first ++ vs) []) Z X.xe s') X.xe s := by
        refine thn (ha.run pos pins s σ H _ I (tA_bndL rm rs h (f := fun vs env => bnd (evEs T .nil env) fun us => g (vs ++ us)) (Q' := fun vs H1 => ∃ μ1 M1 ds, Le μ H μ1 H1 ∧ RepM X.K X.mg μ1 M1 H1 ∧ RepVs X.K X.mg μ1 H1 ds vs ∧ ds.length = as.len ∧ Wants X.K X.mg W (RepV X.K X.mg) (g (ds ++ []) M1) μ1 H1 Q) fun vs H1 μ1 M1 ds l1 rm1 rs1 rv ll w => ⟨μ1, M1, ds, l1, rm1, rv, ll, w⟩)) fun us s1 ⟨vs, H1, I1, r, μ1, M1, ds, l1, rm1, rv, ll, w⟩ => ?_
        exact run s1 H1 us [] vs [] ds [] μ1 M1 I1 r .nil (by rw [← r.length, ← rv.length, ll]) rfl l1 rm1 rv .nil w
      rw [he] at z ⊢
      exact Calls.evalArgs_plain z
  | cons hall hks hn =>
    cases ao with
    | nil =>
      refine PySem.W.callWith_of (by show (false || _) = false; rw [hn]; rfl) hk (evalArgs_kw2_nil hall ?_)
      refine thn (hkw.run pos pins s σ H _ I (tA_bndL rm rs h (f := fun us env => g ([] ++ us)) (Q' := fun vs H1 => ∃ μ1 M1 ds, Le μ H μ1 H1 ∧ RepM X.K X.mg μ1 M1 H1 ∧ RepVs X.K X.mg μ1 H1 ds vs ∧ ds.length = bs.len ∧ Wants X.K X.mg W (RepV X.K X.mg) (g ([] ++ ds) M1) μ1 H1 Q) fun vs H1 μ1 M1 ds l1 rm1 rs1 rv ll w => ⟨μ1, M1, ds, l1, rm1, rv, ll, w⟩)) fun ws s1 ⟨zs, H1, I1, r, μ1, M1, ds, l1, rm1, rv, ll, w⟩ => ?_
      rw [hks]
      exact run s1 H1 [] ws [] zs [] ds μ1 M1 I1 .nil r rfl (by rw [← r.length, ← rv.length, ll]) l1 rm1 .nil rv w
    | @cons e r as he hpl =>
      refine PySem.W.callWith_of (by
        rw [he]
        show ((false || (backTo pos (starEach r X.env)).any (·.1)) || _) = false
        rw [hpl, hn]; rfl) hk (evalArgs_kw2 hall ?_ he)
      refine thn (ha.run pos pins s σ H _ I (tA_bndL rm rs h (f := fun vs env => bnd (evEs T bs env) fun us => g (vs ++ us)) (Q' := fun vs H1 => ∃ μ1 M1 ds, Le μ H μ1 H1 ∧ RepM X.K X.mg μ1 M1 H1 ∧ RepS X.K X.mg μ1 H1 env σ ∧ RepVs X.K X.mg μ1 H1 ds vs ∧ ds.length = as.len ∧ Wants X.K X.mg W (RepV X.K X.mg) (bnd (evEs T bs env) (fun us => g (ds ++ us)) M1) μ1 H1 Q) fun vs H1 μ1 M1 ds l1 rm1 rs1 rv ll w => ⟨μ1, M1, ds, l1, rm1, rs1, rv, ll, w⟩)) fun us s1 ⟨vs, H1, I1, r1, μ1, M1, ds, l1, rm1, rs1, rv, ll, w⟩ => ?_
      refine thn (hkw.run pos pins s1 σ H1 _ I1 (tA_bndL rm1 rs1 w (f := fun us env => g (ds ++ us)) (Q' := fun zs H2 => ∃ μ2 M2 es, Le μ1 H1 μ2 H2 ∧ RepM X.K X.mg μ2 M2 H2 ∧ RepVs X.K X.mg μ2 H2 es zs ∧ es.length = bs.len ∧ Wants X.K X.mg W (RepV X.K X.mg) (g (ds ++ es) M2) μ2 H2 Q) fun zs H2 μ2 M2 es l2 rm2 rs2 rv2 ll2 w2 => ⟨μ2, M2, es, l2, rm2, rv2, ll2, w2⟩)) fun ws s2 ⟨zs, H2, I2, r2, μ2, M2, es, l2, rm2, rv2, ll2, w2⟩ => ?_
      rw [hks]
      exact run s2 H2 us ws vs zs ds es μ2 M2 I2 r1 r2 (by rw [← r1.length, ← rv.length, ll]) (by rw [← r2.length, ← rv2.length, ll2]) (l1.trans l2) rm2 (rv.up l2 rm1) rv2 w2
theorem call_w {u : Value} {first : List Value} {pins : List (Addr × Obj)} {s : Shared} {es : List Expr} {kws : List Keyword} {pos : Pos} {as bs : CEs} {ks : List Str} {μ : List Addr} {M : Mem} {env : Env} {g : List D → R D} {Q : VK}
    (hk : PySem.W.keepIn X.K u = true) (ao : ArgsOk X pos es as) (ko : KwsOk X pos ks kws bs) (ha : DEs X W T es as) (hkw : DK X W T kws bs) (I : Inv X pins σ H s) (rm : RepM X.K X.mg μ M H) (rs : RepS X.K X.mg μ H env σ)
    (h : Wants X.K X.mg W (RepV X.K X.mg) (bnd (evEs T as env) (fun vs => bnd (evEs T bs env) fun us => g (vs ++ us)) M) μ H Q)
    (run : ∀ (s2 : Shared) (H2 : Hp) (us ws : List Value) (vs zs : List V) (ds es : List D) (μ2 : List Addr) (M2 : Mem), Inv X pins σ H2 s2 → Vals vs us → Vals zs ws → us.length = as.len → ws.length = bs.len → Le μ H μ2 H2 → RepM X.K X.mg μ2 M2 H2 → RepVs X.K X.mg μ2 H2 ds vs → RepVs X.K X.mg μ2 H2 es zs →
      Wants X.K X.mg W (RepV X.K X.mg) (g (ds ++ es) M2) μ2 H2 Q → wpAny (model X.prog X.w) X.A (call u (first ++ us) (ks.zip ws)) (EP X pins σ Q) X.xe s2) :
    wpAny (model X.prog X.w) X.A (callWith pos u first (backTo pos (starEach es X.env)) (backToKw pos (keywordEach kws X.env))) (EP X pins σ Q) X.xe s :=
  call_wP (P := fun h => X.K.In h) (fun h z => PySem.W.keeps_K hk h z) ao ko ha hkw I rm rs h fun s2 H2 us ws vs zs ds es μ2 M2 I2 r1 r2 l1 l2 le rm2 q1 q2 w => ⟨I2.kIn, run s2 H2 us ws vs zs ds es μ2 M2 I2 r1 r2 l1 l2 le rm2 q1 q2 w⟩
variable {x : Str} {p pos apos : Pos} {u : Value} {n : Nat} {ks : List Str} {es : List Expr} {kws : List Keyword} {as bs : CEs} {sel : List Sel}
theorem optW {γ : Type} {o : Option γ} {f : γ → R D} {M : Mem} {μ : List Addr} {Q : VK} (h : Wants X.K X.mg W (RepV X.K X.mg) (bnd (opt o) (fun w => noErr (f w)) M) μ H Q) : Wants X.K X.mg W0 (RepV X.K X.mg) (bnd (opt o) f M) μ H Q := by
  obtain ⟨y, e, w⟩ := opt_w h
  subst e
  exact w.noErr
theorem de_own {i : Nat} (hg : Gl X x) (hm : X.mg x = some u) (hk : PySem.W.keepIn X.K u = true) (hc : CallG X u n ks (fun vs => bnd (opt (selD vs sel)) (T.fn i))) (ao : ArgsOk X pos es as) (ko : KwsOk X pos ks kws bs) (ln : as.len = n) (lk : bs.len = ks.length)
    (ha : DEs X W T es as) (hkw : DK X W T kws bs) (hdb : (x == ("__debug__" : Str)) = false) : DE X W T (.Call (.Name x p) es kws pos) (.own i as bs sel) := by
  refine ⟨fun pins s σ H Q I ⟨μ, M, env, rm, rs, h⟩ => ?_⟩
  refine wpAny_Call_Name_kw (ld_glob I hg hm ?_ hdb)
  have h : Wants X.K X.mg W (RepV X.K X.mg) (bnd (evEs T as env) (fun vs => bnd (evEs T bs env) fun us => bnd (opt (selD (vs ++ us) sel)) fun ws => noErr (T.fn i ws)) M) μ H Q := h
  refine call_w (first := []) (g := fun l => bnd (opt (selD l sel)) fun ws => noErr (T.fn i ws)) hk ao ko ha hkw I rm rs h fun s2 H2 us ws vs zs ds es μ2 M2 I2 r1 r2 l1 l2 _ rm2 q1 q2 w => ?_
  exact hc pins s2 σ H2 us ws vs zs ds es μ2 M2 Q I2 r1 r2 (l1.trans ln) (l2.trans lk) rm2 q1 q2 (optW w)
theorem makeI_noErr {c : Str} {vs : List D} {M : Mem} {μ : List Addr} {Q : VK} (h : Wants X.K X.mg W (RepV X.K X.mg) (makeI T c vs M) μ H Q) : Wants X.K X.mg W0 (RepV X.K X.mg) (makeI T c vs M) μ H Q := by
  obtain ⟨r, M', e, k⟩ := h
  refine ⟨r, M', e, ?_⟩
  unfold makeI at e
  split at e
  · split at e
    · cases e
      exact k
    · cases e
  · cases e
theorem optMk {c : Str} {o : Option (List D)} {M : Mem} {μ : List Addr} {Q : VK} (h : Wants X.K X.mg W (RepV X.K X.mg) (bnd (opt o) (makeI T c) M) μ H Q) : Wants X.K X.mg W0 (RepV X.K X.mg) (bnd (opt o) (makeI T c) M) μ H Q := by
  obtain ⟨y, e, w⟩ := opt_w h
  subst e
  exact makeI_noErr w
theorem de_make {c : Str} (hg : Gl X x) (hm : X.mg x = some u) (hk : PySem.W.keepIn X.K u = true) (hc : CallG X u n ks (fun vs => bnd (opt (selD vs sel)) (makeI T c))) (ao : ArgsOk X pos es as) (ko : KwsOk X pos ks kws bs) (ln : as.len = n) (lk : bs.len = ks.length)
    (ha : DEs X W T es as) (hkw : DK X W T kws bs) (hdb : (x == ("__debug__" : Str)) = false) : DE X W T (.Call (.Name x p) es kws pos) (.make c as bs sel) := by
  refine ⟨fun pins s σ H Q I ⟨μ, M, env, rm, rs, h⟩ => ?_⟩
  refine wpAny_Call_Name_kw (ld_glob I hg hm ?_ hdb)
  have h : Wants X.K X.mg W (RepV X.K X.mg) (bnd (evEs T as env) (fun vs => bnd (evEs T bs env) fun us => bnd (opt (selD (vs ++ us) sel)) fun ws => makeI T c ws) M) μ H Q := h
  refine call_w (first := []) (g := fun l => bnd (opt (selD l sel)) fun ws => makeI T c ws) hk ao ko ha hkw I rm rs h fun s2 H2 us ws vs zs ds es μ2 M2 I2 r1 r2 l1 l2 _ rm2 q1 q2 w => ?_
  exact hc pins s2 σ H2 us ws vs zs ds es μ2 M2 Q I2 r1 r2 (l1.trans ln) (l2.trans lk) rm2 q1 q2 (optMk w)
/-- cls(..), the class in a local name -/
theorem de_makeV {c : Str} {o : CE} {C : Addr} (ho : DE X W T (.Name x p) o) (hm : X.mg c = some (.ref C)) (hk : PySem.W.keepIn X.K (.ref C) = true) (hc : CallG X (.ref C) n [] (fun vs => bnd (opt (selD vs sel)) (makeI T c))) (ao : ArgsOk X pos es as) (ln : as.len = n)
    (ha : DEs X W T es as) : DE X W T (.Call (.Name x p) es [] pos) (.makeV c o as sel) := by
  refine ⟨fun pins s σ H Q I ⟨μ, M, env, rm, rs, h⟩ => ?_⟩
  have h : Wants X.K X.mg W (RepV X.K X.mg) (bnd (evE T o env) (fun x => bnd (glIs c x) fun _ => bnd (evEs T as env) fun vs => bnd (opt (selD vs sel)) fun ws => makeI T c ws) M) μ H Q := h
  refine wpAny_Call_Name_kw (thn (ho.run pins s σ H (fun v H1 => v = .ref C ∧ ∃ μ1 M1, Le μ H μ1 H1 ∧ RepM X.K X.mg μ1 M1 H1 ∧ RepS X.K X.mg μ1 H1 env σ ∧ Wants X.K X.mg W (RepV X.K X.mg) (bnd (evEs T as env) (fun vs => bnd (opt (selD vs sel)) fun ws => makeI T c ws) M1) μ1 H1 Q) I
    (tD_bnd rm rs h (f := fun x env => bnd (glIs c x) fun _ => bnd (evEs T as env) fun vs => bnd (opt (selD vs sel)) fun ws => makeI T c ws) fun v H1 μ1 M1 d l1 rm1 rs1 rv w => ?_)) fun uu s1 ⟨v, H1, I1, r1, ev, μ1, M1, l1, rm1, rs1, w⟩ => ?_)
  · cases rv with
    | @glo y v w0 hy ry =>
      by_cases hyc : y = c
      · subst hyc
        rw [hm] at hy; cases hy
        have ev : v = V.ref C := RelV.inj ry (show RelV (V.ref C) (Value.ref C) from rfl)
        refine ⟨ev, μ1, M1, l1, rm1, rs1, ?_⟩
        have e : glIs y (.glo y) = ret () := if_pos rfl
        rw [e] at w
        exact w
      · exfalso
        have e : glIs c (.glo y) = fail := if_neg hyc
        rw [e] at w
        obtain ⟨_, _, z, _⟩ := w
        cases z
    | _ => exfalso; obtain ⟨_, _, z, _⟩ := w; cases z
  · subst ev
    obtain rfl : uu = Value.ref C := r1
    have w' : Wants X.K X.mg W (RepV X.K X.mg) (bnd (evEs T as env) (fun vs => bnd (evEs T .nil env) fun us => bnd (opt (selD (vs ++ us) sel)) fun ws => makeI T c ws) M1) μ1 H1 Q := by
      have e : (fun vs => bnd (evEs T .nil env) fun us => bnd (opt (selD (vs ++ us) sel)) fun ws => makeI T c ws) = fun vs => bnd (opt (selD vs sel)) fun ws => makeI T c ws := by
        funext vs M
        show bnd (opt (selD (vs ++ []) sel)) (fun ws => makeI T c ws) M = _
        rw [List.append_nil]
      rw [e]
      exact w
    refine call_w (first := []) (ks := []) (bs := .nil) (kws := []) (g := fun l => bnd (opt (selD l sel)) fun ws => makeI T c ws) hk ao (.nil rfl) ha dk_nil I1 rm1 rs1 w' fun s2 H2 us ws vs zs ds es μ2 M2 I2 r1 r2 l1 l2 _ rm2 q1 q2 w => ?_
    exact hc pins s2 σ H2 us ws vs zs ds es μ2 M2 Q I2 r1 r2 (l1.trans ln) l2 rm2 q1 q2 (optMk w)
end
end DL
end
section
set_option Elab.async false
set_option linter.all false
set_option maxRecDepth 100000
set_option maxHeartbeats 2000000
/-! DL, part k: methods, attributes, isinstance. -/
namespace DL
open PySem PySem.Spec PyProof.Rows L2
section
variable {X : Cx} {W : XW} {T : Tab} {σ : L2.St} {H : Hp} {pos p apos : Pos}
theorem RepF.look {K : PySem.W.Frag} {mg : Str → Option Value} {μ : List Addr} {f : Str} : ∀ {fs : List (Str × D)} {gs : List (Str × V)}, RepF K mg μ H fs gs → (∀ d, fs.lookup f = some d → ∃ v, gs.lookup f = some v ∧ RepV K mg μ H d v) ∧ (fs.lookup f = none → gs.lookup f = none)
  | _, _, .nil => ⟨fun d h => (by have h : (none : Option D) = some d := h; cases h), fun _ => rfl⟩
  | _, _, @RepF.cons _ _ _ _ g d v ds vs h r => by
    have ih := r.look (f := f)
    by_cases e : f == g
    · refine ⟨fun d' z => ?_, fun z => ?_⟩
      · rw [List.lookup_cons, e] at z
        have z : some d = some d' := z
        cases z
        exact ⟨v, by rw [List.lookup_cons, e], h⟩
      · rw [List.lookup_cons, e] at z
        cases z
    · have e : (f == g) = false := by simpa using e
      refine ⟨fun d' z => ?_, fun z => ?_⟩
      · rw [List.lookup_cons, e] at z
        obtain ⟨w, h1, h2⟩ := ih.1 d' z
        exact ⟨w, by rw [List.lookup_cons, e]; exact h1, h2⟩
      · rw [List.lookup_cons, e] at z
        rw [List.lookup_cons, e]
        exact ih.2 z
theorem insOf_w {α β : Type} {rel : List Addr → Hp → α → β → Prop} {c : Str} {d : D} {f : List (Str × D) → R α} {M : Mem} {μ : List Addr} {Q : β → Hp → Prop} (h : Wants X.K X.mg W rel (bnd (insOf c d) f M) μ H Q) :
    ∃ fs, insAny M d = some (c, fs) ∧ Wants X.K X.mg W rel (f fs M) μ H Q := by
  obtain ⟨r, M', e, k⟩ := h
  rcases bnd_some e with ⟨z, hi, e⟩ | ⟨t, M1, hi, e⟩
  · exfalso
    unfold insOf at hi
    split at hi
    · split at hi <;> cases hi
    · cases hi
  · unfold insOf at hi
    split at hi
    · rename_i hm
      split at hi
      · rename_i hc
        subst hc
        cases hi
        exact ⟨_, hm, r, M', e, k⟩
      · cases hi
    · cases hi
theorem repF_zip {K : PySem.W.Frag} {mg : Str → Option Value} {μ : List Addr} {H : Hp} : ∀ {ds : List D} {gs : List (Str × V)}, RepVs K mg μ H ds (gs.map (·.2)) → RepF K mg μ H ((gs.map (·.1)).zip ds) gs
  | [], [], _ => .nil
  | d :: ds, (f, v) :: gs, h => by
    cases h with | cons h1 h2 => exact .cons h1 (repF_zip h2)
  | [], _ :: _, h => by cases h
  | _ :: _, [], h => by cases h
theorem ins_any {d : D} {v : V} {c : Str} {fs : List (Str × D)} {μ : List Addr} {M : Mem} (rm : RepM X.K X.mg μ M H) (rv : RepV X.K X.mg μ H d v) (hd : insAny M d = some (c, fs)) : ∃ C a dx gs, X.mg c = some (.ref C) ∧ v = .ref a ∧ H a = some (.ins C dx gs) ∧ RepF X.K X.mg μ H fs gs := by
  unfold insAny at hd
  split at hd
  · split at hd
    · rename_i hm
      cases hd
      cases rv with | @ref _ a hn => ?_
      obtain ⟨C, dx, gs, h0, h1, h2⟩ := rm.obj _ a _ hn hm
      exact ⟨C, a, dx, gs, h0, rfl, h1, h2⟩
    · cases hd
  · cases hd
    cases rv with | @ob _ C a dx gs _ _ h1 h2 h3 h4 r => ?_
    subst h4
    exact ⟨C, a, dx, gs, h1, rfl, h2, repF_zip r⟩
  · cases hd
theorem ins_anyC {d : D} {v : V} {c : Str} {C : Addr} {fs : List (Str × D)} {μ : List Addr} {M : Mem} (rm : RepM X.K X.mg μ M H) (rv : RepV X.K X.mg μ H d v) (hd : insAny M d = some (c, fs)) (hC : X.mg c = some (.ref C)) : ∃ a dx gs, v = .ref a ∧ H a = some (.ins C dx gs) ∧ RepF X.K X.mg μ H fs gs := by
  obtain ⟨C', a, dx, gs, h0, h1, h2, h3⟩ := ins_any rm rv hd
  rw [hC] at h0
  cases h0
  exact ⟨a, dx, gs, h1, h2, h3⟩
/-- the instance as the layer has it -/
theorem ins_at {n : Nat} {a : Addr} {c : Str} {C : Addr} {fs : List (Str × D)} {μ : List Addr} {M : Mem} (rm : RepM X.K X.mg μ M H) (hn : μ[n]? = some a) (hm : M[n]? = some (.ins c fs)) (hC : X.mg c = some (.ref C)) : ∃ dx gs, H a = some (.ins C dx gs) ∧ RepF X.K X.mg μ H fs gs := by
  obtain ⟨C', dx, gs, h0, h1, h2⟩ := rm.obj n a _ hn hm
  rw [hC] at h0
  cases h0
  exact ⟨dx, gs, h1, h2⟩
theorem ifT {α β : Type} {rel : List Addr → Hp → α → β → Prop} {c : Prop} [Decidable c] {m : R α} {M : Mem} {μ : List Addr} {Q : β → Hp → Prop} (h : Wants X.K X.mg W rel ((if c then m else fail) M) μ H Q) : c ∧ Wants X.K X.mg W rel (m M) μ H Q := by
  by_cases hc : c
  · rw [if_pos hc] at h; exact ⟨hc, h⟩
  · rw [if_neg hc] at h; exact h.fail.elim
theorem optF_w {fm : FM} {vs : List D} {M : Mem} {μ : List Addr} {Q : VK} {o : Option FM} (ho : o = some fm) (h : Wants X.K X.mg W (RepV X.K X.mg) (optF o vs M) μ H Q) : Wants X.K X.mg W0 (RepV X.K X.mg) (fm vs M) μ H Q := by
  subst ho
  exact Wants.noErr h
/-! ### methods -/
/-- a method of the class c of the table -/
structure MethG (X : Cx) (T : Tab) (c m : Str) (C f : Addr) (fd : FuncData) (ps : List Str) (k : Nat) (fm : FM) : Prop where
  at_ : X.mg c = some (.ref C)
  cl : L2.Cls X.K C
  mt : L2.Meth X.K C m f
  fn : FnG X.prog X.w X.K X.mg X.base k f fd ps fm
  tab : methOf T c m = some fm
theorem de_ometh {oe : Expr} {m c : Str} {es : List Expr} {kws : List Keyword} {o : CE} {as bs : CEs} {sel : List Sel} {C f : Addr} {fd : FuncData} {ps ks : List Str} {k n : Nat} {fm : FM} {pl : Sem Bool}
    (G : MethG X T c m C f fd ps k fm) (hr : Sur k X.A) (hb : BindG X.K X.mg fd ps (n + 1) ks (selS sel)) (ao : ArgsOk X pos es as) (ko : KwsOk X pos ks kws bs) (ln : as.len = n) (lk : bs.len = ks.length) (ho : DE X W T oe o) (ha : DEs X W T es as) (hkw : DK X W T kws bs)
    (ht : eval (.Call (.Attribute oe m apos) es kws pos) X.env = (do
      let ov ← eval oe X.env
      standAt apos.atName
      let (f, first) ← holding [ov] (getMethod ov m pl)
      callWith pos f first (backTo pos (starEach es X.env)) (backToKw pos (keywordEach kws X.env)))) : DE X W T (.Call (.Attribute oe m apos) es kws pos) (.ometh m c o as bs sel) := by
  refine ⟨fun pins s σ H Q I ⟨μ, M, env, rm, rs, h⟩ => ?_⟩
  have h : Wants X.K X.mg W (RepV X.K X.mg) (bnd (evE T o env) (fun x => bnd (insOf c x) fun fs => if (fs.lookup m).isNone = true then bnd (evEs T as env) fun vs => bnd (evEs T bs env) fun us => bnd (opt (selD (vs ++ us) sel)) fun ws => optF (methOf T c m) (x :: ws) else fail) M) μ H Q := h
  refine PySem.W.methodCall_KW (pl := pl) (thn (ho.run pins s σ H (fun v H1 => ∃ a dx gs d μ1 M1, v = .ref a ∧ H1 a = some (.ins C dx gs) ∧ gs.lookup m = none ∧ RepM X.K X.mg μ1 M1 H1 ∧ RepS X.K X.mg μ1 H1 env σ ∧ RepV X.K X.mg μ1 H1 d v ∧
      Wants X.K X.mg W (RepV X.K X.mg) (bnd (evEs T as env) (fun vs => bnd (evEs T bs env) fun us => bnd (opt (selD (vs ++ us) sel)) fun ws => optF (methOf T c m) (d :: ws)) M1) μ1 H1 Q) I
    (tD_bnd rm rs h (f := fun x env => bnd (insOf c x) fun fs => if (fs.lookup m).isNone = true then bnd (evEs T as env) fun vs => bnd (evEs T bs env) fun us => bnd (opt (selD (vs ++ us) sel)) fun ws => optF (methOf T c m) (x :: ws) else fail) fun v H1 μ1 M1 d l1 rm1 rs1 rv w => ?_)) fun u s1 ⟨v, H1, I1, r1, a, dx, gs, d, μ1, M1, ev, ea, hl, rm1, rs1, rv, w⟩ => ?_) ht
  · obtain ⟨fs, hd, w⟩ := insOf_w w
    obtain ⟨hl, w⟩ := ifT w
    obtain ⟨a, dx, gs, ev, ea, rf⟩ := ins_anyC rm1 rv hd G.at_
    subst ev
    exact ⟨a, dx, gs, _, μ1, M1, rfl, ea, rf.look.2 (by simpa using hl), rm1, rs1, rv, w⟩
  · subst ev
    obtain rfl : u = Value.ref a := r1
    refine getmeth_ok I1 ea G.cl G.mt hl ?_
    refine call_w (first := [.ref a]) (g := fun l => bnd (opt (selD l sel)) fun ws => optF (methOf T c m) (d :: ws)) G.mt.kp ao ko ha hkw I1 rm1 rs1 w fun s2 H2 us ws vs zs ds es μ2 M2 I2 r1 r2 l1 l2 le rm2 q1 q2 w => ?_
    obtain ⟨as', e, w⟩ := opt_w w
    exact callG_mt (v := V.ref a) (u := Value.ref a) G.fn hr hb I2 rfl r1 r2 (l1.trans ln) (l2.trans lk) rm2 (rv.up le rm1) q1 q2 e (optF_w G.tab w)
/-- a classmethod of the class c of the table -/
structure CmethG (X : Cx) (T : Tab) (c m : Str) (C f : Addr) (fd : FuncData) (ps : List Str) (k : Nat) (fm : FM) : Prop where
  at_ : X.mg c = some (.ref C)
  rd : ∃ mc pp, ClX.CRead X.K C mc ∧ ClX.CMet X.K C mc m pp f
  fn : FnG X.prog X.w X.K X.mg X.base k f fd ps fm
  tab : ∃ ct, T.cls c = some ct ∧ ct.cmet m = some fm
theorem de_cmeth {m c : Str} {es : List Expr} {kws : List Keyword} {as bs : CEs} {sel : List Sel} {C f : Addr} {fd : FuncData} {ps ks : List Str} {k n : Nat} {fm : FM} {pl : Sem Bool}
    (G : CmethG X T c m C f fd ps k fm) (hr : Sur k X.A) (hb : BindG X.K X.mg fd ps (n + 1) ks (selS sel)) (ao : ArgsOk X pos es as) (ko : KwsOk X pos ks kws bs) (ln : as.len = n) (lk : bs.len = ks.length) (hg : Gl X c) (hdb : (c == ("__debug__" : Str)) = false) (ha : DEs X W T es as) (hkw : DK X W T kws bs)
    (ht : eval (.Call (.Attribute (.Name c p) m apos) es kws pos) X.env = (do
      let ov ← eval (.Name c p) X.env
      standAt apos.atName
      let (f, first) ← holding [ov] (getMethod ov m pl)
      callWith pos f first (backTo pos (starEach es X.env)) (backToKw pos (keywordEach kws X.env)))) : DE X W T (.Call (.Attribute (.Name c p) m apos) es kws pos) (.cmeth c m as bs sel) := by
  refine ⟨fun pins s σ H Q I ⟨μ, M, env, rm, rs, h⟩ => ?_⟩
  obtain ⟨mc, pp, rd, cm⟩ := G.rd
  obtain ⟨ct, tc, tm⟩ := G.tab
  have h : Wants X.K X.mg W (RepV X.K X.mg) (bnd (evEs T as env) (fun vs => bnd (evEs T bs env) fun us => bnd (opt (selD (vs ++ us) sel)) fun ws => match T.cls c with
      | some k => optF (k.cmet m) (.glo c :: ws)
      | none => fail) M) μ H Q := h
  rw [tc] at h
  dsimp only at h
  refine PySem.W.methodCall_KW (pl := pl) (ld_glob I hg G.at_ ?_ hdb) ht
  refine ClX.getmethcm_ok I rd cm fun s2 I2 => ?_
  have z := call_wP (first := []) (P := PySem.W.MethP X.K s.heap.objs.size f (.ref C)) (Z := EP X ((s.heap.objs.size, PySem.W.methodObj (.ref f) (.ref C)) :: pins) σ Q) (g := fun l => bnd (opt (selD l sel)) fun ws => optF (ct.cmet m) (.glo c :: ws)) (PySem.W.keeps_M cm.fi) ao ko ha hkw I2 rm rs h fun s2 H2 us ws vs zs ds es μ2 M2 I3 r1 r2 l1 l2 le rm2 q1 q2 w => ?_
  · exact thn z fun _ _ y => ClX.unpinE y
  · obtain ⟨as', e, w⟩ := opt_w w
    refine ⟨⟨ClX.pin_at I3, I3.kIn⟩, wpAny_call (PySem.W.method_call (ClX.pin_at I3) ?_)⟩
    obtain ⟨rs', hbind, hsel⟩ := hb.to s2 (.ref C :: us) ws I3.kIn (by simp [l1, ln]) (l2.trans lk)
    have e2 : selD (D.glo c :: ds ++ es) (selS sel) = some (D.glo c :: as') := selD_selS e
    obtain ⟨rv, r3, q3⟩ := hsel (.ref C :: vs ++ zs) μ2 H2 _ _ (.cons rfl (r1.append r2)) (.cons (.glo G.at_ rfl) (q1.append q2)) e2
    exact codeAny_mono (G.fn.run X.A X.stack s2 H2 _ rs' rv (D.glo c :: as') μ2 M2 Q hr I3.env0 hbind r3 ((selD_length e2).trans hb.len) rm2 q3 (optF_w tm w)) (back_w I3)
/-! ### attributes -/
/-- what a class of the text makes of an attribute's name -/
def AttrC (X : Cx) (c : Str) (ct : ClsT) (f : Str) : Prop := ∀ C, X.mg c = some (.ref C) → L2.Cls X.K C ∧ (ct.prop f = none → ct.fld.contains f = true → L2.NoAttr X.K C f) ∧
  ∀ fm, ct.prop f = some fm → ∃ p g fd ps k, L2.PropOf X.K C f p g ∧ FnG X.prog X.w X.K X.mg X.base k g fd ps fm ∧ BindG X.K X.mg fd ps 1 [] [.arg 0] ∧ Sur (k + 1) X.A
def AttrOk (X : Cx) (T : Tab) (f : Str) : Prop := ∀ c ct, T.cls c = some ct → AttrC X c ct f
theorem getprop_w {a C pp g dx : Addr} {gs : List (Str × V)} {f : Str} {fd : FuncData} {ps : List Str} {k : Nat} {fm : FM} {pins : List (Addr × Obj)} {s : Shared} {Q : VK} {b : Bool} {μ : List Addr} {M : Mem} {d : D} (I : Inv X pins σ H s) (ea : H a = some (.ins C dx gs)) (c : L2.Cls X.K C) (hp : L2.PropOf X.K C f pp g)
    (F : FnG X.prog X.w X.K X.mg X.base k g fd ps fm) (hb : BindG X.K X.mg fd ps 1 [] [.arg 0]) (hr : Sur (k + 1) X.A) (rm : RepM X.K X.mg μ M H) (rv : RepV X.K X.mg μ H d (.ref a)) (h : Wants X.K X.mg W0 (RepV X.K X.mg) (fm [d] M) μ H Q) :
    wpAny (model X.prog X.w) X.A (getAttr (.ref a) f b) (EP X pins σ Q) X.xe s := by
  obtain ⟨mA, O, _, _, _, _⟩ := ins_get I.hok ea
  obtain ⟨od, J, _⟩ := O.look
  obtain ⟨rest, hrec⟩ := hp.rec_
  have I1 := I.tok (s.toks + 1)
  obtain ⟨rs, hbind, hsel⟩ := hb.to { s with toks := s.toks + 1 } [.ref a] [] I1.kIn rfl rfl
  obtain ⟨rw1, r3, q3⟩ := hsel [.ref a] μ H [d] [d] (.cons rfl .nil) (.cons rv .nil) rfl
  have known : (PySem.W.clsIn X.K C).isSome = true := by
    obtain ⟨cd, e, _⟩ := PySem.W.any_some c.hd
    rw [e]; rfl
  refine PySem.W.get_bind I.kIn J (PySem.W.plainGet_of (c.get f)).1 (PySem.W.findObj_data known hp.at_ hp.get hp.tak) (PySem.W.plainGet_of (c.get f)).2 (wpAny_call (PySem.W.prop_get (s := { s with toks := s.toks + 1 }) I.kIn hrec ?_))
  refine codeAny_mono (F.run X.A.in1 X.stack { s with toks := s.toks + 1 } H _ rs rw1 [d] μ M Q hr.in1 I1.env0.in1 hbind r3 hb.len rm q3 h) fun r s' hq => ?_
  match r, hq with
  | .ok (.ret u), hq =>
    obtain ⟨v, H', I3, rv3, q4⟩ := I1.after hq
    show wpAny _ _ (handedOut u) _ _ _
    rw [PySem.W.handedOut_of (handed_of rv3)]
    exact wpAny_pure ⟨v, H', I3, rv3, q4⟩
  | .ok .next, hq => exact False.elim hq
  | .ok .brk, hq => exact False.elim hq
  | .ok .cont, hq => exact False.elim hq
  | .error _, hq => exact False.elim hq
theorem de_attr {oe : Expr} {o : CE} {f : Str} (ho : DE X W T oe o) (G : AttrOk X T f) (hab : attributeBase oe f X.env (eval oe X.env) = eval oe X.env) : DE X W T (.Attribute oe f pos) (.attr o f) := by
  refine ⟨fun pins s σ H Q I ⟨μ, M, env, rm, rs, h⟩ => ?_⟩
  have h : Wants X.K X.mg W (RepV X.K X.mg) (bnd (evE T o env) (fun x => getAt T x f) M) μ H Q := h
  refine attr_of hab (thn (ho.run pins s σ H _ I (tD_bnd rm rs h (f := fun x env => getAt T x f) (Q' := fun v H1 => ∃ d μ1 M1, RepM X.K X.mg μ1 M1 H1 ∧ RepV X.K X.mg μ1 H1 d v ∧ Wants X.K X.mg W (RepV X.K X.mg) (getAt T d f M1) μ1 H1 Q) fun v H1 μ1 M1 d l1 rm1 rs1 rv w => ⟨d, μ1, M1, rm1, rv, w⟩)) fun u s1 ⟨v, H1, I1, r1, d, μ1, M1, rm1, rv, w⟩ => ?_)
  unfold getAt at w
  split at w
  · rename_i c fs hM
    split at w
    · rename_i ct hct
      obtain ⟨C, a, dx, gs, hC, ev, ea, rf⟩ := ins_any rm1 rv hM
      obtain ⟨cl, hno, hpr⟩ := G c ct hct C hC
      subst ev
      obtain rfl : u = Value.ref a := r1
      split at w
      · rename_i fm hfm
        obtain ⟨p, g, fd, ps, k, hp, F, hb, hr⟩ := hpr fm hfm
        exact getprop_w I1 ea cl hp F hb hr rm1 rv w.noErr
      · rename_i hnp
        obtain ⟨hf, w⟩ := w.iteN
        split at w
        · rename_i dd hdd
          obtain ⟨v, hv, rvv⟩ := rf.look.1 _ hdd
          exact getattr_ok I1 ea cl (hno hnp hf) hv fun u' s2 I2 ru => ⟨v, H1, I2, ru, w.some (Le.refl _ _) rm1 rvv⟩
        · exact w.none.elim
    · exact w.none.elim
  · exact w.none.elim
end
end DL
end
section
set_option Elab.async false
set_option linter.all false
set_option maxRecDepth 100000
set_option maxHeartbeats 2000000
/-! DL, part l: isinstance, targets, statements. -/
namespace DL
open PySem PySem.Spec PyProof.Rows L2
section
variable {α β : Type} {K : PySem.W.Frag} {mg : Str → Option Value} {W : XW}
theorem Wants.rel {rel rel' : List Addr → Hp → α → β → Prop} {x : Option (Except D α × Mem)} {μ : List Addr} {H : Hp} {Q : β → Hp → Prop} (h : Wants K mg W rel x μ H Q) (f : ∀ μ' H' a b, rel' μ' H' a b → rel μ' H' a b) : Wants K mg W rel' x μ H Q := by
  obtain ⟨r, M', e, k⟩ := h
  refine ⟨r, M', e, fun μ' H' l rm => ?_⟩
  have z := k μ' H' l rm
  cases r with
  | error er => exact z
  | ok a => exact fun b hb => z b (f _ _ _ _ hb)
theorem Wants.imp {rel : List Addr → Hp → α → β → Prop} {x : Option (Except D α × Mem)} {μ : List Addr} {H : Hp} {Q Q' : β → Hp → Prop} (h : Wants K mg W rel x μ H Q) (f : ∀ b H', Q b H' → Q' b H') : Wants K mg W rel x μ H Q' := by
  obtain ⟨r, M', e, k⟩ := h
  refine ⟨r, M', e, fun μ' H' l rm => ?_⟩
  have z := k μ' H' l rm
  cases r with
  | error er => exact z
  | ok a => exact fun b hb => f _ _ (z b hb)
theorem bnd_assoc {γ : Type} {m : R α} {f : α → R β} {g : β → R γ} : bnd (bnd m f) g = bnd m fun x => bnd (f x) g := by
  funext M
  unfold bnd
  cases m M with
  | none => rfl
  | some p => obtain ⟨r, M'⟩ := p; cases r <;> rfl
end
section
variable {X : Cx} {W : XW} {T : Tab} {pos p apos : Pos}
/-! ### isinstance -/
structure InsTy (K : PySem.W.Frag) (C : Addr) : Prop where
  cl : L2.Cls K C
  ha : PySem.W.findIn K (.ref C) "__class__" = some (some (.builtin "object.__class__"))
  hn : PySem.W.specialIn K (.builtin "object.__class__") "__get__" = some (some (.builtin "getset_descriptor.__get__"))
  htk : PySem.W.takesIn K (.builtin "object.__class__") = some true
  hm : PySem.W.mroIn K C (.type "object") = some true
/-- what isinstance says of the text's instances and of the built-in types -/
structure IsiB (X : Cx) (T : Tab) (n : String) : Prop where
  non : kitB "NoneType" n = some false
  bl : kitB "bool" n = some (n == "bool" || n == "int")
  int : kitB "int" n = some (n == "int")
  str : kitB "str" n = some (n == "str")
  tup : kitB "tuple" n = some (n == "tuple")
  lst : kitB "list" n = some (n == "list")
  ins : ∀ c ct, T.cls c = some ct → ∀ C, X.mg c = some (.ref C) → InsTy X.K C ∧ PySem.W.kitOne X.K (.ref C) (.type n) = some false
structure IsiC (X : Cx) (T : Tab) (c : Str) (C : Addr) : Prop where
  at_ : X.mg c = some (.ref C)
  tys : ∀ t ∈ ["NoneType", "bool", "int", "str", "tuple", "list"], PySem.W.kitOne X.K (.type t) (.ref C) = some false
  ins : ∀ c' ct, T.cls c' = some ct → ∀ C', X.mg c' = some (.ref C') → InsTy X.K C' ∧ PySem.W.kitOne X.K (.ref C') (.ref C) = some (decide (c' = c))
theorem tyx_ins {K : PySem.W.Frag} {H : Hp} {a C dx : Addr} {fs : List (Str × V)} (t : InsTy K C) (e : H a = some (.ins C dx fs)) : TyX K H (.ref a) (.ref C) := .base (.ins e t.cl t.ha t.hn t.htk t.hm)
theorem tyx_tup {K : PySem.W.Frag} {H : Hp} {a : Addr} {xs : List V} (h : SqT K H a xs) : TyX K H (.ref a) (.type "tuple") := by
  rcases h with (h | ⟨o, h⟩) | ⟨o, its, n, h1, h2, _⟩
  · exact .base (.tup h)
  · exact .fTuple h
  · exact .kTuple h1 h2
theorem tyx_scr {K : PySem.W.Frag} {H : Hp} {a : Addr} {xs : List V} (h : FrL K H a xs) : TyX K H (.ref a) (.type "list") := by
  rcases h with ⟨o, h⟩ | ⟨o, its, n, h1, h2, _⟩
  · exact .base (.frz h)
  · exact .kList h1 h2
theorem isi_tyB {n : String} {μ : List Addr} {M : Mem} {H : Hp} {d : D} {v : V} {b : Bool} (G : IsiB X T n) (rm : RepM X.K X.mg μ M H) (rv : RepV X.K X.mg μ H d v) (ho : insOk T M d = true) (hi : isInst M d n = some b) : ∃ t, TyX X.K H v t ∧ PySem.W.kitOne X.K t (.type n) = some b := by
  cases rv with
  | non => cases hi; exact ⟨_, .base .non, kit_ty G.non⟩
  | bl x => cases hi; exact ⟨_, .base (.bl x), kit_ty G.bl⟩
  | int x => cases hi; exact ⟨_, .base (.int x), kit_ty G.int⟩
  | str x => cases hi; exact ⟨_, .base (.str x), kit_ty G.str⟩
  | tup h r => cases hi; exact ⟨_, tyx_tup (SqT.of h), kit_ty G.tup⟩
  | scr h r => cases hi; exact ⟨_, tyx_scr h, kit_ty G.lst⟩
  | fl h _ r => cases hi; exact ⟨_, .base (.lst h), kit_ty G.lst⟩
  | pt h _ r => cases hi; exact ⟨_, tyx_tup (.inl (.inr ⟨_, h⟩)), kit_ty G.tup⟩
  | @ref k a hk =>
    have hi : (match M[k]? with | some (.lst _) => some (n == "list") | some (.ins _ _) => some false | some (.dct _ _) => none | none => none) = some b := hi
    split at hi
    · rename_i ds hm
      cases hi
      obtain ⟨vs, h1, _⟩ := rm.obj _ _ _ hk hm
      exact ⟨_, .base (.lst h1), kit_ty G.lst⟩
    · rename_i c fs hm
      cases hi
      have ho : (match insAny M (.ref k) with | some (c, _) => (T.cls c).isSome | none => notDct M (.ref k)) = true := ho
      unfold insAny at ho
      dsimp only at ho
      rw [hm] at ho
      obtain ⟨ct, hct⟩ := Option.isSome_iff_exists.mp ho
      obtain ⟨C, dx, gs, hC, h1, _⟩ := rm.obj _ _ _ hk hm
      obtain ⟨t, k1⟩ := G.ins c ct hct C hC
      exact ⟨_, tyx_ins t h1, k1⟩
    · cases hi
    · cases hi
  | glo _ _ => cases hi
  | bty _ => cases hi
  | ob hC h1 _ _ _ =>
    cases hi
    obtain ⟨ct, hct⟩ := Option.isSome_iff_exists.mp ho
    obtain ⟨t, k1⟩ := G.ins _ ct hct _ hC
    exact ⟨_, tyx_ins t h1, k1⟩
theorem isi_tyC {c : Str} {C : Addr} {μ : List Addr} {M : Mem} {H : Hp} {d : D} {v : V} {b : Bool} (G : IsiC X T c C) (rm : RepM X.K X.mg μ M H) (rv : RepV X.K X.mg μ H d v) (ho : insOk T M d = true) (hi : isCls M d c = some b) : ∃ t, TyX X.K H v t ∧ PySem.W.kitOne X.K t (.ref C) = some b := by
  cases rv with
  | non => cases hi; exact ⟨_, .base .non, G.tys _ (by decide)⟩
  | bl x => cases hi; exact ⟨_, .base (.bl x), G.tys _ (by decide)⟩
  | int x => cases hi; exact ⟨_, .base (.int x), G.tys _ (by decide)⟩
  | str x => cases hi; exact ⟨_, .base (.str x), G.tys _ (by decide)⟩
  | tup h r => cases hi; exact ⟨_, tyx_tup (SqT.of h), G.tys _ (by decide)⟩
  | scr h r => cases hi; exact ⟨_, tyx_scr h, G.tys _ (by decide)⟩
  | fl h _ r => cases hi; exact ⟨_, .base (.lst h), G.tys _ (by decide)⟩
  | pt h _ r => cases hi; exact ⟨_, tyx_tup (.inl (.inr ⟨_, h⟩)), G.tys _ (by decide)⟩
  | @ref k a hk =>
    have hi : (match M[k]? with | some (.lst _) => some false | some (.ins c' _) => some (decide (c' = c)) | some (.dct _ _) => none | none => none) = some b := hi
    have ho : (match insAny M (.ref k) with | some (c, _) => (T.cls c).isSome | none => notDct M (.ref k)) = true := ho
    unfold insAny at ho
    dsimp only at ho
    split at hi
    · rename_i ds hm
      cases hi
      obtain ⟨vs, h1, _⟩ := rm.obj _ _ _ hk hm
      exact ⟨_, .base (.lst h1), G.tys _ (by decide)⟩
    · rename_i c' fs hm
      cases hi
      rw [hm] at ho
      obtain ⟨ct, hct⟩ := Option.isSome_iff_exists.mp ho
      obtain ⟨C', dx, gs, hC, h1, _⟩ := rm.obj _ _ _ hk hm
      obtain ⟨t, k1⟩ := G.ins c' ct hct C' hC
      exact ⟨_, tyx_ins t h1, k1⟩
    · cases hi
    · cases hi
  | glo _ _ => cases hi
  | bty _ => cases hi
  | ob hC h1 _ _ _ =>
    cases hi
    obtain ⟨ct, hct⟩ := Option.isSome_iff_exists.mp ho
    obtain ⟨t, k1⟩ := G.ins _ ct hct _ hC
    exact ⟨_, tyx_ins t h1, k1⟩
theorem isiD_w {α β : Type} {rel : List Addr → Hp → α → β → Prop} {c d : D} {f : Bool → R α} {M : Mem} {μ : List Addr} {H : Hp} {Q : β → Hp → Prop} (h : Wants X.K X.mg W rel (bnd (isiD T d c) f M) μ H Q) :
    ∃ b, insOk T M d = true ∧ isAny M d c = some b ∧ Wants X.K X.mg W rel (f b M) μ H Q := by
  obtain ⟨r, M', e, k⟩ := h
  rcases bnd_some e with ⟨z, hi, e⟩ | ⟨t, M1, hi, e⟩
  · exfalso
    unfold isiD at hi
    split at hi
    · split at hi <;> cases hi
    · cases hi
  · unfold isiD at hi
    split at hi
    · rename_i ho
      split at hi
      · rename_i b hb
        cases hi
        exact ⟨_, ho, hb, r, M', e, k⟩
      · cases hi
    · cases hi
theorem de_isiB {ae ce : Expr} {a : CE} {n : String} (hg : Gl X "isinstance") (hm : X.mg "isinstance" = none) (G : IsiB X T n) (ha : DE X W T ae a) (hc : PE X ce (tC (.ty n)))
    (hs2 : starEach [ae, ce] X.env = (false, eval ae X.env) :: starEach [ce] X.env) (hs : starEach [ce] X.env = (false, eval ce X.env) :: starEach [] X.env) (hpl : (backTo pos (starEach [ce] X.env)).any (·.1) = false) :
    DE X W T (.Call (.Name "isinstance" p) [ae, ce] [] pos) (.isi a (.bty n)) :=
  pe_imp (pe_callB call_isi hg hm (by decide +kernel) (pa_cons ha (pa_cons hc pa_nil hs) hs2) (by decide +kernel) (by decide +kernel) hs2 hpl) fun σ H Q ⟨μ, M, env, rm, rs, h⟩ =>
    tD_bnd rm rs h (f := fun x env => bnd (isiD T x (.bty n)) fun b => ret (D.bl b)) fun v H1 μ1 M1 d l1 rm1 rs1 rv w => by
      have w : Wants X.K X.mg W (RepV X.K X.mg) (bnd (isiD T d (.bty n)) (fun b => ret (D.bl b)) M1) μ1 H1 Q := w
      obtain ⟨b, ho, hb, w⟩ := isiD_w w
      obtain ⟨t, h1, h2⟩ := isi_tyB G rm1 rv ho hb
      exact ⟨v, .ty n, t, _, b, rfl, .ty n, h1, h2, Wants.ret (a := D.bl b) w rm1 (RepV.bl b)⟩
theorem de_isiC {ae ce : Expr} {a : CE} {c : Str} {C : Addr} (hg : Gl X "isinstance") (hm : X.mg "isinstance" = none) (G : IsiC X T c C) (ha : DE X W T ae a) (hc : PE X ce (tC (.ref C)))
    (hs2 : starEach [ae, ce] X.env = (false, eval ae X.env) :: starEach [ce] X.env) (hs : starEach [ce] X.env = (false, eval ce X.env) :: starEach [] X.env) (hpl : (backTo pos (starEach [ce] X.env)).any (·.1) = false) :
    DE X W T (.Call (.Name "isinstance" p) [ae, ce] [] pos) (.isi a (.glo c)) :=
  pe_imp (pe_callB call_isi hg hm (by decide +kernel) (pa_cons ha (pa_cons hc pa_nil hs) hs2) (by decide +kernel) (by decide +kernel) hs2 hpl) fun σ H Q ⟨μ, M, env, rm, rs, h⟩ =>
    tD_bnd rm rs h (f := fun x env => bnd (isiD T x (.glo c)) fun b => ret (D.bl b)) fun v H1 μ1 M1 d l1 rm1 rs1 rv w => by
      have w : Wants X.K X.mg W (RepV X.K X.mg) (bnd (isiD T d (.glo c)) (fun b => ret (D.bl b)) M1) μ1 H1 Q := w
      obtain ⟨b, ho, hb, w⟩ := isiD_w w
      obtain ⟨t, h1, h2⟩ := isi_tyC G rm1 rv ho hb
      exact ⟨v, .ref C, t, _, b, rfl, .own C, h1, h2, Wants.ret (a := D.bl b) w rm1 (RepV.bl b)⟩
/-! ### targets -/
def relG (K : PySem.W.Frag) (mg : Str → Option Value) (ns : List Nat) (σ : L2.St) (μ : List Addr) (H : Hp) (env2 : Env) (σ2 : L2.St) : Prop := RepS K mg μ H env2 σ2 ∧ σ2.length = σ.length ∧ ∀ i, i ∉ ns → σ2[i]? = σ[i]?
def tGD (K : PySem.W.Frag) (mg : Str → Option Value) (W : XW) (ns : List Nat) (m : D → Env → R Env) : TG := fun v σ H Q => ∃ μ M d env, RepM K mg μ M H ∧ RepS K mg μ H env σ ∧ RepV K mg μ H d v ∧ Wants K mg W (relG K mg ns σ) (m d env M) μ H Q
def tGsD (K : PySem.W.Frag) (mg : Str → Option Value) (W : XW) (ns : List Nat) (m : List D → Env → R Env) : TGs := fun vs σ H Q => ∃ μ M ds env, RepM K mg μ M H ∧ RepS K mg μ H env σ ∧ RepVs K mg μ H ds vs ∧ Wants K mg W (relG K mg ns σ) (m ds env M) μ H Q
abbrev DG (X : Cx) (W : XW) (T : Tab) (ns : List Nat) (e : Expr) (c : CG) : Prop := PG X e (tGD X.K X.mg W ns (evG T c))
abbrev DGs (X : Cx) (W : XW) (T : Tab) (ns : List Nat) (e : List Expr) (c : CGs) : Prop := PGs X e (tGsD X.K X.mg W ns (evGs T c))
theorem pg_imp {e : Expr} {t t' : TG} (h : PG X e t) (i : ∀ v σ H Q, t' v σ H Q → t v σ H Q) : PG X e t' := ⟨fun pins s σ H v u Q I r q => h.run pins s σ H v u Q I r (i v σ H Q q)⟩
theorem pgs_imp {e : List Expr} {t t' : TGs} (h : PGs X e t) (i : ∀ v σ H Q, t' v σ H Q → t v σ H Q) : PGs X e t' := ⟨fun pins s σ H v u Q I r q => h.run pins s σ H v u Q I r (i v σ H Q q)⟩
theorem dg_nm {i : Nat} {x : Str} (hN : X.N.Nodup) (hi : X.N[i]? = some x) (hx : Loc X.env.scope x) (hf : X.fn x = true ∨ X.env.scope.names.lookup x = some .local) : DG X W T [i] (.Name x pos) (.nm i) :=
  pg_imp (pg_name hN hi hx hf) fun v σ H Q ⟨μ, M, d, env, rm, rs, rv, h⟩ => by
    have h : Wants X.K X.mg W (relG X.K X.mg [i] σ) (ret (env.set i (some d)) M) μ H Q := h
    exact Wants.ret (a := env.set i (some d)) (b := σ.set i (some v)) h rm ⟨rs.set i rv, by rw [List.length_set], fun j hj => by
      rw [List.getElem?_set_ne (by intro e; exact hj (by rw [e]; exact List.mem_singleton.mpr rfl))]⟩
theorem dgs_nil : DGs X W T [] [] .nil :=
  pgs_imp pgs_nil fun v σ H Q ⟨μ, M, ds, env, rm, rs, rv, h⟩ => by
    have h : Wants X.K X.mg W (relG X.K X.mg [] σ) ((if ds.isEmpty = true then ret env else fail) M) μ H Q := h
    obtain ⟨hc, h⟩ := ifT h
    have hc : ds = [] := by simpa using hc
    subst hc
    cases rv
    exact ⟨rfl, Wants.ret (a := env) (b := σ) h rm ⟨rs, rfl, fun _ _ => rfl⟩⟩
theorem dgs_cons {e : Expr} {es : List Expr} {g : CG} {gs : CGs} {n1 n2 : List Nat} (h1 : DG X W T n1 e g) (h2 : DGs X W T n2 es gs) (hs : (assignEach (e :: es) X.env).map (·.2) = assign e X.env :: (assignEach es X.env).map (·.2)) : DGs X W T (n1 ++ n2) (e :: es) (.cons g gs) :=
  pgs_imp (pgs_cons h1 h2 hs) fun v σ H Q ⟨μ, M, ds, env, rm, rs, rv, h⟩ => by
    cases rv with
    | nil => exact absurd (show Wants X.K X.mg W (relG X.K X.mg (n1 ++ n2) σ) (fail M) μ H Q from h) fun z => z.fail
    | @cons d v ds vs r rr =>
      have h : Wants X.K X.mg W (relG X.K X.mg (n1 ++ n2) σ) (bnd (evG T g d env) (fun env2 => evGs T gs ds env2) M) μ H Q := h
      refine ⟨v, vs, rfl, μ, M, d, env, rm, rs, r, ?_⟩
      have z := h.bnd (rel1 := relG X.K X.mg n1 σ)
      obtain ⟨rr', M', e1, k⟩ := z
      refine ⟨rr', M', e1, fun μ' H' l rm' => ?_⟩
      have k' := k μ' H' l rm'
      cases rr' with
      | error er => exact k'
      | ok a =>
        intro σ1 h1
        obtain ⟨μ1, M1, a1, l1, rm1, g1, w⟩ := k' σ1 h1
        refine ⟨μ1, M1, ds, a1, rm1, g1.1, rr.up l1 rm, w.rel fun μ' H' a b hb => ⟨hb.1, hb.2.1.trans g1.2.1, fun i hi => ?_⟩⟩
        rw [hb.2.2 i (fun z => hi (List.mem_append_right _ z)), g1.2.2 i (fun z => hi (List.mem_append_left _ z))]
theorem dg_tup {es : List Expr} {k : Nat} {gs : CGs} {ns : List Nat} (hc : X.calm = true) (h : DGs X W T ns es gs) (hn : (assignEach es X.env).length = gs.len) (hst : (assignEach es X.env).findIdx? (·.1) = none) : DG X W T ns (.Tuple es k pos) (.tup gs) :=
  pg_imp (pg_tup hc h hn hst) fun v σ H Q ⟨μ, M, d, env, rm, rs, rv, h⟩ => by
    cases rv with
    | @tup a vs ds hq r =>
      have h : Wants X.K X.mg W (relG X.K X.mg ns σ) ((if ds.length = gs.len then evGs T gs ds env else fail) M) μ H Q := h
      obtain ⟨hl, h⟩ := ifT h
      exact ⟨a, vs, rfl, SqT.of hq, by rw [← r.length]; exact hl, μ, M, ds, env, rm, rs, r, h⟩
    | _ => exact absurd (show Wants X.K X.mg W (relG X.K X.mg ns σ) (fail M) μ H Q from h) fun z => z.fail
theorem dg_sub {oe ie : Expr} {o i : CE} (ho : DE X W T oe o) (hi : DE X W T ie i)
    (ha : ∀ v, assign (.Subscript oe ie pos) X.env v = (do
      let ov ← holding [v] (eval oe X.env)
      let iv ← holding [v, ov] (eval ie X.env)
      standAt pos
      holding [v, ov, iv] (setItem ov iv v)
      release [v, ov, iv] [])) : DG X W T [] (.Subscript oe ie pos) (.sub o i) :=
  pg_imp (pg_sub ho hi set_list ha) fun v σ H Q ⟨μ, M, d, env, rm, rs, rv, h⟩ =>
    tD_bnd rm rs h (f := fun x env => bnd (evE T i env) fun y => bnd (setIx x y d) fun _ => ret env) fun v1 H1 μ1 M1 d1 l1 rm1 rs1 rv1 w =>
      tD_bnd rm1 rs1 w (f := fun y env => bnd (setIx d1 y d) fun _ => ret env) fun v2 H2 μ2 M2 d2 l2 rm2 rs2 rv2 w2 => by
        have w2 := w2.bnd (rel1 := fun _ _ _ (_ : Unit) => True)
        have rv := (rv.up l1 rm).up l2 rm1
        have rv1 := rv1.up l2 rm1
        unfold setIx at w2
        split at w2
        · cases rv1 with | @ref _ a hn => ?_
          cases rv2 with | int kk => ?_
          split at w2
          · rename_i ds hM
            split at w2
            · rename_i j hj
              obtain ⟨vs, h1, rr⟩ := rm2.obj _ _ _ hn hM
              have hm := wr_of hn h1
              refine ⟨a, vs, _, j, rfl, rfl, h1, by rw [← rr.length]; exact hj, ?_⟩
              have rmw := rm2.write hm (o := .lst (vs.set j v)) (q := .lst (ds.set j d)) hn ⟨_, upd_same, (rr.up (Le.write hm) rm2).set (rv.up (Le.write hm) rm2) j⟩
              obtain ⟨μ3, M3, _, l3, rm3, _, w3⟩ := w2.some (Le.write hm) rmw (b := ()) trivial
              exact Wants.ret (a := env) (b := σ) w3 rm3 ⟨rs2.up l3 rm2, rfl, fun _ _ => rfl⟩
            · exact w2.none.elim
          · exact w2.none.elim
        · exact w2.none.elim
/-- attributes that may be stored -/
def SetOk (X : Cx) (T : Tab) (f : Str) : Prop := ∀ c ct, T.cls c = some ct → ct.fld.contains f = true → ∀ C, X.mg c = some (.ref C) → L2.Cls X.K C ∧ L2.NoAttr X.K C f
theorem repF_put {mg : Str → Option Value} {K : PySem.W.Frag} {μ : List Addr} {H : Hp} {f : Str} {d : D} {v : V} (r : RepV K mg μ H d v) : ∀ {fs : List (Str × D)} {gs : List (Str × V)}, RepF K mg μ H fs gs → RepF K mg μ H (DL.putF f d fs) (L2.putF f v gs)
  | _, _, .nil => .cons r .nil
  | _, _, @RepF.cons _ _ _ _ g d' v' ds vs h q => by
    show RepF K mg μ H (if g = f then (g, d) :: ds else (g, d') :: DL.putF f d ds) (if g = f then (g, v) :: vs else (g, v') :: L2.putF f v vs)
    by_cases e : g = f
    · rw [if_pos e, if_pos e]; exact .cons r q
    · rw [if_neg e, if_neg e]; exact .cons h (repF_put r q)
theorem repF_len {mg : Str → Option Value} {K : PySem.W.Frag} {μ : List Addr} {H : Hp} : ∀ {fs : List (Str × D)} {gs : List (Str × V)}, RepF K mg μ H fs gs → fs.length = gs.length
  | _, _, .nil => rfl
  | _, _, .cons _ q => congrArg Nat.succ (repF_len q)
theorem dg_att {oe : Expr} {o : CE} {f : Str} (ho : DE X W T oe o) (G : SetOk X T f) : DG X W T [] (.Attribute oe f pos) (.att o f) := by
  refine ⟨fun pins s σ H v u Q I r ⟨μ, M, d, env, rm, rs, rv, h⟩ => ?_⟩
  have ea : assign (.Attribute oe f pos) X.env u = (do
    let ov ← holding [u] (eval oe X.env)
    standAt pos.atName
    holding [u, ov] (setAttr ov f u)
    release [u, ov] []) := by rw [assign]
  rw [ea]
  have h : Wants X.K X.mg W (relG X.K X.mg [] σ) (bnd (evE T o env) (fun x => bnd (setAt T x f d) fun _ => ret env) M) μ H Q := h
  refine wpAny_bind (wpAny_holding (thn (ho.run pins s σ H _ I (tD_bnd rm rs h (f := fun x env => bnd (setAt T x f d) fun _ => ret env) (Q' := fun v1 H1 => ∃ d1 μ1 M1, Le μ H μ1 H1 ∧ RepM X.K X.mg μ1 M1 H1 ∧ RepS X.K X.mg μ1 H1 env σ ∧ RepV X.K X.mg μ1 H1 d1 v1 ∧ Wants X.K X.mg W (relG X.K X.mg [] σ) (bnd (setAt T d1 f d) (fun _ => ret env) M1) μ1 H1 Q)
    fun v1 H1 μ1 M1 d1 l1 rm1 rs1 rv1 w => ⟨d1, μ1, M1, l1, rm1, rs1, rv1, w⟩)) fun ov s1 ⟨v1, H1, I1, r1, d1, μ1, M1, l1, rm1, rs1, rv1, w⟩ => ?_))
  refine wpAny_bind (wpAny_standAt (wpAny_bind (wpAny_holding ?_)))
  have w := w.bnd (rel1 := fun _ _ _ (_ : Unit) => True)
  have rv := rv.up l1 rm
  unfold setAt at w
  split at w
  · rename_i n
    cases rv1 with | @ref _ a hn => ?_
    split at w
    · rename_i c fs hM
      split at w
      · rename_i ct hct
        obtain ⟨⟨hf, hl⟩, w⟩ := w.iteN
        obtain ⟨C, dx, gs, hC, h1, rf⟩ := rm1.obj _ _ _ hn hM
        obtain ⟨cl, na⟩ := G c ct hct hf C hC
        obtain rfl : ov = Value.ref a := r1
        have hm := wr_of hn h1
        refine setattr_ok I1 h1 cl na (by rw [← repF_len rf]; exact hl) r fun s2 I2 => wpAny_release ?_
        have rmw := rm1.write hm (o := .ins C dx (L2.putF f v gs)) (q := .ins c (DL.putF f d fs)) hn ⟨C, dx, _, hC, upd_same, repF_put (rv.up (Le.write hm) rm1) (rf.mono (Le.write hm) rm1.sto)⟩
        obtain ⟨μ3, M3, _, l3, rm3, _, w3⟩ := w.some (Le.write hm) rmw (b := ()) trivial
        exact ⟨σ, _, I2, Wants.ret (a := env) (b := σ) w3 rm3 ⟨rs1.up l3 rm1, rfl, fun _ _ => rfl⟩⟩
      · exact w.none.elim
    · exact w.none.elim
  · exact w.none.elim
end
end DL
end
section
set_option Elab.async false
set_option linter.all false
set_option maxRecDepth 100000
set_option maxHeartbeats 2000000
/-! DL, part m: statements, loops, comprehensions. -/
namespace DL
open PySem PySem.Spec PyProof.Rows L2
section
variable {α β : Type} {K : PySem.W.Frag} {mg : Str → Option Value} {W : XW}
theorem Wants.bndK {γ δ : Type} {rel1 : List Addr → Hp → α → β → Prop} {rel2 : List Addr → Hp → γ → δ → Prop} {m : R α} {f : α → R γ} {M : Mem} {μ : List Addr} {H : Hp} {Q : δ → Hp → Prop} {Q' : β → Hp → Prop} (h : Wants K mg W rel2 (DL.bnd m f M) μ H Q)
    (k : ∀ a b μ1 M1 H1, Le μ H μ1 H1 → RepM K mg μ1 M1 H1 → rel1 μ1 H1 a b → Wants K mg W rel2 (f a M1) μ1 H1 Q → Q' b H1) : Wants K mg W rel1 (m M) μ H Q' := by
  obtain ⟨r, M', e, q⟩ := h.bnd (rel1 := rel1)
  refine ⟨r, M', e, fun μ' H' l rm => ?_⟩
  have z := q μ' H' l rm
  cases r with
  | error er => exact z
  | ok a => exact fun b hb => let ⟨μ1, M1, a1, l1, rm1, r1, w⟩ := z b hb; k a1 b μ1 M1 H' l1 rm1 r1 w
end
inductive FlV where | nx (σ : L2.St) | rt (v : V) | bk (σ : L2.St) | ct (σ : L2.St)
def RepFl (K : PySem.W.Frag) (mg : Str → Option Value) (μ : List Addr) (H : Hp) : Fl → FlV → Prop
  | .nx e, .nx σ => RepS K mg μ H e σ
  | .rt d, .rt v => RepV K mg μ H d v
  | .bk e, .bk σ => RepS K mg μ H e σ
  | .ct e, .ct σ => RepS K mg μ H e σ
  | _, _ => False
def endQ (E : Ends) : FlV → Hp → Prop
  | .nx σ, H => E.nx σ H
  | .rt v, H => E.rt v H
  | .bk σ, H => E.bk σ H
  | .ct σ, H => E.ct σ H
def tSD (K : PySem.W.Frag) (mg : Str → Option Value) (W : XW) (m : Env → R Fl) : TS := fun E σ H => ∃ μ M env, RepM K mg μ M H ∧ RepS K mg μ H env σ ∧ Wants K mg W (RepFl K mg) (m env M) μ H (endQ E)
abbrev DS (X : Cx) (W : XW) (T : Tab) (s : Stmt) (c : CS) : Prop := PS X s (tSD X.K X.mg W (evS T c))
abbrev DSs (X : Cx) (W : XW) (T : Tab) (s : List Stmt) (c : CSs) : Prop := PSs X s (tSD X.K X.mg W (evSs T c))
section
variable {X : Cx} {W : XW} {T : Tab} {pos p : Pos}
theorem nx_w {E : Ends} {e : Env} {σ : L2.St} {M : Mem} {μ : List Addr} {H : Hp} (w : Wants X.K X.mg W (RepFl X.K X.mg) (ret (Fl.nx e) M) μ H (endQ E)) (rm : RepM X.K X.mg μ M H) (r : RepS X.K X.mg μ H e σ) : E.nx σ H := Wants.ret (a := Fl.nx e) (b := FlV.nx σ) w rm r
theorem ct_w {E : Ends} {e : Env} {σ : L2.St} {M : Mem} {μ : List Addr} {H : Hp} (w : Wants X.K X.mg W (RepFl X.K X.mg) (ret (Fl.ct e) M) μ H (endQ E)) (rm : RepM X.K X.mg μ M H) (r : RepS X.K X.mg μ H e σ) : E.ct σ H := Wants.ret (a := Fl.ct e) (b := FlV.ct σ) w rm r
theorem bk_w {E : Ends} {e : Env} {σ : L2.St} {M : Mem} {μ : List Addr} {H : Hp} (w : Wants X.K X.mg W (RepFl X.K X.mg) (ret (Fl.bk e) M) μ H (endQ E)) (rm : RepM X.K X.mg μ M H) (r : RepS X.K X.mg μ H e σ) : E.bk σ H := Wants.ret (a := Fl.bk e) (b := FlV.bk σ) w rm r
theorem rt_w {E : Ends} {d : D} {v : V} {M : Mem} {μ : List Addr} {H : Hp} (w : Wants X.K X.mg W (RepFl X.K X.mg) (ret (Fl.rt d) M) μ H (endQ E)) (rm : RepM X.K X.mg μ M H) (r : RepV X.K X.mg μ H d v) : E.rt v H := Wants.ret (a := Fl.rt d) (b := FlV.rt v) w rm r
theorem dss_nil : DSs X W T [] .nil := pss_imp pss_nil fun E σ H ⟨μ, M, env, rm, rs, h⟩ => nx_w h rm rs
theorem dss_cons {s : Stmt} {ss : List Stmt} {c : CS} {cs : CSs} (h1 : DS X W T s c) (h2 : DSs X W T ss cs) : DSs X W T (s :: ss) (.cons c cs) :=
  pss_imp (pss_cons h1 h2) fun E σ H ⟨μ, M, env, rm, rs, h⟩ => by
    refine ⟨μ, M, env, rm, rs, Wants.bndK h fun a b μ1 M1 H1 l1 rm1 r w => ?_⟩
    match a, b, r, w with
    | .nx e, .nx σ', r, w => exact ⟨μ1, M1, e, rm1, r, w⟩
    | .rt d, .rt v, r, w => exact rt_w (E := E) w rm1 r
    | .bk e, .bk σ', r, w => exact bk_w (E := E) w rm1 r
    | .ct e, .ct σ', r, w => exact ct_w (E := E) w rm1 r
theorem ds_pass : DS X W T (.Pass pos) .pass := ps_imp ps_pass fun E σ H ⟨μ, M, env, rm, rs, h⟩ => nx_w h rm rs
theorem ds_brk : DS X W T (.Break pos) .brk := ps_imp ps_break fun E σ H ⟨μ, M, env, rm, rs, h⟩ => bk_w h rm rs
theorem ds_cont : DS X W T (.Continue pos) .cont := ps_imp ps_continue fun E σ H ⟨μ, M, env, rm, rs, h⟩ => ct_w h rm rs
theorem ds_doc {x : Str} {j : Nat} {pos' : Pos} : DS X W T (.Expr (.Constant (.str x) j pos) pos') .pass := ps_imp ps_doc fun E σ H ⟨μ, M, env, rm, rs, h⟩ => nx_w h rm rs
theorem ds_stuck {s : Stmt} : DS X W T s .stuck := ps_imp ps_never fun E σ H ⟨μ, M, env, rm, rs, h⟩ => by
  have h : Wants X.K X.mg W (RepFl X.K X.mg) (fail M) μ H (endQ E) := h
  exact h.fail
theorem ds_ex {e : Expr} {c : CE} (he : DE X W T e c) (hs : swapsWith e none pos.line X.env = pure false) : DS X W T (.Expr e pos) (.ex c) :=
  ps_imp (ps_expr he hs) fun E σ H ⟨μ, M, env, rm, rs, h⟩ => tD_bnd rm rs h (f := fun _ env => ret (Fl.nx env)) fun v H1 μ1 M1 d l1 rm1 rs1 rv w => nx_w w rm1 rs1
theorem ds_rt {e : Expr} {c : CE} (he : DE X W T e c) : DS X W T (.Return (some e) pos) (.rt c) :=
  ps_imp (ps_ret he) fun E σ H ⟨μ, M, env, rm, rs, h⟩ => tD_bnd rm rs h (f := fun d _ => ret (Fl.rt d)) fun v H1 μ1 M1 d l1 rm1 rs1 rv w => rt_w w rm1 rv
theorem ds_rtN : DS X W T (.Return none pos) .rtN := ps_imp ps_retN fun E σ H ⟨μ, M, env, rm, rs, h⟩ => rt_w h rm .non
theorem ds_if {e : Expr} {a b : List Stmt} {t : CT} {ca cb : CSs} (ht : DT X W T e t) (ha : DSs X W T a ca) (hb : DSs X W T b cb) : DS X W T (.If e a b pos) (.cond t ca cb) :=
  ps_imp (ps_if ht ha hb) fun E σ H ⟨μ, M, env, rm, rs, h⟩ => tT_bnd rm rs h (f := fun k env => if k = true then evSs T ca env else evSs T cb env) fun k H1 μ1 M1 l1 rm1 rs1 w => by
    cases k with
    | true => exact ⟨μ1, M1, env, rm1, rs1, w⟩
    | false => exact ⟨μ1, M1, env, rm1, rs1, w⟩
theorem ds_asg {tg e : Expr} {g : CG} {c : CE} {ns : List Nat} (he : DE X W T e c) (hg : DG X W T ns tg g) (hs : swapsWithSole [tg] e pos.line X.env = pure false) (hw : swappedStores [tg] e X.env = pure none)
    (h1 : (assignEach [tg] X.env).map (·.2) = [assign tg X.env]) : DS X W T (.Assign [tg] e pos) (.asg g c) :=
  ps_imp (ps_asg he hg hs hw h1) fun E σ H ⟨μ, M, env, rm, rs, h⟩ => tD_bnd rm rs h (f := fun d env => bnd (evG T g d env) fun env2 => ret (Fl.nx env2)) fun v H1 μ1 M1 d l1 rm1 rs1 rv w =>
    ⟨μ1, M1, d, env, rm1, rs1, rv, w.bndK fun a b μ2 M2 H2 l2 rm2 r w => nx_w w rm2 r.1⟩
/-- a, b = x, y of plain local names -/
theorem ds_par {i j : Nat} {x y : Str} {a b : Expr} {as : CEs} {px py pt : Pos} {kt k2 pt2} (hc : X.calm = true) (hN : X.N.Nodup) (hi : X.N[i]? = some x) (hj : X.N[j]? = some y) (hij : i ≠ j)
    (hx : X.env.scope.names.lookup x = some .local) (hy : X.env.scope.names.lookup y = some .local) (ha : DEs X W T [a, b] as)
    (hw : swappedStores [.Tuple [.Name x px, .Name y py] kt pt] (.Tuple [a, b] k2 pt2) X.env = pure (some [x, y]))
    (hs : swapsWithSole [.Tuple [.Name x px, .Name y py] kt pt] (.Tuple [a, b] k2 pt2) pos.line X.env = pure false) :
    DS X W T (.Assign [.Tuple [.Name x px, .Name y py] kt pt] (.Tuple [a, b] k2 pt2) pos) (.asg (.tup (.cons (.nm i) (.cons (.nm j) .nil))) (.tup as)) :=
  ps_imp (ps_par hc hN hi hj hij hx hy ha hw hs) fun E σ H ⟨μ, M, env, rm, rs, h⟩ => by
    have h : Wants X.K X.mg W (RepFl X.K X.mg) (bnd (bnd (evEs T as env) tupD) (fun d => bnd (evG T (.tup (.cons (.nm i) (.cons (.nm j) .nil))) d env) fun env2 => ret (Fl.nx env2)) M) μ H (endQ E) := h
    rw [bnd_assoc] at h
    refine tA_bnd rm rs h (f := fun ds env => bnd (tupD ds) fun d => bnd (evG T (.tup (.cons (.nm i) (.cons (.nm j) .nil))) d env) fun env2 => ret (Fl.nx env2)) fun vs H1 μ1 M1 ds l1 rm1 rs1 rvs w => ?_
    unfold tupD at w
    by_cases hz : ds.length ≤ sizeLine
    · rw [if_pos hz] at w
      have w : Wants X.K X.mg W (RepFl X.K X.mg) (bnd (if ds.length = 2 then evGs T (.cons (.nm i) (.cons (.nm j) .nil)) ds env else fail) (fun env2 => ret (Fl.nx env2)) M1) μ1 H1 (endQ E) := w
      by_cases hl : ds.length = 2
      · rw [if_pos hl] at w
        match ds, rvs, hl, w with
        | [d1, d2], .cons r1 (.cons r2 .nil), _, w =>
          exact ⟨_, _, rfl, nx_w w rm1 ((rs1.set i r1).set j r2)⟩
      · rw [if_neg hl] at w
        obtain ⟨_, _, z, _⟩ := w
        cases z
    · rw [if_neg hz] at w
      obtain ⟨_, _, z, _⟩ := w
      cases z
theorem ds_par3 {i j l : Nat} {x y z : Str} {a b c : Expr} {as : CEs} {px py pz pt : Pos} {kt k2 pt2} (hc : X.calm = true) (hN : X.N.Nodup) (hi : X.N[i]? = some x) (hj : X.N[j]? = some y) (hl : X.N[l]? = some z) (hij : i ≠ j) (hil : i ≠ l) (hjl : j ≠ l)
    (hx : X.env.scope.names.lookup x = some .local) (hy : X.env.scope.names.lookup y = some .local) (hz : X.env.scope.names.lookup z = some .local) (ha : DEs X W T [a, b, c] as)
    (hw : swappedStores [.Tuple [.Name x px, .Name y py, .Name z pz] kt pt] (.Tuple [a, b, c] k2 pt2) X.env = pure (some [x, y, z]))
    (hs : swapsWithSole [.Tuple [.Name x px, .Name y py, .Name z pz] kt pt] (.Tuple [a, b, c] k2 pt2) pos.line X.env = pure false) :
    DS X W T (.Assign [.Tuple [.Name x px, .Name y py, .Name z pz] kt pt] (.Tuple [a, b, c] k2 pt2) pos) (.asg (.tup (.cons (.nm i) (.cons (.nm j) (.cons (.nm l) .nil)))) (.tup as)) :=
  ps_imp (ps_par3 hc hN hi hj hl hij hil hjl hx hy hz ha hw hs) fun E σ H ⟨μ, M, env, rm, rs, h⟩ => by
    have h : Wants X.K X.mg W (RepFl X.K X.mg) (bnd (bnd (evEs T as env) tupD) (fun d => bnd (evG T (.tup (.cons (.nm i) (.cons (.nm j) (.cons (.nm l) .nil)))) d env) fun env2 => ret (Fl.nx env2)) M) μ H (endQ E) := h
    rw [bnd_assoc] at h
    refine tA_bnd rm rs h (f := fun ds env => bnd (tupD ds) fun d => bnd (evG T (.tup (.cons (.nm i) (.cons (.nm j) (.cons (.nm l) .nil)))) d env) fun env2 => ret (Fl.nx env2)) fun vs H1 μ1 M1 ds l1 rm1 rs1 rvs w => ?_
    unfold tupD at w
    by_cases hz : ds.length ≤ sizeLine
    · rw [if_pos hz] at w
      have w : Wants X.K X.mg W (RepFl X.K X.mg) (bnd (if ds.length = 3 then evGs T (.cons (.nm i) (.cons (.nm j) (.cons (.nm l) .nil))) ds env else fail) (fun env2 => ret (Fl.nx env2)) M1) μ1 H1 (endQ E) := w
      by_cases hl : ds.length = 3
      · rw [if_pos hl] at w
        match ds, rvs, hl, w with
        | [d1, d2, d3], .cons r1 (.cons r2 (.cons r3 .nil)), _, w =>
          exact ⟨_, _, _, rfl, nx_w w rm1 (((rs1.set i r1).set j r2).set l r3)⟩
      · rw [if_neg hl] at w
        obtain ⟨_, _, z, _⟩ := w
        cases z
    · rw [if_neg hz] at w
      obtain ⟨_, _, z, _⟩ := w
      cases z
/-! ### while -/
theorem ds_while {e : Expr} {b : List Stmt} {t : CT} {cb : CSs} (hp : PassesOwn (model X.prog X.w) X.A X.env X.xe) (ht : DT X W T e t) (hb : DSs X W T b cb) : DS X W T (.While e b [] pos) (.whileS t cb) :=
  ps_imp (ps_while hp ht hb) fun E σ H ⟨μ, M, env, rm, rs, h⟩ => by
    refine ⟨fun n σ H => ∃ μ M env, RepM X.K X.mg μ M H ∧ RepS X.K X.mg μ H env σ ∧ Wants X.K X.mg W (RepFl X.K X.mg) (whileL (evT T t) (evSs T cb) n env M) μ H (endQ E), ⟨T.fuel, μ, M, env, rm, rs, h⟩, ?_⟩
    rintro n σ H ⟨μ, M, env, rm, rs, h⟩
    match n, h with
    | 0, h => exact (show False from Wants.fail (M := M) (rel := RepFl X.K X.mg) h).elim
    | n + 1, h =>
      refine tT_bnd rm rs h (f := fun k env => if k = true then bnd (evSs T cb env) fun f => match f with
        | .nx e => whileL (evT T t) (evSs T cb) n e
        | .ct e => whileL (evT T t) (evSs T cb) n e
        | .bk e => ret (.nx e)
        | .rt d => ret (.rt d)
      else ret (.nx env)) fun k H1 μ1 M1 l1 rm1 rs1 w => ?_
      cases k with
      | false => exact nx_w (E := E) w rm1 rs1
      | true =>
        refine ⟨fun σ H => ∃ μ M env, RepM X.K X.mg μ M H ∧ RepS X.K X.mg μ H env σ ∧ Wants X.K X.mg W (RepFl X.K X.mg) (whileL (evT T t) (evSs T cb) n env M) μ H (endQ E), fun σ' H' q => ⟨n, Nat.lt_succ_self _, q⟩, μ1, M1, env, rm1, rs1, Wants.bndK w fun a b μ2 M2 H2 l2 rm2 r w => ?_⟩
        match a, b, r, w with
        | .nx e, .nx σ', r, w => exact ⟨μ2, M2, e, rm2, r, w⟩
        | .ct e, .ct σ', r, w => exact ⟨μ2, M2, e, rm2, r, w⟩
        | .bk e, .bk σ', r, w => exact nx_w (E := E) w rm2 r
        | .rt d, .rt v, r, w => exact rt_w (E := E) w rm2 r
/-! ### what is walked -/
def WalkOk (K : PySem.W.Frag) (mg : Str → Option Value) (J : It) (g : Option (Nat × List D)) (ds : List D) (μ0 : List Addr) (H0 : Hp) : Prop := ∀ μ M H, Le μ0 H0 μ H → RepM K mg μ M H → chk g M = some (.ok (), M) →
  (∀ i, ds.length = i → J.stop i H) ∧ ∀ i d, ds[i]? = some d → J.go i H ∧ ∀ x H', J.yld i H x H' → Le μ H μ H' ∧ RepM K mg μ M H' ∧ RepV K mg μ H' d x
def relI (K : PySem.W.Frag) (mg : Str → Option Value) (μ : List Addr) (H : Hp) (q : List D × Option (Nat × List D)) (J : It) : Prop := WalkOk K mg J q.2 q.1 μ H
def tID (K : PySem.W.Frag) (mg : Str → Option Value) (W : XW) (m : Env → R (List D × Option (Nat × List D))) : TI := fun σ H R => ∃ μ M env, RepM K mg μ M H ∧ RepS K mg μ H env σ ∧ Wants K mg W (relI K mg) (m env M) μ H R
abbrev DI (X : Cx) (W : XW) (T : Tab) (tg e : Expr) (c : CI) : Prop := PI X tg e (tID X.K X.mg W (evI T c))
theorem pi_imp {tg e : Expr} {t t' : TI} (h : PI X tg e t) (i : ∀ σ H R, t' σ H R → t σ H R) : PI X tg e t' := ⟨fun pins s σ H R I q => h.run pins s σ H R I (i σ H R q)⟩
theorem pi_or {tg e : Expr} {t t' : TI} (h : PI X tg e t) (h' : PI X tg e t') : PI X tg e (fun σ H R => t σ H R ∨ t' σ H R) := ⟨fun pins s σ H R I q => q.elim (h.run pins s σ H R I) (h'.run pins s σ H R I)⟩
theorem chk_w {α β : Type} {rel : List Addr → Hp → α → β → Prop} {g : Option (Nat × List D)} {f : Unit → R α} {M : Mem} {μ : List Addr} {H : Hp} {Q : β → Hp → Prop} (h : Wants X.K X.mg W rel (bnd (chk g) f M) μ H Q) : chk g M = some (.ok (), M) ∧ Wants X.K X.mg W rel (f () M) μ H Q := by
  obtain ⟨r, M', e, k⟩ := h
  have key : ∀ {r : Except D Unit} {M1 : Mem}, chk g M = some (r, M1) → r = .ok () ∧ M1 = M := by
    intro r M1 z
    unfold chk at z
    split at z
    · cases z; exact ⟨rfl, rfl⟩
    · split at z
      · split at z
        · cases z; exact ⟨rfl, rfl⟩
        · cases z
      · cases z
  rcases bnd_some e with ⟨z, hi, e⟩ | ⟨t, M1, hi, e⟩
  · cases (key hi).1
  · obtain ⟨_, e2⟩ := key hi
    rw [e2] at hi e
    exact ⟨hi, r, M', e, k⟩
theorem walk_tup {μ : List Addr} {M : Mem} {H : Hp} {a : Addr} {vs : List V} {ds : List D} (rm : RepM X.K X.mg μ M H) (hq : SqT X.K H a vs) (r : RepVs X.K X.mg μ H ds vs) : WalkOk X.K X.mg (Itt X.K a) none ds μ H := by
  intro μ1 M1 H1 l rm1 _
  have hq1 := l.sqT rm.sto hq
  have r1 := r.up l rm
  refine ⟨fun i hi => ⟨vs, hq1, by rw [← r.length]; exact (Nat.le_of_eq hi)⟩, fun i d hd => ?_⟩
  obtain ⟨v, hv, rv⟩ := r1.get hd
  refine ⟨⟨vs, v, hq1, hv⟩, fun x H' y => ?_⟩
  obtain ⟨e, y⟩ := y
  subst e
  have := y vs hq1
  rw [hv] at this
  cases this
  exact ⟨Le.refl _ _, rm1, rv⟩
theorem walk_fl {μ : List Addr} {M : Mem} {H : Hp} {a : Addr} {vs : List V} {ds : List D} (rm : RepM X.K X.mg μ M H) (hq : FrL X.K H a vs) (r : RepVs X.K X.mg μ H ds vs) : WalkOk X.K X.mg (Itl X.K a) none ds μ H := by
  intro μ1 M1 H1 l rm1 _
  have hq1 := (l.frL rm.sto hq).sq
  have r1 := r.up l rm
  refine ⟨fun i hi => ⟨vs, hq1, by rw [← r.length]; exact (Nat.le_of_eq hi)⟩, fun i d hd => ?_⟩
  obtain ⟨v, hv, rv⟩ := r1.get hd
  refine ⟨⟨vs, v, hq1, hv⟩, fun x H' y => ?_⟩
  obtain ⟨e, y⟩ := y
  subst e
  have := y vs hq1
  rw [hv] at this
  cases this
  exact ⟨Le.refl _ _, rm1, rv⟩
theorem walk_flF {μ : List Addr} {M : Mem} {H : Hp} {a : Addr} {vs : List V} {ds : List D} (rm : RepM X.K X.mg μ M H) (hq : H a = some (.lst vs)) (hn : a ∉ μ) (r : RepVs X.K X.mg μ H ds vs) : WalkOk X.K X.mg (Itl X.K a) none ds μ H := by
  intro μ1 M1 H1 l rm1 _
  have hq1 : SqL X.K H1 a vs := SqL.of (l.keep _ _ hq hn)
  have r1 := r.up l rm
  refine ⟨fun i hi => ⟨vs, hq1, by rw [← r.length]; exact (Nat.le_of_eq hi)⟩, fun i d hd => ?_⟩
  obtain ⟨v, hv, rv⟩ := r1.get hd
  refine ⟨⟨vs, v, hq1, hv⟩, fun x H' y => ?_⟩
  obtain ⟨e, y⟩ := y
  subst e
  have := y vs hq1
  rw [hv] at this
  cases this
  exact ⟨Le.refl _ _, rm1, rv⟩
theorem chk_at {n : Nat} {ds : List D} {M : Mem} (h : chk (some (n, ds)) M = some (.ok (), M)) : M[n]? = some (.lst ds) := by
  unfold chk at h
  dsimp only at h
  split at h
  · rename_i es he
    split at h
    · rename_i hb
      rw [he, D.eqs_of _ _ hb]
    · cases h
  · cases h
theorem walk_ref {μ : List Addr} {H : Hp} {n : Nat} {a : Addr} {ds : List D} (hn : μ[n]? = some a) : WalkOk X.K X.mg (Itl X.K a) (some (n, ds)) ds μ H := by
  intro μ1 M1 H1 l rm1 hc
  obtain ⟨vs, h1, r1⟩ := rm1.obj n a _ (l.at hn) (chk_at hc)
  have hq1 : SqL X.K H1 a vs := SqL.of h1
  refine ⟨fun i hi => ⟨vs, hq1, by rw [← r1.length]; exact (Nat.le_of_eq hi)⟩, fun i d hd => ?_⟩
  obtain ⟨v, hv, rv⟩ := r1.get hd
  refine ⟨⟨vs, v, hq1, hv⟩, fun x H' y => ?_⟩
  obtain ⟨e, y⟩ := y
  subst e
  have := y vs hq1
  rw [hv] at this
  cases this
  exact ⟨Le.refl _ _, rm1, rv⟩
theorem walk_str {μ : List Addr} {H : Hp} {z : Str} : WalkOk X.K X.mg (Its z) none (z.cps.toList.map fun c => .str ⟨#[c]⟩) μ H := by
  intro μ1 M1 H1 l rm1 _
  refine ⟨fun i hi => (by simpa using Nat.le_of_eq hi : z.cps.size ≤ i), fun i d hd => ?_⟩
  rw [List.getElem?_map] at hd
  cases hz : z.cps.toList[i]? with
  | none => rw [hz] at hd; cases hd
  | some c =>
    rw [hz] at hd
    cases hd
    have hz' : z.cps[i]? = some c := by simpa using hz
    have hlt := (Array.getElem?_eq_some_iff.mp hz').1
    refine ⟨hlt, fun x H' y => ?_⟩
    obtain ⟨e, c', h1, h2⟩ := y
    subst e
    rw [hz'] at h1
    cases h1
    subst h2
    exact ⟨Le.refl _ _, rm1, .str _⟩
/-- tD_bnd with a fact of the value -/
theorem tD_bndP {α β : Type} {rel : List Addr → Hp → α → β → Prop} {c : CE} {σ : L2.St} {H : Hp} {f : D → Env → R α} {Q : β → Hp → Prop} {μ : List Addr} {M : Mem} {env : Env} (P : D → Prop) (rm : RepM X.K X.mg μ M H) (rs : RepS X.K X.mg μ H env σ)
    (h : Wants X.K X.mg W rel (bnd (evE T c env) (fun d => f d env) M) μ H Q) (hP : ∀ a M', evE T c env M = some (.ok a, M') → P a) {Q' : VK} (k : ∀ v H1 μ1 M1 d, Le μ H μ1 H1 → RepM X.K X.mg μ1 M1 H1 → RepS X.K X.mg μ1 H1 env σ → RepV X.K X.mg μ1 H1 d v → P d → Wants X.K X.mg W rel (f d env M1) μ1 H1 Q → Q' v H1) : tD X.K X.mg W (evE T c) σ H Q' :=
  ⟨μ, M, env, rm, rs, Wants.also P hP (Wants.bndK h fun a b μ1 M1 H1 l1 rm1 r w => k b H1 μ1 M1 a l1 rm1 (rs.up l1 rm) r.2 r.1 w)⟩
theorem di_of {tg e : Expr} {c : CE} (he : DE X W T e c) : DI X W T tg e (.of c) :=
  pi_imp (pi_or (pi_str he) (pi_or (pi_tup he) (pi_list he))) fun σ H R ⟨μ, M, env, rm, rs, h⟩ => by
    have h : Wants X.K X.mg W (relI X.K X.mg) (bnd (evE T c env) itemsOf M) μ H R := h
    have h' := h
    obtain ⟨r, M', e, k⟩ := h'
    rcases bnd_some e with ⟨z, hi, e⟩ | ⟨d, M1, hi, e⟩
    · refine .inl (tD_bndP (fun _ => False) rm rs h (f := fun x env => itemsOf x) (fun a M' z => ?_) fun v H1 μ1 M1 d l1 rm1 rs1 rv hP w => hP.elim)
      rw [hi] at z
      cases z
    · have hP : ∀ a M', evE T c env M = some (.ok a, M') → a = d := fun a M' z => by
        rw [hi] at z
        cases z
        rfl
      cases d with
      | str x =>
        refine .inl (tD_bndP (fun a => a = .str x) rm rs h (f := fun x env => itemsOf x) hP fun v H1 μ1 M1 d l1 rm1 rs1 rv hd w => ?_)
        subst hd
        cases rv
        exact ⟨x, rfl, Wants.some (a := (_, none)) w (Le.refl _ _) rm1 walk_str⟩
      | tup ds =>
        refine .inr (.inl (tD_bndP (fun a => a = .tup ds) rm rs h (f := fun x env => itemsOf x) hP fun v H1 μ1 M1 d l1 rm1 rs1 rv hd w => ?_))
        subst hd
        cases rv with | tup hq r => ?_
        exact ⟨_, rfl, ⟨_, SqT.of hq⟩, Wants.some (a := (ds, none)) w (Le.refl _ _) rm1 (walk_tup rm1 (SqT.of hq) r)⟩
      | pt ds =>
        refine .inr (.inl (tD_bndP (fun a => a = .pt ds) rm rs h (f := fun x env => itemsOf x) hP fun v H1 μ1 M1 d l1 rm1 rs1 rv hd w => ?_))
        subst hd
        cases rv with | pt hq _ r => ?_
        have hq : SqT X.K H1 _ _ := .inl (.inr ⟨_, hq⟩)
        exact ⟨_, rfl, ⟨_, hq⟩, Wants.some (a := (ds, none)) w (Le.refl _ _) rm1 (walk_tup rm1 hq r)⟩
      | scr ds =>
        refine .inr (.inr (tD_bndP (fun a => a = .scr ds) rm rs h (f := fun x env => itemsOf x) hP fun v H1 μ1 M1 d l1 rm1 rs1 rv hd w => ?_))
        subst hd
        cases rv with | scr hq r => ?_
        exact ⟨_, rfl, ⟨_, hq.sq⟩, Wants.some (a := (ds, none)) w (Le.refl _ _) rm1 (walk_fl rm1 hq r)⟩
      | fl ds =>
        refine .inr (.inr (tD_bndP (fun a => a = .fl ds) rm rs h (f := fun x env => itemsOf x) hP fun v H1 μ1 M1 d l1 rm1 rs1 rv hd w => ?_))
        subst hd
        cases rv with | fl hq hn r => ?_
        exact ⟨_, rfl, ⟨_, SqL.of hq⟩, Wants.some (a := (ds, none)) w (Le.refl _ _) rm1 (walk_flF rm1 hq hn r)⟩
      | ref n =>
        refine .inr (.inr (tD_bndP (fun a => a = .ref n) rm rs h (f := fun x env => itemsOf x) hP fun v H1 μ1 M1 d l1 rm1 rs1 rv hd w => ?_))
        subst hd
        cases rv with | ref hn => ?_
        have w : Wants X.K X.mg W (relI X.K X.mg) (match M1[n]? with | some (.lst ds) => some (.ok (ds, some (n, ds)), M1) | _ => none) μ1 H1 R := w
        split at w
        · rename_i ds hM
          obtain ⟨vs, h1, r1⟩ := rm1.obj n _ _ hn hM
          exact ⟨_, rfl, ⟨_, SqL.of h1⟩, Wants.some (a := (ds, some (n, ds))) w (Le.refl _ _) rm1 (walk_ref hn)⟩
        · exact w.none.elim
      | _ => cases e
theorem rangeD_len : ∀ (lo : Int) (n : Nat), (rangeD lo n).length = n
  | _, 0 => rfl
  | lo, n + 1 => by unfold rangeD; rw [List.length_cons, rangeD_len]
theorem rangeD_get : ∀ (lo : Int) (n i : Nat), i < n → (rangeD lo n)[i]? = some (.int (lo + i))
  | lo, n + 1, 0, _ => by unfold rangeD; simp
  | lo, n + 1, i + 1, h => by
    unfold rangeD
    rw [List.getElem?_cons_succ, rangeD_get (lo + 1) n i (by omega)]
    congr 2
    omega
theorem walk_rng {μ : List Addr} {H : Hp} {lo : Int} {n : Nat} : WalkOk X.K X.mg (Itr lo n) none (rangeD lo n) μ H := by
  intro μ1 M1 H1 l rm1 _
  refine ⟨fun i hi => by rw [rangeD_len] at hi; exact Nat.le_of_eq hi, fun i d hd => ?_⟩
  have hlt : i < n := by
    have := (List.getElem?_eq_some_iff.mp hd).1
    rwa [rangeD_len] at this
  rw [rangeD_get lo n i hlt] at hd
  cases hd
  refine ⟨hlt, fun x H' y => ?_⟩
  obtain ⟨e, y⟩ := y
  subst e
  subst y
  exact ⟨Le.refl _ _, rm1, .int _⟩
theorem inR_w {k : Int} (h : inR k = true) : -(2 ^ 62) ≤ k ∧ k < 2 ^ 62 := by
  unfold inR at h
  exact of_decide_eq_true h
theorem di_rng {tg ae : Expr} {a : CE} (hg : Gl X "range") (hm : X.mg "range" = none) (ha : DE X W T ae a) (hs : starEach [ae] X.env = [(false, eval ae X.env)]) : DI X W T tg (.Call (.Name "range" p) [ae] [] pos) (.rng a) :=
  pi_imp (pi_range1 hg hm (pa_cons ha pa_nil hs) hs) fun σ H R ⟨μ, M, env, rm, rs, h⟩ =>
    tD_bnd rm rs h (f := fun x env => match x with | .int j => if inR j then ret (rangeD 0 j.toNat, none) else fail | _ => fail) fun v H1 μ1 M1 d l1 rm1 rs1 rv w => by
      cases rv with
      | int j =>
        have w : Wants X.K X.mg W (relI X.K X.mg) ((if inR j = true then ret (rangeD 0 j.toNat, none) else fail) M1) μ1 H1 R := w
        obtain ⟨hj, w⟩ := ifT w
        obtain ⟨h1, h2⟩ := inR_w hj
        exact ⟨j, rfl, h1, h2, Wants.ret (a := (rangeD 0 j.toNat, none)) w rm1 walk_rng⟩
      | _ => exact (show False from Wants.fail (M := M1) (rel := relI X.K X.mg) w).elim
theorem di_rng2 {tg ae be : Expr} {a b : CE} (hg : Gl X "range") (hm : X.mg "range" = none) (ha : DE X W T ae a) (hb : DE X W T be b) (hs : starEach [ae, be] X.env = [(false, eval ae X.env), (false, eval be X.env)]) (hs2 : starEach [be] X.env = [(false, eval be X.env)]) : DI X W T tg (.Call (.Name "range" p) [ae, be] [] pos) (.rng2 a b) :=
  pi_imp (pi_range2 hg hm (pa_cons ha (pa_cons hb pa_nil hs2) (by rw [hs, hs2])) hs hs2) fun σ H R ⟨μ, M, env, rm, rs, h⟩ =>
    tD_bnd rm rs h (f := fun x env => bnd (evE T b env) fun y => match x, y with | .int i, .int j => if inR i && inR j then ret (rangeD i (j - i).toNat, none) else fail | _, _ => fail) fun v H1 μ1 M1 d l1 rm1 rs1 rv w =>
      tD_bnd rm1 rs1 w (f := fun y env => match d, y with | .int i, .int j => if inR i && inR j then ret (rangeD i (j - i).toNat, none) else fail | _, _ => fail) fun v2 H2 μ2 M2 d2 l2 rm2 rs2 rv2 w => by
        cases rv with
        | int i =>
          cases rv2 with
          | int j =>
            have w : Wants X.K X.mg W (relI X.K X.mg) ((if (inR i && inR j) = true then ret (rangeD i (j - i).toNat, none) else fail) M2) μ2 H2 R := w
            obtain ⟨hj, w⟩ := ifT w
            rw [Bool.and_eq_true] at hj
            obtain ⟨h1, h2⟩ := inR_w hj.1
            obtain ⟨h3, h4⟩ := inR_w hj.2
            exact ⟨i, j, rfl, ⟨h1, h2, h3, h4⟩, Wants.ret (a := (rangeD i (j - i).toNat, none)) w rm2 walk_rng⟩
          | _ => exact (show False from Wants.fail (M := M2) (rel := relI X.K X.mg) w).elim
        | _ => exact (show False from Wants.fail (M := M2) (rel := relI X.K X.mg) w).elim
/-! ### for -/
theorem drop_at {ds : List D} {i m : Nat} (h : i + (m + 1) = ds.length) : ∃ d, ds[i]? = some d ∧ ds.drop i = d :: ds.drop (i + 1) := by
  have hlt : i < ds.length := by omega
  exact ⟨ds[i], List.getElem?_eq_getElem hlt, List.drop_eq_getElem_cons hlt⟩
theorem ds_for {tg e : Expr} {b : List Stmt} {g : CG} {ci : CI} {cb : CSs} {ns : List Nat} (hp : PassesOwn (model X.prog X.w) X.A X.env X.xe) (hc : X.calm = true) (hi : DI X W T tg e ci) (hg : DG X W T ns tg g) (hb : DSs X W T b cb)
    (hs : ∀ x, foldedSetIterable e X.env x = pure x) : DS X W T (.For tg e b [] pos) (.forS g ci cb) :=
  ps_imp (ps_for hp hc hi hg hb hs) fun E σ H ⟨μ, M, env, rm, rs, h⟩ => by
    have h : Wants X.K X.mg W (RepFl X.K X.mg) (bnd (evI T ci env) (fun p => forL p.2 (fun d env => bnd (evG T g d env) fun env2 => evSs T cb env2) p.1 env) M) μ H (endQ E) := h
    refine ⟨μ, M, env, rm, rs, Wants.bndK h fun q J μ1 M1 H1 l1 rm1 hw w => ?_⟩
    obtain ⟨ds, gd⟩ := q
    have hw : WalkOk X.K X.mg J gd ds μ1 H1 := hw
    refine ⟨fun i m σ H => ∃ μ M env, RepM X.K X.mg μ M H ∧ RepS X.K X.mg μ H env σ ∧ Le μ1 H1 μ H ∧ i + m = ds.length ∧ Wants X.K X.mg W (RepFl X.K X.mg) (forL gd (fun d env => bnd (evG T g d env) fun env2 => evSs T cb env2) (ds.drop i) env M) μ H (endQ E),
      ⟨ds.length, μ1, M1, env, rm1, rs.up l1 rm, Le.refl _ _, Nat.zero_add _, w⟩, ?_⟩
    rintro i m σ H ⟨μ, M, env, rm, rs, l, hm, w⟩
    match m, hm with
    | 0, hm =>
      rw [List.drop_eq_nil_of_le (by omega)] at w
      obtain ⟨hck, w⟩ := chk_w w
      exact .inl ⟨(hw μ M H l rm hck).1 i (by omega), nx_w w rm rs⟩
    | m + 1, hm =>
      obtain ⟨d, hd, e⟩ := drop_at hm
      rw [e] at w
      obtain ⟨hck, w⟩ := chk_w w
      obtain ⟨hgo, hy⟩ := (hw μ M H l rm hck).2 i d hd
      refine .inr ⟨hgo, fun σ H => ∃ μ M env, RepM X.K X.mg μ M H ∧ RepS X.K X.mg μ H env σ ∧ Le μ1 H1 μ H ∧ Wants X.K X.mg W (RepFl X.K X.mg) (forL gd (fun d env => bnd (evG T g d env) fun env2 => evSs T cb env2) (ds.drop (i + 1)) env M) μ H (endQ E),
        fun σ' H' ⟨μ, M, env, rm, rs, l, w⟩ => ⟨m, Nat.lt_succ_self _, μ, M, env, rm, rs, l, by omega, w⟩, fun x H' y => ?_⟩
      obtain ⟨l2, rm2, rv2⟩ := hy x H' y
      have w : Wants X.K X.mg W (RepFl X.K X.mg) (bnd (bnd (evG T g d env) fun env2 => evSs T cb env2) (fun f => match f with
        | .nx e => forL gd (fun d env => bnd (evG T g d env) fun env2 => evSs T cb env2) (ds.drop (i + 1)) e
        | .ct e => forL gd (fun d env => bnd (evG T g d env) fun env2 => evSs T cb env2) (ds.drop (i + 1)) e
        | .bk e => ret (.nx e)
        | .rt d => ret (.rt d)) M) μ H (endQ E) := w
      rw [bnd_assoc] at w
      obtain ⟨r0, M0, e0, k0⟩ := w
      have w : Wants X.K X.mg W (RepFl X.K X.mg) _ μ H' (endQ E) := ⟨r0, M0, e0, fun μ' H'' l' rm' => k0 μ' H'' (l2.trans l') rm'⟩
      refine ⟨μ, M, d, env, rm2, rs.up l2 rm, rv2, Wants.bndK w fun env2 σ2 μ3 M3 H3 l3 rm3 r3 w => ?_⟩
      refine ⟨μ3, M3, env2, rm3, r3.1, Wants.bndK w fun a b μ4 M4 H4 l4 rm4 r w => ?_⟩
      have lz : Le μ1 H1 μ4 H4 := ((l.trans l2).trans l3).trans l4
      match a, b, r, w with
      | .nx e, .nx σ', r, w => exact ⟨μ4, M4, e, rm4, r, lz, w⟩
      | .ct e, .ct σ', r, w => exact ⟨μ4, M4, e, rm4, r, lz, w⟩
      | .bk e, .bk σ', r, w => exact nx_w (E := E) w rm4 r
      | .rt d, .rt v, r, w => exact rt_w (E := E) w rm4 r
end
end DL
end
section
set_option Elab.async false
set_option linter.all false
set_option maxRecDepth 100000
set_option maxHeartbeats 2000000
/-! DL, part n: comprehensions, enumerate, zip; the def rule. -/
namespace DL
open PySem PySem.Spec PyProof.Rows L2
section
variable {X : Cx} {W : XW} {T : Tab} {pos p : Pos}
abbrev DTs (X : Cx) (W : XW) (T : Tab) (ifs : List Expr) (t : CT) : Prop := PTs X ifs (tTD X.K X.mg W (evT T t))
theorem pts_imp {ifs : List Expr} {t t' : TT} (h : PTs X ifs t) (i : ∀ σ H Q, t' σ H Q → t σ H Q) : PTs X ifs t' := ⟨fun pins s σ H Q I q => h.run pins s σ H Q I (i σ H Q q)⟩
theorem dts_nil : DTs X W T [] .yes := pts_imp pts_nil fun σ H Q ⟨μ, M, env, rm, rs, h⟩ => Wants.ret (a := true) (b := true) h rm rfl
theorem dts_one {e : Expr} {t : CT} (h : DT X W T e t) : DTs X W T [e] t := pts_one h
theorem relG_wipe {K : PySem.W.Frag} {mg : Str → Option Value} {ns vs : List Nat} {σ σ2 : L2.St} {μ : List Addr} {H : Hp} {env : Env} (h : relG K mg ns (wipe σ vs) μ H env σ2) (hs : ∀ i ∈ ns, i ∈ vs) : wipe σ2 vs = wipe σ vs := by
  obtain ⟨_, hl, hk⟩ := h
  rw [wipe_length] at hl
  refine List.ext_getElem? fun i => ?_
  by_cases hi : i ∈ vs
  · by_cases hn : i < σ.length
    · have a : ∀ τ : L2.St, τ.length = σ.length → (wipe τ vs)[i]? = some none := by
        intro τ hτ
        cases e : (wipe τ vs)[i]? with
        | none =>
          rw [List.getElem?_eq_none_iff, wipe_length, hτ] at e
          omega
        | some o =>
          cases o with
          | none => rfl
          | some v => exact absurd hi (wipe_some e).2
      rw [a σ2 hl, a σ rfl]
    · rw [List.getElem?_eq_none (by rw [wipe_length]; omega), List.getElem?_eq_none (by rw [wipe_length]; omega)]
  · rw [wipe_out hi, wipe_out hi, hk i (fun z => hi (hs i z)), wipe_out hi]
/-- one turn of a comprehension -/
def turnC (T : Tab) (g : CG) (t : CT) (e : CE) (own : List Nat) (env : Env) (d : D) : R (Option D) := bnd (evG T g d (wipeE env own)) fun env2 => bnd (evT T t env2) fun k => if k = true then bnd (evE T e env2) fun y => ret (some y) else ret none
theorem turn_bnd {β : Type} {g : CG} {t : CT} {e : CE} {own : List Nat} {env : Env} {d : D} {F : Option D → R β} : bnd (turnC T g t e own env d) F = bnd (evG T g d (wipeE env own)) fun env2 => bnd (evT T t env2) fun k => bnd (if k = true then bnd (evE T e env2) fun y => ret (some y) else ret none) F := by
  unfold turnC
  rw [bnd_assoc]
  congr 1
  funext env2
  rw [bnd_assoc]
theorem ev_comp {it : CI} {g : CG} {t : CT} {e : CE} {own : List Nat} {env : Env} : evE T (.comp it g t e own) env = bnd (evI T it env) fun p => bnd (new (.lst [])) fun r => match r with
      | .ref n => bnd (compL p.2 n (turnC T g t e own env) p.1) fun _ => ret (.ref n)
      | _ => fail := by rw [evE]; rfl
theorem push_w {α β : Type} {rel : List Addr → Hp → α → β → Prop} {n : Nat} {d : D} {f : Unit → R α} {M : Mem} {μ : List Addr} {H : Hp} {Q : β → Hp → Prop} (h : Wants X.K X.mg W rel (bnd (push n d) f M) μ H Q) : ∃ ds, M[n]? = some (.lst ds) ∧ ds.length < sizeLine ∧ Wants X.K X.mg W rel (f () (M.set n (.lst (ds ++ [d])))) μ H Q := by
  obtain ⟨r, M', e, k⟩ := h
  rcases bnd_some e with ⟨z, hi, e⟩ | ⟨t, M1, hi, e⟩
  · exfalso
    unfold push at hi
    split at hi
    · split at hi <;> cases hi
    · cases hi
  · unfold push at hi
    split at hi
    · rename_i ds hm
      split at hi
      · rename_i hl
        cases hi
        exact ⟨ds, hm, hl, r, M', e, k⟩
      · cases hi
    · cases hi
theorem moved {α β : Type} {rel : List Addr → Hp → α → β → Prop} {x : Option (Except D α × Mem)} {μ μ' : List Addr} {H H' : Hp} {Q : β → Hp → Prop} (h : Wants X.K X.mg W rel x μ H Q) (l : Le μ H μ' H') : Wants X.K X.mg W rel x μ' H' Q := by
  obtain ⟨r, M', e, k⟩ := h
  exact ⟨r, M', e, fun μ'' H'' l' rm' => k μ'' H'' (l.trans l') rm'⟩
theorem lc_w {it : CI} {g : CG} {t : CT} {e : CE} {ns : List Nat} {own : List (Str × Nat)} {σ : L2.St} {H : Hp} {Q : VK} {μ : List Addr} {M : Mem} {env : Env} (hsub : ∀ i ∈ ns, i ∈ own.map (·.2)) (rm : RepM X.K X.mg μ M H) (rs : RepS X.K X.mg μ H env σ)
    (h : Wants X.K X.mg W (RepV X.K X.mg) (evE T (.comp it g t e (own.map (·.2))) env M) μ H Q) :
    tLc (tID X.K X.mg W (evI T it)) (tGD X.K X.mg W ns (evG T g)) (tTD X.K X.mg W (evT T t)) (tD X.K X.mg W (evE T e)) (own.map (·.2)) σ H Q := by
  rw [ev_comp] at h
  refine ⟨μ, M, env, rm, rs, Wants.bndK h fun q J μ1 M1 H1 l1 rm1 hw w => ?_⟩
  obtain ⟨ds, gd⟩ := q
  have hw : WalkOk X.K X.mg J gd ds μ1 H1 := hw
  intro L hL
  have w : Wants X.K X.mg W (RepV X.K X.mg) (bnd (compL gd M1.length (turnC T g t e (own.map (·.2)) env) ds) (fun _ => ret (D.ref M1.length)) (M1 ++ [.lst []])) μ1 H1 Q := w
  have l2 := Le.new (μ := μ1) (o := .lst []) hL
  have rm2 := rm1.new (o := .lst []) (q := .lst []) hL ⟨[], upd_same, .nil⟩
  have hx : (μ1 ++ [L])[M1.length]? = some L := by
    rw [← rm1.len, List.getElem?_append_right (Nat.le_refl _)]
    simp
  generalize hn : M1.length = n at w hx
  generalize hM2 : M1 ++ [O.lst []] = M2 at w rm2
  generalize hμ2 : μ1 ++ [L] = μ2 at l2 rm2 hx
  have rs2 : RepS X.K X.mg μ2 (upd H1 L (.lst [])) env σ := (rs.up l1 rm).up l2 rm1
  refine ⟨fun i m H => ∃ μ M, RepM X.K X.mg μ M H ∧ Le μ2 (upd H1 L (.lst [])) μ H ∧ i + m = ds.length ∧ Wants X.K X.mg W (RepV X.K X.mg) (bnd (compL gd n (turnC T g t e (own.map (·.2)) env) (ds.drop i)) (fun _ => ret (D.ref n)) M) μ H Q,
    ⟨ds.length, μ2, M2, rm2, Le.refl _ _, Nat.zero_add _, moved w l2⟩, ?_⟩
  rintro i m H3 ⟨μ3, M3, rm3, l3, hm, w⟩
  match m, hm with
  | 0, hm =>
    rw [List.drop_eq_nil_of_le (by omega)] at w
    have w : Wants X.K X.mg W (RepV X.K X.mg) (bnd (chk gd) (fun _ => ret (D.ref n)) M3) μ3 H3 Q := w
    obtain ⟨hck, w⟩ := chk_w w
    exact .inl ⟨(hw μ3 M3 H3 (l2.trans l3) rm3 hck).1 i (by omega), Wants.ret (a := D.ref n) w rm3 (.ref (l3.at hx))⟩
  | m + 1, hm =>
    obtain ⟨d, hd, ee⟩ := drop_at hm
    rw [ee] at w
    have w : Wants X.K X.mg W (RepV X.K X.mg) (bnd (bnd (chk gd) fun _ => bnd (turnC T g t e (own.map (·.2)) env d) fun o => match o with
      | none => compL gd n (turnC T g t e (own.map (·.2)) env) (ds.drop (i + 1))
      | some y => bnd (push n y) fun _ => compL gd n (turnC T g t e (own.map (·.2)) env) (ds.drop (i + 1))) (fun _ => ret (D.ref n)) M3) μ3 H3 Q := w
    rw [bnd_assoc] at w
    obtain ⟨hck, w⟩ := chk_w w
    obtain ⟨hgo, hy⟩ := (hw μ3 M3 H3 (l2.trans l3) rm3 hck).2 i d hd
    refine .inr ⟨hgo, fun H => ∃ μ M, RepM X.K X.mg μ M H ∧ Le μ2 (upd H1 L (.lst [])) μ H ∧ Wants X.K X.mg W (RepV X.K X.mg) (bnd (compL gd n (turnC T g t e (own.map (·.2)) env) (ds.drop (i + 1))) (fun _ => ret (D.ref n)) M) μ H Q,
      fun H' ⟨μ, M, rm, l, w⟩ => ⟨m, Nat.lt_succ_self _, μ, M, rm, l, by omega, w⟩, fun x H' y => ?_⟩
    obtain ⟨l4, rm4, rv4⟩ := hy x H' y
    rw [bnd_assoc, turn_bnd] at w
    have w := moved w l4
    refine ⟨μ3, M3, d, wipeE env (own.map (·.2)), rm4, ((rs2.up l3 rm2).up l4 rm3).wipe _, rv4, Wants.bndK w fun env2 σ2 μ5 M5 H5 l5 rm5 r5 w => ⟨relG_wipe r5 hsub, ?_⟩⟩
    refine tT_bnd rm5 r5.1 w (f := fun k env2 => bnd (if k = true then bnd (evE T e env2) fun y => ret (some y) else ret none) fun o => bnd (match o with
      | none => compL gd n (turnC T g t e (own.map (·.2)) env) (ds.drop (i + 1))
      | some y => bnd (push n y) fun _ => compL gd n (turnC T g t e (own.map (·.2)) env) (ds.drop (i + 1))) fun _ => ret (D.ref n)) fun k H6 μ6 M6 l6 rm6 rs6 w => ?_
    have lz : Le μ2 (upd H1 L (.lst [])) μ6 H6 := ((l3.trans l4).trans l5).trans l6
    cases k with
    | false => exact ⟨μ6, M6, rm6, lz, w⟩
    | true =>
      have w : Wants X.K X.mg W (RepV X.K X.mg) (bnd (bnd (evE T e env2) fun y => ret (some y)) (fun o => bnd (match o with
        | none => compL gd n (turnC T g t e (own.map (·.2)) env) (ds.drop (i + 1))
        | some y => bnd (push n y) fun _ => compL gd n (turnC T g t e (own.map (·.2)) env) (ds.drop (i + 1))) fun _ => ret (D.ref n)) M6) μ6 H6 Q := w
      rw [bnd_assoc] at w
      refine tD_bnd rm6 rs6 w (f := fun y _ => bnd (ret (some y)) (fun o => bnd (match o with
        | none => compL gd n (turnC T g t e (own.map (·.2)) env) (ds.drop (i + 1))
        | some y => bnd (push n y) fun _ => compL gd n (turnC T g t e (own.map (·.2)) env) (ds.drop (i + 1))) fun _ => ret (D.ref n))) fun v H7 μ7 M7 dv l7 rm7 rs7 rv7 w => ?_
      have w : Wants X.K X.mg W (RepV X.K X.mg) (bnd (bnd (push n dv) fun _ => compL gd n (turnC T g t e (own.map (·.2)) env) (ds.drop (i + 1))) (fun _ => ret (D.ref n)) M7) μ7 H7 Q := w
      rw [bnd_assoc] at w
      obtain ⟨acc, hM, hl, w⟩ := push_w w
      have hn7 := (lz.trans l7).at hx
      obtain ⟨vs, h1, r1⟩ := rm7.obj n L _ hn7 hM
      have hmem := wr_of hn7 h1
      exact ⟨vs, h1, by rw [← r1.length]; exact hl, μ7, M7.set n (.lst (acc ++ [dv])), rm7.write hmem hn7 ⟨_, upd_same, (r1.up (Le.write hmem) rm7).append (.cons (rv7.up (Le.write hmem) rm7) .nil)⟩, (lz.trans l7).trans (Le.write hmem), moved w (Le.write hmem)⟩
theorem de_comp {elt tg iter : Expr} {ifs : List Expr} {scope : Scope} {own : List (Str × Nat)} {it : CI} {g : CG} {t : CT} {e : CE} {ns : List Nat} (hc : X.calm = true) (hN : X.N.Nodup) (hi : DI X W T tg iter it) (ok : BlkOk X.N X.env.scope scope own) (hsub : ∀ i ∈ ns, i ∈ own.map (·.2))
    (hg : ∀ (s : Shared) (H : Hp) (C : Addr) (cl : List (Str × Addr)) (fp : List Addr), DG (X.blk s H scope (compEnvC scope cl C X.env) fp) W T ns tg g) (ht : ∀ (s : Shared) (H : Hp) (C : Addr) (cl : List (Str × Addr)) (fp : List Addr), DTs (X.blk s H scope (compEnvC scope cl C X.env) fp) W T ifs t)
    (he : ∀ (s : Shared) (H : Hp) (C : Addr) (cl : List (Str × Addr)) (fp : List Addr), DE (X.blk s H scope (compEnvC scope cl C X.env) fp) W T elt e) (hs : ∀ x, foldedSetIterable iter X.env x = pure x) :
    DE X W T (.ListComp elt [⟨tg, iter, ifs, 0⟩] scope pos) (.comp it g t e (own.map (·.2))) :=
  pe_imp (pe_lc hc hN hi ok hg ht he hs) fun σ H Q ⟨μ, M, env, rm, rs, h⟩ => lc_w hsub rm rs h
/-- name = [..] on one line -/
theorem ds_setLc {i : Nat} {y : Str} {py : Pos} {elt tg iter : Expr} {ifs : List Expr} {scope : Scope} {own : List (Str × Nat)} {spos : Pos} {it : CI} {g : CG} {t : CT} {e : CE} {ns : List Nat} (hc : X.calm = true) (hN : X.N.Nodup) (hy : X.N[i]? = some y) (hyl : X.env.scope.names.lookup y = some .local)
    (hsw : swapsWith (.ListComp elt [⟨tg, iter, ifs, 0⟩] scope pos) (some (.Name y py)) spos.line X.env = pure true) (hi : DI X W T tg iter it) (ok : BlkOk X.N X.env.scope scope own) (hsub : ∀ i ∈ ns, i ∈ own.map (·.2))
    (hg : ∀ (s : Shared) (H : Hp) (C : Addr) (cl : List (Str × Addr)) (fp : List Addr), DG (X.blk s H scope (compEnvC scope cl C X.env) fp) W T ns tg g) (ht : ∀ (s : Shared) (H : Hp) (C : Addr) (cl : List (Str × Addr)) (fp : List Addr), DTs (X.blk s H scope (compEnvC scope cl C X.env) fp) W T ifs t)
    (he : ∀ (s : Shared) (H : Hp) (C : Addr) (cl : List (Str × Addr)) (fp : List Addr), DE (X.blk s H scope (compEnvC scope cl C X.env) fp) W T elt e) (hs : ∀ x, foldedSetIterable iter X.env x = pure x) :
    DS X W T (.Assign [.Name y py] (.ListComp elt [⟨tg, iter, ifs, 0⟩] scope pos) spos) (.asg (.nm i) (.comp it g t e (own.map (·.2)))) :=
  ps_imp (L2.ps_setLc hc hN hy hyl hsw hi ok hg ht he hs) fun E σ H ⟨μ, M, env, rm, rs, h⟩ => by
    refine lc_w (Q := fun x H1 => E.nx (σ.set i (some x)) H1) hsub rm rs (Wants.bndK h fun a b μ1 M1 H1 l1 rm1 r w => ?_)
    exact nx_w (E := E) w rm1 ((rs.up l1 rm).set i r)
/-! ### enumerate, zip -/
theorem numbered_len : ∀ (k : Nat) (ds : List D), (numbered k ds).length = ds.length
  | _, [] => rfl
  | k, d :: ds => by unfold numbered; rw [List.length_cons, numbered_len, List.length_cons]
theorem numbered_get : ∀ (k : Nat) (ds : List D) (i : Nat) (d : D), ds[i]? = some d → (numbered k ds)[i]? = some (.tup [.int (((k + i : Nat)) : Int), d])
  | k, d :: ds, 0, _, h => by cases h; rfl
  | k, d :: ds, i + 1, d', h => by
    unfold numbered
    rw [List.getElem?_cons_succ, numbered_get (k + 1) ds i d' (by simpa using h)]
    congr 5
    omega
theorem rep_pair {μ : List Addr} {M : Mem} {H : Hp} {T : Addr} {d1 d2 : D} {x y : V} (rm : RepM X.K X.mg μ M H) (hT : H T = none) (r1 : RepV X.K X.mg μ H d1 x) (r2 : RepV X.K X.mg μ H d2 y) :
    Le μ H μ (upd H T (.tup [x, y])) ∧ RepM X.K X.mg μ M (upd H T (.tup [x, y])) ∧ RepV X.K X.mg μ (upd H T (.tup [x, y])) (.tup [d1, d2]) (.ref T) :=
  ⟨Le.free hT, rm.free hT, .tup upd_same (.cons (r1.up (Le.free hT) rm) (.cons (r2.up (Le.free hT) rm) .nil))⟩
theorem walk_enum {μ : List Addr} {H : Hp} {a : Addr} {gd : Option (Nat × List D)} {ds : List D} (hb : ∀ μ1 M1 H1, Le μ H μ1 H1 → RepM X.K X.mg μ1 M1 H1 → chk gd M1 = some (.ok (), M1) → ∃ vs, SqL X.K H1 a vs ∧ RepVs X.K X.mg μ1 H1 ds vs) :
    WalkOk X.K X.mg (Ite X.K a) gd (numbered 0 ds) μ H := by
  intro μ1 M1 H1 l rm1 hc
  obtain ⟨vs, hq, r⟩ := hb μ1 M1 H1 l rm1 hc
  refine ⟨fun i hi => ⟨vs, hq, by rw [← r.length]; rw [numbered_len] at hi; exact Nat.le_of_eq hi⟩, fun i d hd => ?_⟩
  have hlt : i < ds.length := by
    have := (List.getElem?_eq_some_iff.mp hd).1
    rwa [numbered_len] at this
  rw [numbered_get 0 ds i ds[i] (List.getElem?_eq_getElem hlt)] at hd
  cases hd
  obtain ⟨v, hv, rv⟩ := r.get (List.getElem?_eq_getElem hlt)
  refine ⟨⟨vs, v, hq, hv⟩, fun x H' y => ?_⟩
  obtain ⟨TT, w, ex, hT, eH, hx⟩ := y
  subst ex
  subst eH
  have := hx vs hq
  rw [hv] at this
  cases this
  have e0 : ((0 + i : Nat) : Int) = (i : Int) := by rw [Nat.zero_add]
  rw [e0]
  exact rep_pair rm1 hT (.int _) rv
theorem walk_zipT {μ : List Addr} {M : Mem} {H : Hp} {a b : Addr} {vs us : List V} {ds es : List D} (rm : RepM X.K X.mg μ M H) (h1 : SqT X.K H a vs) (r1 : RepVs X.K X.mg μ H ds vs) (h2 : SqT X.K H b us) (r2 : RepVs X.K X.mg μ H es us) :
    WalkOk X.K X.mg (RZ.ItzT X.K a b) none (List.zipWith (fun d e => D.tup [d, e]) ds es) μ H := by
  intro μ1 M1 H1 l rm1 _
  have q1 := l.sqT rm.sto h1
  have q2 := l.sqT rm.sto h2
  have r1 := r1.up l rm
  have r2 := r2.up l rm
  have e1 := r1.length
  have e2 := r2.length
  refine ⟨fun i hi => ⟨vs, us, q1, q2, by rw [List.length_zipWith] at hi; omega⟩, fun i d hd => ?_⟩
  rw [List.getElem?_zipWith] at hd
  cases hx : ds[i]? with
  | none => rw [hx] at hd; cases hd
  | some dx =>
    cases hy : es[i]? with
    | none => rw [hx, hy] at hd; cases hd
    | some dy =>
      rw [hx, hy] at hd
      cases hd
      obtain ⟨v, hv, rv⟩ := r1.get hx
      obtain ⟨u, hu, ru⟩ := r2.get hy
      refine ⟨⟨vs, us, v, u, q1, q2, hv, hu⟩, fun x H' y => ?_⟩
      obtain ⟨TT, v', u', ex, hT, eH, hx, hy⟩ := y
      subst ex
      subst eH
      have z1 := hx vs q1
      have z2 := hy us q2
      rw [hv] at z1
      rw [hu] at z2
      cases z1
      cases z2
      exact rep_pair rm1 hT rv ru
/-- enumerate of a list -/
theorem di_enum {ae : Expr} {elts : List Expr} {kk : Nat} {tpos : Pos} {a : CE} (hg : Gl X "enumerate") (hm : X.mg "enumerate" = none) (ha : DE X W T ae a) (hs : starEach [ae] X.env = [(false, eval ae X.env)]) :
    PI X (.Tuple elts kk tpos) (.Call (.Name "enumerate" p) [ae] [] pos) (fun σ H R => ∃ μ M env, RepM X.K X.mg μ M H ∧ RepS X.K X.mg μ H env σ ∧ Wants X.K X.mg W (relI X.K X.mg) (evI T (.enum a) env M) μ H R ∧ ∀ ds M', evE T a env M ≠ some (.ok (.tup ds), M') ∧ evE T a env M ≠ some (.ok (.pt ds), M')) :=
  pi_imp (pi_enum hg hm (pa_cons ha pa_nil hs) hs) fun σ H R ⟨μ, M, env, rm, rs, h, hno⟩ =>
    tD_bndP (fun d => ∀ ds, d ≠ .tup ds ∧ d ≠ .pt ds) rm rs h (f := fun x env => bnd (seqG x) fun p => ret (numbered 0 p.1, p.2)) (fun d M' e ds => ⟨fun z => by subst z; exact (hno ds M').1 e, fun z => by subst z; exact (hno ds M').2 e⟩) fun v H1 μ1 M1 d l1 rm1 rs1 rv hd w => by
      cases rv with
      | tup _ _ => exact absurd rfl (hd _).1
      | pt _ _ _ => exact absurd rfl (hd _).2
      | @scr aa vs ds hq r =>
        have w : Wants X.K X.mg W (relI X.K X.mg) (some (.ok (numbered 0 ds, none), M1)) μ1 H1 R := w
        exact ⟨aa, vs, rfl, hq.sq, Wants.some (a := (numbered 0 ds, none)) w (Le.refl _ _) rm1 (walk_enum fun μ2 M2 H2 l2 _ _ => ⟨vs, (l2.frL rm1.sto hq).sq, r.up l2 rm1⟩)⟩
      | @fl aa vs ds hq hn r =>
        have w : Wants X.K X.mg W (relI X.K X.mg) (some (.ok (numbered 0 ds, none), M1)) μ1 H1 R := w
        exact ⟨aa, vs, rfl, SqL.of hq, Wants.some (a := (numbered 0 ds, none)) w (Le.refl _ _) rm1 (walk_enum fun μ2 M2 H2 l2 _ _ => ⟨vs, SqL.of (l2.keep _ _ hq hn), r.up l2 rm1⟩)⟩
      | @ref n aa hn =>
        have w : Wants X.K X.mg W (relI X.K X.mg) (bnd (seqG (.ref n)) (fun p => ret (numbered 0 p.1, p.2)) M1) μ1 H1 R := w
        cases hM : M1[n]? with
        | none =>
          have z : seqG (.ref n) M1 = none := by unfold seqG; dsimp only; rw [hM]
          obtain ⟨_, _, e, _⟩ := w
          unfold bnd at e
          rw [z] at e
          cases e
        | some o =>
          cases o with
          | ins c fs =>
            have z : seqG (.ref n) M1 = none := by unfold seqG; dsimp only; rw [hM]
            obtain ⟨_, _, e, _⟩ := w
            unfold bnd at e
            rw [z] at e
            cases e
          | dct fz kvs =>
            have z : seqG (.ref n) M1 = none := by unfold seqG; dsimp only; rw [hM]
            obtain ⟨_, _, e, _⟩ := w
            unfold bnd at e
            rw [z] at e
            cases e
          | lst ds =>
            have z : seqG (.ref n) M1 = some (.ok (ds, some (n, ds)), M1) := by unfold seqG; dsimp only; rw [hM]
            have w : Wants X.K X.mg W (relI X.K X.mg) (some (.ok (numbered 0 ds, some (n, ds)), M1)) μ1 H1 R := by
              unfold bnd at w
              rw [z] at w
              exact w
            obtain ⟨vs, h1, r1⟩ := rm1.obj n aa _ hn hM
            refine ⟨aa, vs, rfl, SqL.of h1, Wants.some (a := (numbered 0 ds, some (n, ds))) w (Le.refl _ _) rm1 (walk_enum fun μ2 M2 H2 l2 rm2 hc => ?_)⟩
            obtain ⟨vs2, h2, r2⟩ := rm2.obj n aa _ (l2.at hn) (chk_at hc)
            exact ⟨vs2, SqL.of h2, r2⟩
      | _ => exact (by obtain ⟨_, _, e, _⟩ := w; cases e)
theorem di_zip {ae be : Expr} {elts : List Expr} {kk : Nat} {tpos : Pos} {a b : CE} (hg : Gl X "zip") (hm : X.mg "zip" = none) (ha : DE X W T ae a) (hb : DE X W T be b) (hs : starEach [ae, be] X.env = (false, eval ae X.env) :: starEach [be] X.env) (hs2 : starEach [be] X.env = (false, eval be X.env) :: starEach [] X.env) (hpl : (backTo pos (starEach [be] X.env)).any (·.1) = false) :
    DI X W T (.Tuple elts kk tpos) (.Call (.Name "zip" p) [ae, be] [] pos) (.zip a b) :=
  pi_imp (RZ.pi_zipA hg hm (pa_cons ha (pa_cons hb pa_nil hs2) hs) hs hpl) fun σ H R ⟨μ, M, env, rm, rs, h⟩ =>
    tD_bnd rm rs h (f := fun x env => bnd (evE T b env) fun y => match x, y with
      | .tup ds, .tup es => ret (List.zipWith (fun d e => D.tup [d, e]) ds es, none)
      | _, _ => fail) fun v H1 μ1 M1 d l1 rm1 rs1 rv w =>
      tD_bnd rm1 rs1 w (f := fun y env => match d, y with
      | .tup ds, .tup es => ret (List.zipWith (fun d e => D.tup [d, e]) ds es, none)
      | _, _ => fail) fun v2 H2 μ2 M2 d2 l2 rm2 rs2 rv2 w => by
        have rv := rv.up l2 rm1
        cases rv with
        | @tup aa vs ds hq r =>
          cases rv2 with
          | @tup bb us es hq2 r2 =>
            exact ⟨aa, bb, vs, us, rfl, .inr ⟨SqT.of hq, SqT.of hq2, Wants.ret (a := (List.zipWith (fun d e => D.tup [d, e]) ds es, none)) w rm2 (walk_zipT rm2 (SqT.of hq) r (SqT.of hq2) r2)⟩⟩
          | _ => exact (by obtain ⟨_, _, e, _⟩ := w; cases e)
        | _ => exact (by obtain ⟨_, _, e, _⟩ := w; cases e)
end
/-! ### THE RULE for a def -/
theorem start_rep {K : PySem.W.Frag} {mg : Str → Option Value} {μ : List Addr} {H : Hp} {ds : List D} {vs : List V} (r : RepVs K mg μ H ds vs) (N : List Str) : RepS K mg μ H (ds.map some ++ List.replicate (N.length - ds.length) none) (L2.start N vs) := by
  unfold L2.start
  refine ⟨by simp [r.length], fun i d h => ?_⟩
  by_cases hi : i < ds.length
  · rw [List.getElem?_append_left (by simpa using hi), List.getElem?_map] at h
    rw [List.getElem?_append_left (by simpa [← r.length] using hi), List.getElem?_map]
    cases e : ds[i]? with
    | none => rw [e] at h; cases h
    | some d' =>
      rw [e] at h
      cases h
      obtain ⟨v, hv, rv⟩ := r.get e
      exact ⟨v, by rw [hv]; rfl, rv⟩
  · rw [List.getElem?_append_right (by simpa using hi), List.getElem?_replicate] at h
    split at h <;> cases h
theorem fnG_of {P : Program} {w : World} {K : PySem.W.Frag} {mg : Str → Option Value} {base : Heap} {k n : Nat} {f : Addr} {x qual : Str} {params : Arguments} {body : List Stmt} {scope : Scope} {dV kV doc pm cdv ct oc : Value} {an od : Option Addr} {osl : Array (Option Value)} {N ps : List Str} {T : Tab} {b : CSs}
    (lk : K.lookup f = some ⟨oc, od, .func (PySem.W.fnOf x qual params body scope dV kV doc pm an cdv ct), osl⟩) (hcd : PySem.W.codeIn K cdv qual = true) (S : FnScope N ps scope) (hn : N.length = n)
    (hbody : ∀ (A : Around) (outer : List PySem.Env) (s : Shared) (H : Hp), Sur k (A.deeper (envOfC qual scope s.heap.objs.size f cdv)) → DSs (cxOf CX0 P w K mg base N qual scope f cdv A outer s H fun _ _ _ => False).nox W0 T body b) :
    FnG P w K mg base (k + 1) f (PySem.W.fnOf x qual params body scope dV kV doc pm an cdv ct) ps (runDef T n b) := by
  refine ⟨fun A outer s H args us vs ds μ M Q hr e0 hb r hlen rm rvs h => ?_⟩
  have hl : vs.length = ps.length := by rw [← rvs.length]; exact hlen
  have hin : K.In s.heap := e0.mod.kin.keeps fun b o e => (e0.bs b o e).1
  have nolim : s.heap.NoLimit := e0.mod.nolimit.keeps fun b o e => (e0.bs b o e).1
  have kinds : ∀ y ∈ ps.zip us, scope.names.lookup y.1 = some .local ∨ (scope.names.lookup y.1 = some .cell ∧ ((cellsFrom (s.heap.objs.size + 1) scope.names []).lookup y.1).isSome = true) := by
    rintro ⟨nm, v⟩ hy
    exact (S.par nm (List.of_mem_zip hy).1).imp id fun q => ⟨q, PySem.W.cellsFrom_some _ _ _ (.inl q)⟩
  refine codeAny_call_function hr.room.depth (hin _ _ lk) rfl S.co S.gen rfl (PySem.W.codeRec_of hin hcd) (hb _ _ _ _ (wpAny_newFunctionEnv_cells S.kind kinds fun env he s1 xx => ?_))
  subst he
  refine ⟨nolim.keeps xx.toInCall.keep, codeAny_func ?_⟩
  have I : Inv (cxOf CX0 P w K mg base N qual scope f cdv A outer s H fun _ _ _ => False) [] (L2.start N vs) H s1 := inv_start S hr.room.hd e0 hl r xx
  have body := (hbody A outer s H (hr.deeper _)).nox
  have end_ : ∀ {σ' : L2.St} {H' : Hp} {s' : Shared} {v : V} {u : Value}, Inv (cxOf CX0 P w K mg base N qual scope f cdv A outer s H fun _ _ _ => False) [] σ' H' s' → RelV v u → Q v H' → L2.CE outer P w H s Q u s' :=
    fun {_ _ _ v _} J rv q => ⟨v, _, J.os, J.bare, J.base, J.hok, rv, q⟩
  refine wpAny_mono (body.run [] s1 (L2.start N vs) H { nx := fun _ H' => Q .non H', rt := Q } I ⟨μ, M, ds.map some ++ List.replicate (N.length - ds.length) none, rm, start_rep rvs N, ?_⟩) ?_ (fun e s' hs => hs)
  · rw [hn]
    refine Wants.bndK (rel1 := RepFl K mg) h fun a b μ1 M1 H1 l1 rm1 r w => ?_
    match a, b, r, w with
    | .nx e, .nx σ', r, w => exact Wants.ret (a := D.non) (b := V.non) w rm1 .non
    | .rt d, .rt v, r, w => exact Wants.ret (a := d) (b := v) w rm1 r
    | .bk e, .bk σ', r, w => exact (show False from Wants.fail (M := M1) (rel := RepV K mg) w).elim
    | .ct e, .ct σ', r, w => exact (show False from Wants.fail (M := M1) (rel := RepV K mg) w).elim
  · intro scr s' hs
    match scr, hs with
    | .ret u, ⟨v, σ', H', J, rv, q⟩ => exact end_ J rv q
    | .next, ⟨σ', H', J, q⟩ => exact end_ (v := V.non) (u := Value.none) J rfl q
    | .brk, ⟨_, _, _, q⟩ => exact False.elim q
    | .cont, ⟨_, _, _, q⟩ => exact False.elim q
end DL
end
section
set_option Elab.async false
set_option linter.all false
set_option maxRecDepth 100000
set_option maxHeartbeats 2000000
/-! DL, part o: enumerate of a tuple. -/
namespace DL
open PySem PySem.Spec PyProof.Rows L2
/-- the iterator's record -/
abbrev tupIt (a : Addr) : Obj := { cls := .type "tuple_iterator", data := .fields #[.ref a, .int 0 0] }
abbrev enumOb (i : Addr) : Obj := { cls := .type "enumerate", data := .fields #[.none, .bool false, .ref i, rawInt 0, .none, .none] }
theorem enumT_new (a : Addr) (vals : Array Value) : Meets (Builtin.«enumerate.__new__» ⟨[.type "enumerate", .ref a], []⟩)
    (fun _ R s => s.heap.IsTuple a vals ∧ R (.ok (.ret (.ref (s.heap.push (tupIt a)).objs.size))) { s with heap := (s.heap.push (tupIt a)).push (enumOb s.heap.objs.size) }) :=
  .of_wp fun prog w A R s h => by
    obtain ⟨hp, gn, dr, tk, os⟩ := s
    obtain ⟨ht, h⟩ := h
    have hsub := sub_enumerate
    have q1 : ∀ {A' : Around} {E : Value → Shared → Prop} {Q : Value → Shared → Prop}, Q (.ref hp.objs.size) ⟨hp.push (tupIt a), gn, dr, tk, os⟩ → wpAny (model prog w) A' (pyIter (.ref a)) Q E ⟨hp, gn, dr, tk, os⟩ := fun q => wpAny_pyIter_tuple ht q
    wp_walk using q1
    refine wpAny_stack_any fun st => wpAny_pure ?_
    split
    · rename_i c _ _ _ _ _
      cases (c == Value.type "enumerate") <;> (wp_walk using q1; exact ⟨_, rfl, h⟩)
    · wp_walk using q1
      exact ⟨_, rfl, h⟩
theorem enumT_call {prog : Program} {w : World} {A : Around} {E : Value → Shared → Prop} {s : Shared} {a : Addr} {vals : Array Value} {Q : Value → Shared → Prop} (ht : s.heap.IsTuple a vals)
    (h : ∀ h', IsEnum h' (s.heap.objs.size + 1) s.heap.objs.size 0 .none → h'.get? s.heap.objs.size = some (tupIt a) → (∀ b o, s.heap.get? b = some o → h'.get? b = some o) → Q (.ref (s.heap.objs.size + 1)) { s with heap := h' }) :
    wpAny (model prog w) A (call (.type "enumerate") [.ref a]) Q E s := by
  refine callType_new F.called_enumerate (by decide) (F.typeCall_enumerate_1 _) (F.newCall_enumerate_1 _) (fun obj => F.args_object_init_2 obj _) F.entry_enumerate_new (enumT_new a vals) ⟨ht, ?_⟩
  have size1 : (s.heap.push (tupIt a)).objs.size = s.heap.objs.size + 1 := Heap.size_push ..
  show _ ∧ _
  rw [size1]
  have laid : ((s.heap.push (tupIt a)).push (enumOb s.heap.objs.size)).get? (s.heap.objs.size + 1) = some (enumOb s.heap.objs.size) := by
    rw [← size1]
    exact Heap.get?_push_size _ rfl
  exact ⟨⟨_, laid, rfl⟩, h _ laid (Heap.get?_push_of_some _ (Heap.get?_push_size _ rfl)) fun b o x => Heap.get?_push_of_some _ (Heap.get?_push_of_some _ x)⟩
/-- the tuple at a, each item in a new pair with its number -/
def IteT (K : PySem.W.Frag) (a : Addr) : It :=
  ⟨fun i H => ∃ xs x, SqT K H a xs ∧ xs[i]? = some x, fun i H v H' => ∃ T x, v = .ref T ∧ H T = none ∧ H' = upd H T (.tup [.int (i : Nat), x]) ∧ ∀ xs, SqT K H a xs → xs[i]? = some x, fun i H => ∃ xs, SqT K H a xs ∧ xs.length ≤ i⟩
theorem turn_enumT {P : Program} {w : World} {K : PySem.W.Frag} {elts : List Expr} {kk : Nat} {tpos : Pos} (a e it : Addr) :
    Turn P w K (.Tuple elts kk tpos) (IteT K a) [e, it] e (fun i h => (∃ old, IsEnum h e it ((i : Nat) : Int) old) ∧ h.IsTupleIter it a i ∧ e ≠ it) where
  mem := List.mem_cons_self
  obj := fun i h ⟨⟨old, he⟩, ⟨o, ho, _, hd⟩, _⟩ b hb => by
    rcases List.mem_cons.mp hb with rfl | hb
    · exact ⟨_, he, fun v q => nomatch q⟩
    · rw [List.mem_singleton.mp hb]
      exact ⟨o, ho, fun v q => by rw [hd] at q; cases q⟩
  keep := fun i h h' ⟨⟨old, he⟩, hi, hne⟩ k => ⟨⟨old, k e List.mem_cons_self _ he⟩, hi.at fun o q => k it (List.mem_cons_of_mem _ List.mem_cons_self) o q, hne⟩
  item := by
    intro X hP hw hK hc i pins s σ H E I hf ⟨⟨old, he⟩, hit, hne⟩ ⟨xs, x, hq, hx⟩
    subst hP hw hK
    obtain ⟨its, rv, p, hz⟩ := I.tuple hq
    obtain ⟨u, hu, ru⟩ := rv.get hx
    have le : e < s.heap.objs.size := Heap.lt_size he
    have li : it < s.heap.objs.size := by
      obtain ⟨_, q, _⟩ := hit
      exact Heap.lt_size q
    have la : a < s.heap.objs.size := by
      obtain ⟨_, q, _⟩ := p
      exact Heap.lt_size q
    have fit := hf it (List.mem_cons_of_mem _ List.mem_cons_self)
    have fe := hf e List.mem_cons_self
    have na : a ≠ it ∧ a ≠ e := by
      have known : ∀ b, FpOk X pins H b → (∀ o, s.heap.get? b = some o → o.cls ≠ .type "tuple") → a ≠ b := by
        rintro b _ hcl rfl
        obtain ⟨o, q, c, _⟩ := p
        exact hcl o q c
      refine ⟨known it fit fun o q => ?_, known e fe fun o q => ?_⟩
      · obtain ⟨o', q', c', _⟩ := hit
        rw [q] at q'
        cases q'
        rw [c']
        decide
      · have he' : s.heap.get? e = some _ := he
        rw [q] at he'
        cases he'
        show Value.type "enumerate" ≠ Value.type "tuple"
        decide
    have lt : i < its.toArray.size := by
      have := (List.getElem?_eq_some_iff.mp hu).1
      simpa using this
    refine wpAny_pyNext_enum_itemD (Draws.tuple (A := X.A.in1) (I.ok.hd hc) it a na.1 its.toArray) he ⟨hit, show s.heap.IsTuple a its.toArray from p⟩ lt hne (by simp [hne, Ne.symm na.2]) fun y h' tk hy ho hs hT hsz hk => ?_
    have hyu : y = u := by
      have q : its.toArray[i]? = some u := by simpa using hu
      rw [q] at hy
      exact (Option.some.inj hy).symm
    subst hyu
    refine ⟨_, rfl, wpAny_letOwnedTupleGo_enum (s := { s with heap := h', toks := tk + 1 }) ho fun h'' he' sb => ?_⟩
    have hT2 : h''.get? s.heap.objs.size = some { cls := .type "tuple", data := .seq #[.int i tk, y] } := (sb.2 _ (Nat.ne_of_gt le)).trans hT
    have new : ObjOk X.prog X.w (upd H s.heap.objs.size (.tup [.int (i : Nat), x])) h'' s.heap.objs.size (.tup [.int (i : Nat), x]) :=
      ⟨by show 2 ≤ sizeLine; decide, [.int i tk, y], .cons ⟨_, rfl⟩ (.cons ru .nil), ⟨_, hT2, rfl, _, rfl⟩⟩
    have ne1 : ∀ {b : Addr}, b ∉ [e, it] → b ≠ e ∧ b ≠ it := fun hb => ⟨fun z => hb (by simp [z]), fun z => hb (by simp [z])⟩
    have I1 : Inv X pins σ (upd H s.heap.objs.size (.tup [.int (i : Nat), x])) { s with heap := h'', toks := tk + 1 } :=
      I.turnedNew (ch := [e, it]) (fun b ob hb q => (sb.2 b (ne1 hb).1).trans (hk b ob (ne1 hb).1 (ne1 hb).2 q)) hf (Nat.le_refl _) new
    refine ⟨.ref s.heap.objs.size, _, I1, rfl, ⟨_, x, rfl, I.hok.fresh (Nat.le_refl _), rfl, fun ys hy => by rw [I.tuple_inj hy hq]; exact hx⟩, ⟨⟨y, ?_⟩, hs.1.at fun o q => (sb.2 it (Ne.symm hne)).trans q, hne⟩, fun b hb => ?_⟩
    · have e1 : ((i + 1 : Nat) : Int) = (i : Int) + 1 := by omega
      rw [e1]
      exact he'
    · have lb : b < s.heap.objs.size := by
        rcases List.mem_cons.mp hb with rfl | hb
        · exact le
        · rw [List.mem_singleton.mp hb]
          exact li
      rw [upd_ne (Nat.ne_of_lt lb)]
      exact (hf b hb).1
  done := by
    intro X hP hw hK hc i pins s σ H E I hf ⟨⟨old, he⟩, hit, hne⟩ ⟨xs, hq, hx⟩
    subst hP hw hK
    obtain ⟨its, rv, p, hz⟩ := I.tuple hq
    have fit := hf it (List.mem_cons_of_mem _ List.mem_cons_self)
    obtain ⟨f0, f1, f2, f3, f4, f5⟩ := fit
    have hl := rv.length
    have out : its.toArray[i]? = none := by simp; omega
    have hT : s.TypeIs (.ref e) "enumerate" := ⟨_, he, rfl⟩
    unfold pyNext
    refine wpAny_bind (wpAny_attempt (wpAny_callSpecial?_slot (name := Str.ofString "__next__") hT F.slot_enumerate_next (wpAny_call_entry F.slot_enumerate_next hT F.entry_enumerate_next ?_ (F.args_enumerate_next_1 _))))
    show wpAny _ _ (field (.ref e) 2 >>= _) _ _ _
    refine wpAny_bind (wpAny_field he rfl (x := .ref it) rfl (wpAny_bind (wpAny_nextOf_tuple_end (I.ok.hd hc) hit (show s.heap.IsTuple a its.toArray from p) out fun h' x ext ⟨o, ho, hcl⟩ => ?_)))
    exact wpAny_bind (wpAny_isInstance (T := "StopIteration") (b := true) ⟨o, ho, hcl⟩ isSubtype_stop (wpAny_pure ⟨rfl, I.turned (t' := s.toks) (fun b o hb q => ext b o hb q) f0 f1 f3 f4 f5⟩))
  self := fun A i s Q E ⟨⟨_, he⟩, _⟩ h => wpAny_pyIter_enum he h
def iEnumT (K : PySem.W.Frag) (ta : TA) : TI := fun σ H R => ta σ H fun vs H1 => ∃ a xs, vs = [.ref a] ∧ SqT K H1 a xs ∧ R (IteT K a) H1
theorem pi_enumT {X : Cx} {e : Expr} {ta : TA} {p pos tpos : Pos} {elts : List Expr} {kk : Nat} (hg : Gl X "enumerate") (hm : X.mg "enumerate" = none) (ha : PA X [e] ta) (hs : starEach [e] X.env = [(false, eval e X.env)]) :
    PI X (.Tuple elts kk tpos) (.Call (.Name "enumerate" p) [e] [] pos) (iEnumT X.K ta) := by
  refine ⟨fun pins s σ H R I h => Call_ (ld_blt I hg hm boot_enumerate (PyProof.Rows.callWith_type1 (thn (ha.run pos pins s σ H _ I h) fun us s1 ⟨vs, H1, I1, r1, a, xs, ex, hq, q⟩ => ?_) hs rfl))⟩
  subst ex
  cases r1 with
  | cons r rr =>
    cases rr
    cases r
    obtain ⟨its, rv, p', hz⟩ := I1.tuple hq
    refine enumT_call (show s1.heap.IsTuple a its.toArray from p') fun h' he hit hk => wpAny_pyIter_enum he ?_
    refine ⟨s1.heap.objs.size + 1, [s1.heap.objs.size + 1, s1.heap.objs.size], _, _, H1, rfl, I1.kept (t' := s1.toks) hk, turn_enumT a _ _, ⟨⟨.none, he⟩, ⟨_, hit, rfl, rfl⟩, Nat.succ_ne_self _⟩, fun b hb => ?_, q⟩
    have lb : s1.heap.objs.size ≤ b := by
      rcases List.mem_cons.mp hb with rfl | hb
      · exact Nat.le_succ _
      · rw [List.mem_singleton.mp hb]
        exact Nat.le_refl _
    exact I1.fpOk lb (I1.hok.fresh lb)
section
variable {X : Cx} {W : XW} {T : Tab} {pos p : Pos}
theorem walk_enumT {μ : List Addr} {M : Mem} {H : Hp} {a : Addr} {vs : List V} {ds : List D} (rm : RepM X.K X.mg μ M H) (hq : SqT X.K H a vs) (r : RepVs X.K X.mg μ H ds vs) : WalkOk X.K X.mg (IteT X.K a) none (numbered 0 ds) μ H := by
  intro μ1 M1 H1 l rm1 hc
  have hq := l.sqT rm.sto hq
  have r := r.up l rm
  refine ⟨fun i hi => ⟨vs, hq, by rw [← r.length]; rw [numbered_len] at hi; exact Nat.le_of_eq hi⟩, fun i d hd => ?_⟩
  have hlt : i < ds.length := by
    have := (List.getElem?_eq_some_iff.mp hd).1
    rwa [numbered_len] at this
  rw [numbered_get 0 ds i ds[i] (List.getElem?_eq_getElem hlt)] at hd
  cases hd
  obtain ⟨v, hv, rv⟩ := r.get (List.getElem?_eq_getElem hlt)
  refine ⟨⟨vs, v, hq, hv⟩, fun x H' y => ?_⟩
  obtain ⟨TT, w, ex, hT, eH, hx⟩ := y
  subst ex
  subst eH
  have := hx vs hq
  rw [hv] at this
  cases this
  have e0 : ((0 + i : Nat) : Int) = (i : Int) := by rw [Nat.zero_add]
  rw [e0]
  exact rep_pair rm1 hT (.int _) rv
theorem di_enumA {ae : Expr} {elts : List Expr} {kk : Nat} {tpos : Pos} {a : CE} (hg : Gl X "enumerate") (hm : X.mg "enumerate" = none) (ha : DE X W T ae a) (hs : starEach [ae] X.env = [(false, eval ae X.env)]) : DI X W T (.Tuple elts kk tpos) (.Call (.Name "enumerate" p) [ae] [] pos) (.enum a) :=
  pi_imp (pi_or (pi_enumT hg hm (pa_cons ha pa_nil hs) hs) (di_enum (W := W) (T := T) hg hm ha hs)) fun σ H R ⟨μ, M, env, rm, rs, h⟩ => by
    by_cases hh : ∃ ds M', evE T a env M = some (.ok (.tup ds), M')
    · obtain ⟨ds, M', e⟩ := hh
      refine .inl (tD_bndP (fun d => d = .tup ds) rm rs h (f := fun x env => bnd (seqG x) fun p => ret (numbered 0 p.1, p.2)) (fun d M2 e2 => by rw [e] at e2; cases e2; rfl) fun v H1 μ1 M1 d l1 rm1 rs1 rv hd w => ?_)
      subst hd
      cases rv with | @tup aa vs ds hq r => ?_
      exact ⟨aa, vs, rfl, SqT.of hq, Wants.some (a := (numbered 0 ds, none)) w (Le.refl _ _) rm1 (walk_enumT rm1 (SqT.of hq) r)⟩
    · by_cases hp : ∃ ds M', evE T a env M = some (.ok (.pt ds), M')
      · obtain ⟨ds, M', e⟩ := hp
        refine .inl (tD_bndP (fun d => d = .pt ds) rm rs h (f := fun x env => bnd (seqG x) fun p => ret (numbered 0 p.1, p.2)) (fun d M2 e2 => by rw [e] at e2; cases e2; rfl) fun v H1 μ1 M1 d l1 rm1 rs1 rv hd w => ?_)
        subst hd
        cases rv with | @pt aa _ vs ds hq _ r => ?_
        have hq : SqT X.K H1 aa vs := .inl (.inr ⟨_, hq⟩)
        exact ⟨aa, vs, rfl, hq, Wants.some (a := (numbered 0 ds, none)) w (Le.refl _ _) rm1 (walk_enumT rm1 hq r)⟩
      · exact .inr ⟨μ, M, env, rm, rs, h, fun ds M' => ⟨fun e => hh ⟨ds, M', e⟩, fun e => hp ⟨ds, M', e⟩⟩⟩
end
end DL
end
section
set_option Elab.async false
set_option linter.all false
set_option maxRecDepth 100000
set_option maxHeartbeats 2000000
/-! DL, part q: len, str, bool, == and != of own instances. -/
namespace DL
open PySem PySem.Spec PyProof.Rows L2
section
variable {X : Cx} {W : XW} {T : Tab} {σ : L2.St} {H : Hp} {pos p : Pos}
theorem fr_of {pins : List (Addr × Obj)} {s : Shared} (I : Inv X pins σ H s) : ∃ m, PyProof.Rows.Fr X.base X.env.locals s.heap m := by
  obtain ⟨m, hn, _⟩ := I.loc
  exact ⟨m, hn, fun b o e => I.bk b o e, Nat.le_trans I.ok.bsz I.ok.above⟩
theorem run_at {A' : Around} {pins : List (Addr × Obj)} {s : Shared} {k n : Nat} {f : Addr} {fd : FuncData} {ps : List Str} {sel : List Sel} {fm : FM} {us : List Value} {vs : List V} {ds as : List D} {μ : List Addr} {M : Mem} {Q : VK}
    (F : FnG X.prog X.w X.K X.mg X.base k f fd ps fm) (hr : Sur k A') (I : Inv X pins σ H s) (e0 : Env0 X.prog X.w X.K X.mg X.base A' X.stack s H) (hb : BindG X.K X.mg fd ps n [] sel) (r : Vals vs us) (ln : us.length = n) (rm : RepM X.K X.mg μ M H) (q : RepVs X.K X.mg μ H ds vs) (e : selD ds sel = some as)
    (h : Wants X.K X.mg W0 (RepV X.K X.mg) (fm as M) μ H Q) : wpAny (model X.prog X.w) A' (call (.ref f) us) (EP X pins σ Q) X.xe s := by
  obtain ⟨rs, hbind, hsel⟩ := hb.to s us [] I.kIn ln rfl
  obtain ⟨rv, r3, q3⟩ := hsel vs μ H ds as (by rw [List.append_nil]; exact r) q e
  exact wpAny_call (codeAny_mono (F.run A' X.stack s H _ rs rv as μ M Q hr e0 hbind r3 ((selD_length e).trans hb.len) rm q3 h) (back_w I))
theorem optF_k {fm : FM} {vs : List D} {g : D → R D} {M : Mem} {μ : List Addr} {Q : VK} {o : Option FM} (ho : o = some fm) (h : Wants X.K X.mg W (RepV X.K X.mg) (bnd (optF o vs) g M) μ H Q) :
    Wants X.K X.mg W0 (RepV X.K X.mg) (fm vs M) μ H (fun v H1 => ∃ μ1 M1 d, RepM X.K X.mg μ1 M1 H1 ∧ RepV X.K X.mg μ1 H1 d v ∧ Wants X.K X.mg W (RepV X.K X.mg) (g d M1) μ1 H1 Q) := by
  subst ho
  have z : Wants X.K X.mg W (RepV X.K X.mg) (optF (some fm) vs M) μ H _ := Wants.bndK (Q' := fun v H1 => ∃ μ1 M1 d, RepM X.K X.mg μ1 M1 H1 ∧ RepV X.K X.mg μ1 H1 d v ∧ Wants X.K X.mg W (RepV X.K X.mg) (g d M1) μ1 H1 Q) h fun a b μ1 M1 H1 l1 rm1 r w => ⟨μ1, M1, a, rm1, r, w⟩
  exact Wants.noErr z
/-- what len, str, bool ask of an instance -/
def rDund (X : Cx) (W : XW) (T : Tab) (k : Dk) (c : Str) : List V → Hp → VK → Prop := fun vs H Q => ∃ μ M d v, vs = [v] ∧ RepM X.K X.mg μ M H ∧ RepV X.K X.mg μ H d v ∧ Wants X.K X.mg W (RepV X.K X.mg) (dundO T k c d M) μ H Q
/-- a method that is called with the object alone -/
structure DundG (X : Cx) (T : Tab) (c m : Str) (k : Nat) : Prop where
  ex : ∃ C f fd ps fm, MethG X T c m C f fd ps k fm ∧ BindG X.K X.mg fd ps 1 [] [.arg 0]
theorem dund_at {c m : Str} {k : Nat} {g : D → R D} {pins : List (Addr × Obj)} {s : Shared} {μ : List Addr} {M : Mem} {d : D} {v : V} {u : Value} {Q : VK} (G : DundG X T c m k) (I : Inv X pins σ H s) (ru : RelV v u) (rm : RepM X.K X.mg μ M H) (rv : RepV X.K X.mg μ H d v)
    (h : Wants X.K X.mg W (RepV X.K X.mg) (bnd (insOf c d) (fun _ => bnd (optF (methOf T c m) [d]) g) M) μ H Q) : ∃ C f a ox od, u = .ref a ∧ X.mg c = some (.ref C) ∧ PySem.W.findIn X.K (.ref C) m = some (some (.ref f)) ∧ PySem.W.isFn X.K (.ref f) = true ∧ PySem.W.InstAt s.heap a ox C (some od) ∧
      ∀ (A' : Around), Sur k A' → Env0 X.prog X.w X.K X.mg X.base A' X.stack s H → wpAny (model X.prog X.w) A' (call (.ref f) [.ref a]) (EP X pins σ fun v H1 => ∃ μ1 M1 d, RepM X.K X.mg μ1 M1 H1 ∧ RepV X.K X.mg μ1 H1 d v ∧ Wants X.K X.mg W (RepV X.K X.mg) (g d M1) μ1 H1 Q) X.xe s := by
  obtain ⟨C, f, fd, ps, fm, G, hb⟩ := G.ex
  obtain ⟨fs, hd, w⟩ := insOf_w h
  obtain ⟨a, dx, gs, ev, ea, rf⟩ := ins_anyC rm rv hd G.at_
  subst ev
  obtain rfl : u = Value.ref a := ru
  obtain ⟨mA, O, _, _, _, _⟩ := ins_get I.hok ea
  obtain ⟨od, J, _⟩ := O.look
  exact ⟨C, f, a, _, od, rfl, G.at_, G.mt.at_, G.mt.fn, J, fun A' hr e0 => run_at (vs := [V.ref a]) G.fn hr I e0 hb (.cons rfl .nil) rfl rm (.cons rv .nil) rfl (optF_k G.tab w)⟩
theorem dundD_len {d : D} {v : V} {M : Mem} {μ : List Addr} {Q : VK} (rm : RepM X.K X.mg μ M H) (rv : RepV X.K X.mg μ H d v) (w : Wants X.K X.mg W (RepV X.K X.mg) (dundD .len d M) μ H Q) : ∃ i : Int, v = .int i ∧ 0 ≤ i ∧ i < 2 ^ 62 ∧ Q (.int i) H := by
  cases rv with
  | int i =>
    have w : Wants X.K X.mg W (RepV X.K X.mg) ((if 0 ≤ i ∧ i < 2 ^ 62 then ret (.int i) else fail) M) μ H Q := w
    obtain ⟨⟨h0, h1⟩, w⟩ := ifT w
    exact ⟨i, rfl, h0, h1, Wants.ret (a := D.int i) w rm (.int i)⟩
  | _ => exact (by obtain ⟨_, _, e, _⟩ := w; cases e)
theorem dundD_str {d : D} {v : V} {M : Mem} {μ : List Addr} {Q : VK} (rm : RepM X.K X.mg μ M H) (rv : RepV X.K X.mg μ H d v) (w : Wants X.K X.mg W (RepV X.K X.mg) (dundD .str d M) μ H Q) : ∃ y, v = .str y ∧ Q (.str y) H := by
  cases rv with
  | str y => exact ⟨y, rfl, Wants.ret (M := M) (a := D.str y) w rm (.str y)⟩
  | _ => exact (by obtain ⟨_, _, e, _⟩ := w; cases e)
theorem dundD_bool {d : D} {v : V} {M : Mem} {μ : List Addr} {Q : VK} (rm : RepM X.K X.mg μ M H) (rv : RepV X.K X.mg μ H d v) (w : Wants X.K X.mg W (RepV X.K X.mg) (dundD .bool d M) μ H Q) : ∃ i : Int, v = .int i ∧ 0 ≤ i ∧ i < 2 ^ 62 ∧ Q (.bl (decide (i ≠ 0))) H := by
  cases rv with
  | int i =>
    have w : Wants X.K X.mg W (RepV X.K X.mg) ((if 0 ≤ i ∧ i < 2 ^ 62 then ret (.bl (decide (i ≠ 0))) else fail) M) μ H Q := w
    obtain ⟨⟨h0, h1⟩, w⟩ := ifT w
    exact ⟨i, rfl, h0, h1, Wants.ret (a := D.bl _) w rm (.bl _)⟩
  | _ => exact (by obtain ⟨_, _, e, _⟩ := w; cases e)
theorem lenO_C {c : Str} {k : Nat} (G : DundG X T c "__len__" k) (hr : Sur (k + 1) X.A) : CallR X (.builtin "len") (rDund X W T .len c) := by
  intro pins s σ H xs us Q I r ⟨μ, M, d, v, ex, rm, rv, h⟩
  subst ex
  obtain ⟨u, rfl, ru⟩ := vals1 r
  obtain ⟨C, f, a, ox, od, rfl, _, hs, hf, J, run⟩ := dund_at G I ru rm rv h
  obtain ⟨m, F⟩ := fr_of I
  refine PySem.W.len_K F I.ok.mod.kin J hs hf (wpAny_mono (run X.A.in1 hr.in1 I.env0.in1) (fun u s' ⟨v, H', I', rv', μ1, M1, d1, rm1, rd, w⟩ => ?_) fun _ _ z => z)
  obtain ⟨i, rfl, h0, h1, q⟩ := dundD_len rm1 rd w
  obtain ⟨t, rfl⟩ := rv'
  exact ⟨⟨h0, Int.lt_trans h1 (by decide)⟩, .int i, H', I'.tok _, ⟨_, rfl⟩, q⟩
theorem strO_C {c : Str} {k : Nat} (G : DundG X T c "__str__" k) (hr : Sur (k + 2) X.A) : CallR X (.type "str") (rDund X W T .str c) := by
  intro pins s σ H xs us Q I r ⟨μ, M, d, v, ex, rm, rv, h⟩
  subst ex
  obtain ⟨u, rfl, ru⟩ := vals1 r
  obtain ⟨C, f, a, ox, od, rfl, _, hs, hf, J, run⟩ := dund_at G I ru rm rv h
  refine PySem.W.kso_call (by have := hr.room.units0; have := hr.room.un; show X.A.units + 1 + 1 < cLine; omega) I.kIn J hs hf (wpAny_mono (run X.A.in1.in1 hr.in1.in1 I.env0.in1.in1) (fun u s' ⟨v, H', I', rv', μ1, M1, d1, rm1, rd, w⟩ => ?_) fun _ _ z => z)
  obtain ⟨y, rfl, q⟩ := dundD_str rm1 rd w
  obtain ⟨t, rfl⟩ := rv'
  exact ⟨.str y, H', I', ⟨_, rfl⟩, q⟩
/-- truth by __len__, where there is no __bool__ -/
theorem truthy_len {prog : Program} {w : World} {A : Around} {E : Value → Shared → Prop} {s : Shared} {K : PySem.W.Frag} {a C L f : Addr} {h₀ : Heap} {m : Str → Option Value} {ox : Obj} {od : Option Obj} {Q : Bool → Shared → Prop} (F : PyProof.Rows.Fr h₀ L s.heap m) (X₀ : K.In h₀) (J : PySem.W.InstAt s.heap a ox C od)
    (hb : PySem.W.findIn K (.ref C) "__bool__" = some none) (hs : PySem.W.findIn K (.ref C) "__len__" = some (some (.ref f))) (hf : PySem.W.isFn K (.ref f) = true)
    (h : wpAny (model prog w) A.in1 (call (.ref f) [.ref a]) (fun v s' => ∃ n t, v = .int n t ∧ (0 ≤ n ∧ n < 2 ^ 63) ∧ Q (n != 0) { s' with toks := s'.toks + 1 }) E s) : wpAny (model prog w) A (truthy (.ref a)) Q E s := by
  have X := X₀.keeps F.keep
  unfold truthy
  refine wpAny_bind (m := callSpecial? (.ref a) (Str.ofString "__bool__")) (wpAny_bind (wpAny_bind (J.type.here ((PySem.W.looks_findIn X hb).here (wpAny_pure ?_)))))
  refine wpAny_bind (wpAny_bind (J.type.here ((PySem.W.looks_findIn X hs).here ?_)))
  refine wpAny_bind (wpAny_runValue (codeAny_builtin entry_len ?_))
  rw [Around.under_plainId plain_len _]
  unfold Builtin.«len»
  refine wpAny_bind (m := oneArg "len" _) (wpAny_pure ?_)
  refine wpAny_bind (m := callSpecial? (.ref a) (Str.ofString "__len__")) (PySem.W.special_fn X J hs (beq_iff_eq.mp hf) (wpAny_mono h (fun r s' hr => ?_) fun _ _ y => y))
  obtain ⟨n, t, rfl, ⟨h0, h1⟩, hq⟩ := hr
  refine wpAny_bind (wpAny_holding (wpAny_pure ?_))
  refine wpAny_bind (wpAny_letGo ?_)
  show wpAny _ _ (if n < 0 then _ else _) _ _ _
  rw [if_neg (by omega)]
  show wpAny _ _ (if n ≥ 2 ^ 63 then _ else _) _ _ _
  rw [if_neg (by omega)]
  exact wpAny_bind (wpAny_mkInt (wpAny_pure (wpAny_pure hq)))
end
end DL
end
section
set_option Elab.async false
set_option linter.all false
set_option maxRecDepth 100000
set_option maxHeartbeats 2000000
/-! DL, part r: bool, == and != of own instances. -/
namespace DL
open PySem PySem.Spec PyProof.Rows L2
section
variable {X : Cx} {W : XW} {T : Tab} {σ : L2.St} {H : Hp} {pos p : Pos}
theorem bool_own {prog : Program} {w : World} {A : Around} {E : Value → Shared → Prop} {s : Shared} {a : Addr} {Q : Value → Shared → Prop} (h : wpAny (model prog w) A.in1.in1 (truthy (.ref a)) (fun b s' => Q (.bool b) s') E s) : wpAny (model prog w) A (call (.type "bool") [.ref a]) Q E s := by
  refine callType_codes (T := "bool") (Bi := Builtin.«object.__init__») (Q₁ := fun r s₁ => ∃ b, r = .bool b ∧ Q r s₁) PySem.F.called_bool (PySem.F.typeCall_bool_1 _) PySem.F.entry_object_init ?_ ?_
  · refine codeAny_of_tree ?_
    show wpAny _ A.in1.in1 (do checkBuiltinCall "bool.__new__" ⟨[.type "bool", .ref a], []⟩; again (.builtin "bool.__new__" ⟨[.type "bool", .ref a], []⟩)) _ _ s
    refine wpAny_bind (wpAny_of_eq (PySem.F.newCall_bool_1 _) (wpAny_pure ⟨plainId_quiet (by decide +kernel) _, codeAny_builtin PySem.F.entry_bool_new ?_⟩))
    rw [Around.under_plainId (by decide +kernel) _]
    have q1 : wpAny (model prog w) A.in1.in1 (truthy (.ref a)) (fun b s' => ∃ b', Value.bool b = .bool b' ∧ Q (.bool b) s') E s := wpAny_mono h (fun b s' q => ⟨b, rfl, q⟩) fun _ _ z => z
    have f1 := F.conv_sub_bool
    obtain ⟨hp, gn, dr, tk, os⟩ := s
    unfold Builtin.«bool.__new__»
    repeat (first | (refine wpAny_bind (wpAny_mono q1 (fun b s' q => ?_) fun _ _ z => z); exact wpAny_pure q) | wp_step)
  · rintro obj s₁ ⟨b, rfl, hq⟩
    exact ⟨rfl, PySem.F.args_object_init_2 _ _, object_init_meets PySem.F.called_bool.init.lookup PySem.F.called_bool.made (by decide) prog w A.in1 _ s₁ ⟨rfl, rfl, hq⟩⟩
theorem boolO_C {c : Str} {k : Nat} (G : DundG X T c "__len__" k) (hr : Sur (k + 3) X.A) (hno : ∀ C, X.mg c = some (.ref C) → PySem.W.findIn X.K (.ref C) "__bool__" = some none) : CallR X (.type "bool") (rDund X W T .bool c) := by
  intro pins s σ H xs us Q I r ⟨μ, M, d, v, ex, rm, rv, h⟩
  subst ex
  obtain ⟨u, rfl, ru⟩ := vals1 r
  obtain ⟨C, f, a, ox, od, rfl, hC, hs, hf, J, run⟩ := dund_at G I ru rm rv h
  obtain ⟨m, F⟩ := fr_of I
  refine bool_own (truthy_len F I.ok.mod.kin J (hno C hC) hs hf (wpAny_mono (run X.A.in1.in1.in1 hr.in1.in1.in1 I.env0.in1.in1.in1) (fun u s' ⟨v, H', I', rv', μ1, M1, d1, rm1, rd, w⟩ => ?_) fun _ _ z => z))
  obtain ⟨i, rfl, h0, h1, q⟩ := dundD_bool rm1 rd w
  obtain ⟨t, rfl⟩ := rv'
  have e : (i != 0) = decide (i ≠ 0) := by by_cases h : i = 0 <;> simp [h]
  exact ⟨i, t, rfl, ⟨h0, Int.lt_trans h1 (by decide)⟩, by rw [e]; exact ⟨.bl _, H', I'.tok _, rfl, q⟩⟩
/-! ### == and != -/
def rEq (X : Cx) (W : XW) (T : Tab) (ne : Bool) (c : Str) : R2 := fun x y H Q => ∃ μ M d e, RepM X.K X.mg μ M H ∧ RepV X.K X.mg μ H d x ∧ RepV X.K X.mg μ H e y ∧ Wants X.K X.mg W (RepV X.K X.mg) (eqO T ne c d e M) μ H Q
structure EqG (X : Cx) (T : Tab) (c : Str) (k : Nat) : Prop where
  ex : ∃ C f fd ps fm, X.mg c = some (.ref C) ∧ PySem.W.findIn X.K (.ref C) "__eq__" = some (some (.ref f)) ∧ PySem.W.isFn X.K (.ref f) = true ∧ FnG X.prog X.w X.K X.mg X.base k f fd ps fm ∧ BindG X.K X.mg fd ps 2 [] [.arg 0, .arg 1] ∧ eqmOf T c = some fm ∧
    PySem.W.findIn X.K (.ref C) "__ne__" = some (some (.builtin "object.__ne__")) ∧ PySem.W.mroIn X.K C (.type "object") = some true ∧
    (∀ t ∈ ["NoneType", "bool", "int", "str", "tuple", "list"], PySem.W.notFirst X.K C (.type t) = true) ∧ ∀ c' ct, T.cls c' = some ct → ∀ C', X.mg c' = some (.ref C') → InsTy X.K C' ∧ PySem.W.notFirst X.K C (.ref C') = true
theorem ty_any {C : Addr} {μ : List Addr} {M : Mem} {d : D} {v : V} (tys : ∀ t ∈ ["NoneType", "bool", "int", "str", "tuple", "list"], PySem.W.notFirst X.K C (.type t) = true) (ins : ∀ c' ct, T.cls c' = some ct → ∀ C', X.mg c' = some (.ref C') → InsTy X.K C' ∧ PySem.W.notFirst X.K C (.ref C') = true)
    (rm : RepM X.K X.mg μ M H) (rv : RepV X.K X.mg μ H d v) (ho : insOk T M d = true) (hd : plainR d = true) : ∃ t, TyX X.K H v t ∧ PySem.W.notFirst X.K C t = true := by
  cases rv with
  | non => exact ⟨_, .base .non, tys _ (by decide)⟩
  | bl x => exact ⟨_, .base (.bl x), tys _ (by decide)⟩
  | int x => exact ⟨_, .base (.int x), tys _ (by decide)⟩
  | str x => exact ⟨_, .base (.str x), tys _ (by decide)⟩
  | tup h r => exact ⟨_, tyx_tup (SqT.of h), tys _ (by decide)⟩
  | scr h r => exact ⟨_, tyx_scr h, tys _ (by decide)⟩
  | fl h _ r => exact ⟨_, .base (.lst h), tys _ (by decide)⟩
  | pt h _ r => exact ⟨_, tyx_tup (.inl (.inr ⟨_, h⟩)), tys _ (by decide)⟩
  | @ref k a hk =>
    have ho : (match insAny M (.ref k) with | some (c, _) => (T.cls c).isSome | none => notDct M (.ref k)) = true := ho
    unfold insAny at ho
    dsimp only at ho
    have hlt : k < M.length := by
      rw [← rm.len]
      exact (List.getElem?_eq_some_iff.mp hk).1
    cases hm : M[k] with
    | lst ds =>
      obtain ⟨vs, h1, _⟩ := rm.obj _ _ _ hk (by rw [List.getElem?_eq_getElem hlt, hm])
      exact ⟨_, .base (.lst h1), tys _ (by decide)⟩
    | ins c' fs =>
      have hM : M[k]? = some (.ins c' fs) := by rw [List.getElem?_eq_getElem hlt, hm]
      rw [hM] at ho
      obtain ⟨ct, hct⟩ := Option.isSome_iff_exists.mp ho
      obtain ⟨C', dx, gs, hC, h1, _⟩ := rm.obj _ _ _ hk hM
      obtain ⟨t, k1⟩ := ins c' ct hct C' hC
      exact ⟨_, tyx_ins t h1, k1⟩
    | dct z kvs =>
      have hM : M[k]? = some (.dct z kvs) := by rw [List.getElem?_eq_getElem hlt, hm]
      rw [hM] at ho
      dsimp only at ho
      unfold notDct at ho
      dsimp only at ho
      rw [hM] at ho
      cases ho
  | glo _ _ => cases hd
  | bty _ => cases hd
  | ob hC h1 _ _ _ =>
    obtain ⟨ct, hct⟩ := Option.isSome_iff_exists.mp ho
    obtain ⟨t, k1⟩ := ins _ ct hct _ hC
    exact ⟨_, tyx_ins t h1, k1⟩
theorem isS_of {c : Str} {ne : Bool} {d e : D} {M : Mem} {μ : List Addr} {Q : VK} (h : Wants X.K X.mg W (RepV X.K X.mg) (eqO T ne c d e M) μ H Q) : (insOk T M e = true ∧ plainR e = true) ∧ Wants X.K X.mg W (RepV X.K X.mg) (bnd (insOf c d) (fun _ => bnd (optF (eqmOf T c) [d, e]) fun r => bnd (asBl r) fun b => ret (.bl (if ne = true then !b else b))) M) μ H Q := by
  unfold eqO at h
  exact h.iteN
theorem objNe_own {prog : Program} {w : World} {A : Around} {E : Value → Shared → Prop} {s : Shared} {K : PySem.W.Frag} {a C f : Addr} {ox : Obj} {od : Option Obj} {u : Value} {Q : Option Value → Shared → Prop} (hu : A.in1.units < cLine) (X : K.In s.heap) (J : PySem.W.InstAt s.heap a ox C od)
    (hn : PySem.W.findIn K (.ref C) "__ne__" = some (some (.builtin "object.__ne__"))) (hm : PySem.W.mroIn K C (.type "object") = some true) (hs : PySem.W.findIn K (.ref C) "__eq__" = some (some (.ref f))) (hf : PySem.W.isFn K (.ref f) = true)
    (h : wpAny (model prog w) A.in1 (call (.ref f) [.ref a, u]) (fun v s' => ∃ b, v = .bool b ∧ Q (some (.bool (!b))) s') E s) : wpAny (model prog w) A (callSpecialIfBound? (.ref a) "__ne__" [u]) Q E s := by
  have inner : wpAny (model prog w) A (call (.builtin "object.__ne__") [.ref a, u]) (fun v => Q (some v)) E s := by
    refine wpAny_call (codeAny_call_builtin PySem.F.slot_object_ne.plain PySem.F.cmpEntry_ne (PySem.W.check_slot (i := "object.__ne__") (owner := "object") (n := "__ne__") PySem.F.cmpKind_ne PySem.F.cmpSplit_ne (J.type.andThen (PySem.W.looks_mroIn X hm)) (PySem.F.cmpArgs_ne _ _) ?_))
    unfold Builtin.«object.__ne__»
    refine wpAny_bind (m := slotArgs "__ne__" 1 _) (wpAny_pure ?_)
    refine wpAny_bind (m := cRoomFor _ _) (wpAny_cRoomFor hu ?_)
    refine wpAny_bind (m := callSpecialIfBound? (.ref a) (Str.ofString "__eq__") [u]) (PySem.W.ifBound_K X J hs hf (wpAny_mono h (fun r s' hr => ?_) fun _ _ z => z))
    obtain ⟨b, rfl, hq⟩ := hr
    refine wpAny_bind (wpAny_truthy_bool (wpAny_pure hq))
  simp only [callSpecialIfBound?, bindSpecialIfBound?]
  refine wpAny_holding (wpAny_bind (wpAny_bind (wpAny_bind (J.type.here ((PySem.W.looks_findIn X hn).here ?_)))))
  refine wpAny_bind (wpAny_askSetting (wpAny_ite ?_))
  have fin : wpAny (model prog w) A (call (.builtin "object.__ne__") ([.ref a] ++ [u]) >>= fun v => pure (some v)) Q E s := wpAny_bind (wpAny_mono inner (fun v s' h' => wpAny_pure h') fun _ _ h' => h')
  have bnd_ := PySem.W.Looks.of_pure (M := model prog w) (h := s.heap) (PySem.F.slot_object_ne.bind (.ref a))
  split
  · exact wpAny_bind (bnd_.here (wpAny_pure (by exact fin)))
  · exact wpAny_tryCatch (wpAny_bind (bnd_.here (wpAny_pure (by exact fin))))
theorem eq_core {c : Str} {k : Nat} {ne : Bool} {op : CmpOp} (hop : op = if ne then .NotEq else .Eq) (G : EqG X T c k) (hr : Sur (k + 1) X.A) : OpR X (compareOp op) (rEq X W T ne c) := by
  intro pins s σ H x y v u Q I rx ry ⟨μ, M, d, e, rm, rd, re, h⟩
  obtain ⟨C, f, fd, ps, fm, hC, hs, hf, F, hb, ht, hn, hm, tys, ins⟩ := G.ex
  obtain ⟨⟨ho, hp⟩, w⟩ := isS_of h
  obtain ⟨fs, hd, w⟩ := insOf_w w
  obtain ⟨a, dx, gs, ev, ea, rf⟩ := ins_anyC rm rd hd hC
  subst ev
  obtain rfl : v = Value.ref a := rx
  obtain ⟨mA, O, _, _, _, _⟩ := ins_get I.hok ea
  obtain ⟨od, J, _⟩ := O.look
  obtain ⟨m, Fr⟩ := fr_of I
  obtain ⟨t, ty, nf⟩ := ty_any tys ins rm re ho hp
  obtain ⟨P, Z, pz, _⟩ := kit_of I ry ty
  have LB := Z.ty (model X.prog X.w) s.heap I.kIn pz
  have z := optF_k ht w
  have done : ∀ {v' : V} {H1 : Hp} {μ1 : List Addr} {M1 : Mem} {d1 : D}, RepM X.K X.mg μ1 M1 H1 → RepV X.K X.mg μ1 H1 d1 v' → Wants X.K X.mg W (RepV X.K X.mg) (bnd (asBl d1) (fun b => ret (.bl (if ne = true then !b else b))) M1) μ1 H1 Q → ∃ b, v' = .bl b ∧ Q (.bl (if ne = true then !b else b)) H1 := by
    intro v' H1 μ1 M1 d1 rm1 rd w
    cases rd with
    | bl b => exact ⟨b, rfl, Wants.ret (M := M1) (a := D.bl (if ne = true then !b else b)) w rm1 (.bl _)⟩
    | _ => exact (by obtain ⟨_, _, q, _⟩ := w; cases q)
  have units : X.A.in1.units < cLine := by have := hr.room.units; show X.A.units + 1 < cLine; omega
  unfold compareOp
  cases ne with
  | false =>
    subst hop
    have call := run_at (us := [.ref a, u]) (vs := [V.ref a, y]) F (hr.mono (Nat.le_succ _)) I I.env0 hb (.cons rfl (.cons ry .nil)) rfl rm (.cons rd (.cons re .nil)) rfl z
    refine PySem.W.cmp_K (op := .Eq) hr.room.units0 Fr I.ok.mod.kin J LB nf hs hf (wpAny_mono call (fun v2 s2 ⟨v', H', I', rv', μ1, M1, d1, rm1, rd, w⟩ => ?_) fun _ _ z => z)
    obtain ⟨b, rfl, q⟩ := done rm1 rd w
    obtain rfl : v2 = Value.bool b := rv'
    exact ⟨.bl b, H', I', rfl, q⟩
  | true =>
    subst hop
    have call := run_at (us := [.ref a, u]) (vs := [V.ref a, y]) (A' := X.A.in1) F hr.in1 I I.env0.in1 hb (.cons rfl (.cons ry .nil)) rfl rm (.cons rd (.cons re .nil)) rfl z
    have one : wpAny (model X.prog X.w) X.A (tryCompare (.ref a) (cmpInfo .NotEq).2.1 u) (fun r s' => ∃ v, r = some v ∧ EP X pins σ Q v s') X.xe s := by
      unfold tryCompare
      refine wpAny_bind (objNe_own units I.kIn J hn hm hs hf (wpAny_mono call (fun v2 s2 ⟨v', H', I', rv', μ1, M1, d1, rm1, rd, w⟩ => ?_) fun _ _ z => z))
      obtain ⟨b, rfl, q⟩ := done rm1 rd w
      obtain rfl : v2 = Value.bool b := rv'
      exact ⟨b, rfl, wpAny_pure ⟨_, rfl, .bl (!b), H', I', rfl, q⟩⟩
    unfold richCompare
    simp only [oneThing_ref]
    refine wpAny_holding (wpAny_bind (wpAny_cRoomFor hr.room.units0 ?_))
    refine wpAny_bind (J.type.here (wpAny_bind (LB.here ?_)))
    have tail : wpAny (model X.prog X.w) X.A (do
        if let some v ← tryCompare (.ref a) (cmpInfo .NotEq).2.1 u then return v
        unsupported "") (EP X pins σ Q) X.xe s → True := fun _ => trivial
    by_cases q : (Value.ref C != t) = true
    · rw [if_pos q]
      have e : PySem.W.subIn X.K t (.ref C) = some false := by
        rcases Bool.or_eq_true_iff.mp nf with e | e
        · rw [beq_iff_eq.mp e] at q; simp at q
        · exact beq_iff_eq.mp e
      refine wpAny_bind ((PySem.W.looks_subIn I.kIn e).here ?_)
      simp only [Bool.false_eq_true, if_false]
      refine wpAny_bind (wpAny_mono one (fun r s' z => ?_) fun _ _ e => e)
      obtain ⟨v, rfl, hq⟩ := z
      exact wpAny_pure hq
    · rw [if_neg q]
      refine wpAny_bind (wpAny_pure ?_)
      simp only [Bool.false_eq_true, if_false]
      refine wpAny_bind (wpAny_mono one (fun r s' z => ?_) fun _ _ e => e)
      obtain ⟨v, rfl, hq⟩ := z
      exact wpAny_pure hq
end
end DL
end
section
set_option Elab.async false
set_option linter.all false
set_option maxRecDepth 100000
set_option maxHeartbeats 2000000
/-! DL, part s: the rules as a text uses them. -/
namespace DL
open PySem PySem.Spec PyProof.Rows L2
/-- what every rule asks of the place -/
structure Cok (X : Cx) (k : Nat) : Prop where
  calm : X.calm = true
  nd : X.N.Nodup
  sur : Sur k X.A
theorem Cok.blk {X : Cx} {k : Nat} (c : Cok X k) {s : Shared} {H : Hp} {scope : Scope} {env : PySem.Env} {fp : List Addr} : Cok (X.blk s H scope env fp) k := ⟨c.calm, c.nd, c.sur⟩
/-- the built-in names are not the module's -/
structure Blt (mg : Str → Option Value) : Prop where
  len : mg "len" = none
  abs : mg "abs" = none
  max : mg "max" = none
  min : mg "min" = none
  sum : mg "sum" = none
  any : mg "any" = none
  all : mg "all" = none
  sorted : mg "sorted" = none
  repr : mg "repr" = none
  int : mg "int" = none
  str : mg "str" = none
  list : mg "list" = none
  tuple : mg "tuple" = none
  bool : mg "bool" = none
  isinstance : mg "isinstance" = none
  enumerate : mg "enumerate" = none
  zip : mg "zip" = none
  range : mg "range" = none
section
variable {X : Cx} {W : XW} {T : Tab} {k : Nat} {a b c e : Expr} {es : List Expr} {ca cb cc ce : CE} {as : CEs} {pos p apos : Pos} {x : Str}
theorem e_v (i : Nat) (hN : X.N[i]? = some x := by rfl) (hv : Vis X.env.scope x := by first | exact Or.inl rfl | exact Or.inr (Or.inl rfl) | exact Or.inr (Or.inr rfl)) (hd : (x == ("__debug__" : Str)) = false := by decide) (hc : (x == ("__classdict__" : Str)) = false := by decide) : DE X W T (.Name x pos) (.var i) := de_var hN hv hd hc
theorem e_int {i : Int} {j} : DE X W T (.Constant (.int i) j pos) (.con (.int i)) := de_c pe_int fun _ _ => .int _
theorem e_bl {i : Bool} {j} : DE X W T (.Constant (.bool i) j pos) (.con (.bl i)) := de_c pe_bl fun _ _ => .bl _
theorem e_non {j} : DE X W T (.Constant .none j pos) (.con .non) := de_c pe_non fun _ _ => .non
theorem e_str {y : Str} {j} : DE X W T (.Constant (.str y) j pos) (.con (.str y)) := de_c pe_str fun _ _ => .str _
theorem e_glob {d : D} {v : V} {u : Value} (hm : X.mg x = some u) (r : RelV v u) (hv : ∀ μ H, RepV X.K X.mg μ H d v) (hg : Gl X x := by rfl) (hd : (x == ("__debug__" : Str)) = false := by decide) : DE X W T (.Name x pos) (.con d) := de_c (pe_glob hg hm r hd) hv
theorem e_bin (o : BinO) (ha : DE X W T a ca) (hb : DE X W T b cb) : DE X W T (.BinOp a (opOf o) b pos) (.bin o ca cb) := de_bin o ha hb
theorem e_neg (ha : DE X W T a ca) : DE X W T (.UnaryOp .USub a pos) (.neg ca) := de_neg ha
theorem e_cmp (C : Cok X k) (o : CmpO) (ha : DE X W T a ca) (hb : DE X W T b cb) (hm : behindInMarks (cmpOf o) b = false := by rfl) : DE X W T (.Compare a [cmpOf o] [b] pos) (.cmp o ca cb) := de_cmp C.sur.room o ha hb hm
theorem t_cmp (C : Cok X k) (o : CmpO) (ha : DE X W T a ca) (hb : DE X W T b cb) (hm : behindInMarks (cmpOf o) b = false := by rfl) : DT X W T (.Compare a [cmpOf o] [b] pos) (.bl (.cmp o ca cb)) := dt_cmp C.sur.room o ha hb hm
theorem e_chain (C : Cok X k) (o o' : CmpO) (ha : DE X W T a ca) (hb : DE X W T b cb) (hc : DE X W T c cc) (hm : lastMarks [cmpOf o, cmpOf o'] [b, c] = false := by rfl) : DE X W T (.Compare a [cmpOf o, cmpOf o'] [b, c] pos) (.chain o o' ca cb cc) := de_chain C.sur.room o o' ha hb hc hm
theorem t_chain (C : Cok X k) (o o' : CmpO) (ha : DE X W T a ca) (hb : DE X W T b cb) (hc : DE X W T c cc) (hm : lastMarks [cmpOf o, cmpOf o'] [b, c] = false := by rfl) : DT X W T (.Compare a [cmpOf o, cmpOf o'] [b, c] pos) (.bl (.chain o o' ca cb cc)) := dt_chain C.sur.room o o' ha hb hc hm
theorem e_ite {t : CT} (ht : DT X W T a t) (hb : DE X W T b cb) (hc : DE X W T c cc) : DE X W T (.IfExp a b c pos) (.ite t cb cc) := de_ite ht hb hc
theorem as_nil : DEs X W T [] .nil := da_nil
theorem as_cons (ha : DE X W T e ce) (hr : DEs X W T es as) (hs : starEach (e :: es) X.env = (false, eval e X.env) :: starEach es X.env := by rfl) : DEs X W T (e :: es) (.cons ce as) := da_cons ha hr hs
theorem e_tup {x1 : Nat} (h : DEs X W T es as) : DE X W T (.Tuple es x1 pos) (.tup as) := de_tup h
theorem e_lst (h : DEs X W T es as) : DE X W T (.List es pos) (.lst as) := de_lst h
theorem e_ix (ha : DE X W T a ca) (hb : DE X W T b cb) (hs : PlainIx b := by exact fun _ _ => rfl) : DE X W T (.Subscript a b pos) (.ix ca cb) := de_ix ha hb hs
theorem o_no : DO X W T none .no := do_no
theorem o_yes (ha : DE X W T a ca) : DO X W T (some a) (.yes ca) := do_yes ha
theorem e_slice {lo hi : Option Expr} {cl ch : CO} {p2 : Pos} (ha : DE X W T a ca) (hl : DO X W T lo cl) (hh : DO X W T hi ch) : DE X W T (.Subscript a (.Slice lo hi none p2) pos) (.slice ca cl ch) := de_slice ha hl hh
/-! ### tests -/
theorem t_val (ha : DE X W T a ca) (he : ∀ whole, isTrue a X.env whole = (do let v ← whole; standAt a.pos; holding [v] (truthy v)) := by intro _; rfl) : DT X W T a (.val ca) := dt_val ha he
theorem t_not {t : CT} (ha : DT X W T a t) : DT X W T (.UnaryOp .Not a pos) (.nt t) := dt_not ha
abbrev DW (X : Cx) (W : XW) (T : Tab) (e : Expr) (t : CT) : Prop := PW X e (tTD X.K X.mg W (evT T t))
theorem w_and1 {t : CT} (ha : DT X W T a t) : DW X W T (.BoolOp .And [a] pos) t := pw_and1 ha
theorem w_or1 {t : CT} (ha : DT X W T a t) : DW X W T (.BoolOp .Or [a] pos) t := pw_or1 ha
theorem w_and {t u : CT} {rest : List Expr} (ha : DT X W T a t) (hb : DW X W T (.BoolOp .And (b :: rest) pos) u) : DW X W T (.BoolOp .And (a :: b :: rest) pos) (.an t u) := dw_and ha hb
theorem w_or {t u : CT} {rest : List Expr} (ha : DT X W T a t) (hb : DW X W T (.BoolOp .Or (b :: rest) pos) u) : DW X W T (.BoolOp .Or (a :: b :: rest) pos) (.or t u) := dw_or ha hb
theorem t_bool {t : CT} (h : DW X W T a t) : DT X W T a t := h.pt
/-! ### and, or, not as values -/
theorem tru_w {α β : Type} {rel : List Addr → Hp → α → β → Prop} {d : D} {f : Bool → R α} {M : Mem} {μ : List Addr} {H : Hp} {Q : β → Hp → Prop} (h : Wants X.K X.mg W rel (bnd (tru d) f M) μ H Q) : ∃ k, truD M d = some k ∧ Wants X.K X.mg W rel (f k M) μ H Q := by
  obtain ⟨r, M', e, kk⟩ := h
  cases ht : truD M d with
  | none =>
    have z : tru d M = none := by unfold tru; rw [ht]
    unfold bnd at e
    rw [z] at e
    cases e
  | some k =>
    have z : tru d M = some (.ok k, M) := by unfold tru; rw [ht]
    unfold bnd at e
    rw [z] at e
    exact ⟨k, rfl, r, M', e, kk⟩
theorem e_and1 (ha : DE X W T a ca) : DE X W T (.BoolOp .And [a] pos) ca := ⟨fun pins s σ H Q I h => by
  have z := ha.run pins s σ H Q I h
  have e : eval (.BoolOp .And [a] pos) X.env = eval a X.env := by
    first
      | rfl
      | (rw [eval]; rfl)
      | (simp only [eval, boolOp]; rfl)
  rw [e]; exact z⟩
theorem e_or1 (ha : DE X W T a ca) : DE X W T (.BoolOp .Or [a] pos) ca := ⟨fun pins s σ H Q I h => by
  have z := ha.run pins s σ H Q I h
  have e : eval (.BoolOp .Or [a] pos) X.env = eval a X.env := by
    first
      | rfl
      | (rw [eval]; rfl)
      | (simp only [eval, boolOp]; rfl)
  rw [e]; exact z⟩
theorem e_and {rest : List Expr} (ha : DE X W T a ca) (hb : DE X W T (.BoolOp .And (b :: rest) pos) cb) : DE X W T (.BoolOp .And (a :: b :: rest) pos) (.andV ca cb) :=
  pe_imp (pe_andT ha hb) fun σ H Q ⟨μ, M, env, rm, rs, h⟩ => tD_bnd rm rs h (f := fun x env => bnd (tru x) fun k => if k = true then evE T cb env else ret x) fun v H1 μ1 M1 d l1 rm1 rs1 rv w => by
    obtain ⟨k, hk, w⟩ := tru_w w
    refine ⟨k, tru_v rm1 rv hk, ?_⟩
    cases k with
    | true => exact ⟨μ1, M1, env, rm1, rs1, w⟩
    | false => exact Wants.ret (M := M1) (a := d) w rm1 rv
theorem e_or {rest : List Expr} (ha : DE X W T a ca) (hb : DE X W T (.BoolOp .Or (b :: rest) pos) cb) : DE X W T (.BoolOp .Or (a :: b :: rest) pos) (.orV ca cb) :=
  pe_imp (pe_orT ha hb) fun σ H Q ⟨μ, M, env, rm, rs, h⟩ => tD_bnd rm rs h (f := fun x env => bnd (tru x) fun k => if k = true then ret x else evE T cb env) fun v H1 μ1 M1 d l1 rm1 rs1 rv w => by
    obtain ⟨k, hk, w⟩ := tru_w w
    refine ⟨k, tru_v rm1 rv hk, ?_⟩
    cases k with
    | false => exact ⟨μ1, M1, env, rm1, rs1, w⟩
    | true => exact Wants.ret (M := M1) (a := d) w rm1 rv
theorem e_not (ha : DE X W T a ca) : DE X W T (.UnaryOp .Not a pos) (.notV ca) :=
  pe_imp (pe_notT ha) fun σ H Q ⟨μ, M, env, rm, rs, h⟩ => tD_bnd rm rs h (f := fun x env => bnd (tru x) fun k => ret (D.bl (!k))) fun v H1 μ1 M1 d l1 rm1 rs1 rv w => by
    obtain ⟨k, hk, w⟩ := tru_w w
    exact ⟨k, tru_v rm1 rv hk, Wants.ret (M := M1) (a := D.bl (!k)) w rm1 (.bl _)⟩
/-! ### built-in functions -/
section
variable (C : Cok X k) (B : Blt X.mg) (ha : DEs X W T (e :: es) as)
include C B ha
theorem e_len (hg : Gl X "len" := by rfl) (he : starEach (e :: es) X.env = (false, eval e X.env) :: starEach es X.env := by rfl) (hpl : (backTo pos (starEach es X.env)).any (·.1) = false := by rfl) : DE X W T (.Call (.Name "len" p) (e :: es) [] pos) (.bcall .len as) := de_callB lenC hg B.len (by decide +kernel) (by decide +kernel) (by decide +kernel) ha he hpl
theorem e_abs (hg : Gl X "abs" := by rfl) (he : starEach (e :: es) X.env = (false, eval e X.env) :: starEach es X.env := by rfl) (hpl : (backTo pos (starEach es X.env)).any (·.1) = false := by rfl) : DE X W T (.Call (.Name "abs" p) (e :: es) [] pos) (.bcall .abs as) := de_callB absC hg B.abs (by decide +kernel) (by decide +kernel) (by decide +kernel) ha he hpl
theorem e_max (hg : Gl X "max" := by rfl) (he : starEach (e :: es) X.env = (false, eval e X.env) :: starEach es X.env := by rfl) (hpl : (backTo pos (starEach es X.env)).any (·.1) = false := by rfl) : DE X W T (.Call (.Name "max" p) (e :: es) [] pos) (.bcall .max as) := de_callB (maxC C.calm) hg B.max (by decide +kernel) (by decide +kernel) (by decide +kernel) ha he hpl
theorem e_min (hg : Gl X "min" := by rfl) (he : starEach (e :: es) X.env = (false, eval e X.env) :: starEach es X.env := by rfl) (hpl : (backTo pos (starEach es X.env)).any (·.1) = false := by rfl) : DE X W T (.Call (.Name "min" p) (e :: es) [] pos) (.bcall .min as) := de_callB (minC C.calm) hg B.min (by decide +kernel) (by decide +kernel) (by decide +kernel) ha he hpl
theorem e_sum (hg : Gl X "sum" := by rfl) (he : starEach (e :: es) X.env = (false, eval e X.env) :: starEach es X.env := by rfl) (hpl : (backTo pos (starEach es X.env)).any (·.1) = false := by rfl) : DE X W T (.Call (.Name "sum" p) (e :: es) [] pos) (.bcall .sum as) := de_callB (sumC C.calm) hg B.sum (by decide +kernel) (by decide +kernel) (by decide +kernel) ha he hpl
theorem e_any (hg : Gl X "any" := by rfl) (he : starEach (e :: es) X.env = (false, eval e X.env) :: starEach es X.env := by rfl) (hpl : (backTo pos (starEach es X.env)).any (·.1) = false := by rfl) : DE X W T (.Call (.Name "any" p) (e :: es) [] pos) (.bcall .any as) := de_callB (anyC C.calm) hg B.any (by decide +kernel) (by decide +kernel) (by decide +kernel) ha he hpl
theorem e_all (hg : Gl X "all" := by rfl) (he : starEach (e :: es) X.env = (false, eval e X.env) :: starEach es X.env := by rfl) (hpl : (backTo pos (starEach es X.env)).any (·.1) = false := by rfl) : DE X W T (.Call (.Name "all" p) (e :: es) [] pos) (.bcall .all as) := de_callB (allC C.calm) hg B.all (by decide +kernel) (by decide +kernel) (by decide +kernel) ha he hpl
theorem e_sorted (hg : Gl X "sorted" := by rfl) (he : starEach (e :: es) X.env = (false, eval e X.env) :: starEach es X.env := by rfl) (hpl : (backTo pos (starEach es X.env)).any (·.1) = false := by rfl) : DE X W T (.Call (.Name "sorted" p) (e :: es) [] pos) (.bcall .sorted as) := de_callB sortedC hg B.sorted (by decide +kernel) (by decide +kernel) (by decide +kernel) ha he hpl
theorem e_repr (hg : Gl X "repr" := by rfl) (he : starEach (e :: es) X.env = (false, eval e X.env) :: starEach es X.env := by rfl) (hpl : (backTo pos (starEach es X.env)).any (·.1) = false := by rfl) : DE X W T (.Call (.Name "repr" p) (e :: es) [] pos) (.bcall .repr as) := de_callB (reprC C.sur.gd C.sur.room) hg B.repr (by decide +kernel) (by decide +kernel) (by decide +kernel) ha he hpl
theorem e_intc (hg : Gl X "int" := by rfl) (he : starEach (e :: es) X.env = (false, eval e X.env) :: starEach es X.env := by rfl) (hpl : (backTo pos (starEach es X.env)).any (·.1) = false := by rfl) : DE X W T (.Call (.Name "int" p) (e :: es) [] pos) (.bcall .int as) := de_callTy intC hg B.int (by decide +kernel) (by decide +kernel) (by decide +kernel) ha he hpl
theorem e_strc (hg : Gl X "str" := by rfl) (he : starEach (e :: es) X.env = (false, eval e X.env) :: starEach es X.env := by rfl) (hpl : (backTo pos (starEach es X.env)).any (·.1) = false := by rfl) : DE X W T (.Call (.Name "str" p) (e :: es) [] pos) (.bcall .str as) := de_callTy strC hg B.str (by decide +kernel) (by decide +kernel) (by decide +kernel) ha he hpl
theorem e_listc (hg : Gl X "list" := by rfl) (he : starEach (e :: es) X.env = (false, eval e X.env) :: starEach es X.env := by rfl) (hpl : (backTo pos (starEach es X.env)).any (·.1) = false := by rfl) : DE X W T (.Call (.Name "list" p) (e :: es) [] pos) (.bcall .list as) := de_callTy listC hg B.list (by decide +kernel) (by decide +kernel) (by decide +kernel) ha he hpl
theorem e_tuplec (hg : Gl X "tuple" := by rfl) (he : starEach (e :: es) X.env = (false, eval e X.env) :: starEach es X.env := by rfl) (hpl : (backTo pos (starEach es X.env)).any (·.1) = false := by rfl) : DE X W T (.Call (.Name "tuple" p) (e :: es) [] pos) (.bcall .tuple as) := de_callTy tupleC hg B.tuple (by decide +kernel) (by decide +kernel) (by decide +kernel) ha he hpl
end
/-! ### methods of lists and texts -/
section
variable {o : Expr} {co : CE} (ho : DE X W T o co) (ha : DEs X W T (e :: es) as)
include ho ha
theorem e_append (hb : attributeBase o "append" X.env (eval o X.env) = eval o X.env := by rfl) (hf : ((backTo pos (starEach (e :: es) X.env)).all (fun x => !x.1) && (backToKw pos (keywordEach [] X.env)).all (fun x => x.1.isSome) && decide ((e :: es).length + ([] : List Keyword).length + (if ([] : List Keyword).isEmpty then 0 else 1) < 30)) = true := by rfl)
    (hl : (apos.endLine == pos.line) = true := by rfl) (hs : starEach (e :: es) X.env = (false, eval e X.env) :: starEach es X.env := by rfl) (hpl : (backTo pos (starEach es X.env)).any (·.1) = false := by rfl) : DE X W T (.Call (.Attribute o "append" apos) (e :: es) [] pos) (.bmeth .append co as) :=
  de_bm PySem.F.plainAttrs_list PySem.F.slot_list_append PySem.F.type_list_append appendMt ho ha hb hf hl hs hpl
theorem e_index (hb : attributeBase o "index" X.env (eval o X.env) = eval o X.env := by rfl) (hf : ((backTo pos (starEach (e :: es) X.env)).all (fun x => !x.1) && (backToKw pos (keywordEach [] X.env)).all (fun x => x.1.isSome) && decide ((e :: es).length + ([] : List Keyword).length + (if ([] : List Keyword).isEmpty then 0 else 1) < 30)) = true := by rfl)
    (hl : (apos.endLine == pos.line) = true := by rfl) (hs : starEach (e :: es) X.env = (false, eval e X.env) :: starEach es X.env := by rfl) (hpl : (backTo pos (starEach es X.env)).any (·.1) = false := by rfl) : DE X W T (.Call (.Attribute o "index" apos) (e :: es) [] pos) (.bmeth .index co as) :=
  de_bm PySem.F.plainAttrs_list PySem.F.slot_list_index PySem.F.type_list_index indexMt ho ha hb hf hl hs hpl
theorem e_lcount (hb : attributeBase o "count" X.env (eval o X.env) = eval o X.env := by rfl) (hf : ((backTo pos (starEach (e :: es) X.env)).all (fun x => !x.1) && (backToKw pos (keywordEach [] X.env)).all (fun x => x.1.isSome) && decide ((e :: es).length + ([] : List Keyword).length + (if ([] : List Keyword).isEmpty then 0 else 1) < 30)) = true := by rfl)
    (hl : (apos.endLine == pos.line) = true := by rfl) (hs : starEach (e :: es) X.env = (false, eval e X.env) :: starEach es X.env := by rfl) (hpl : (backTo pos (starEach es X.env)).any (·.1) = false := by rfl) : DE X W T (.Call (.Attribute o "count" apos) (e :: es) [] pos) (.bmeth .count co as) :=
  de_bm PySem.F.plainAttrs_list PySem.F.slot_list_count PySem.F.type_list_count countMt ho ha hb hf hl hs hpl
theorem e_popA (hb : attributeBase o "pop" X.env (eval o X.env) = eval o X.env := by rfl) (hf : ((backTo pos (starEach (e :: es) X.env)).all (fun x => !x.1) && (backToKw pos (keywordEach [] X.env)).all (fun x => x.1.isSome) && decide ((e :: es).length + ([] : List Keyword).length + (if ([] : List Keyword).isEmpty then 0 else 1) < 30)) = true := by rfl)
    (hl : (apos.endLine == pos.line) = true := by rfl) (hs : starEach (e :: es) X.env = (false, eval e X.env) :: starEach es X.env := by rfl) (hpl : (backTo pos (starEach es X.env)).any (·.1) = false := by rfl) : DE X W T (.Call (.Attribute o "pop" apos) (e :: es) [] pos) (.bmeth .pop co as) :=
  de_bm PySem.F.plainAttrs_list PySem.F.slot_list_pop PySem.F.type_list_pop popMt ho ha hb hf hl hs hpl
omit ha in
theorem e_pop0 (hb : attributeBase o "pop" X.env (eval o X.env) = eval o X.env := by rfl) (hl : (apos.endLine == pos.line) = true := by rfl) : DE X W T (.Call (.Attribute o "pop" apos) [] [] pos) (.bmeth .pop co .nil) :=
  de_bm0 PySem.F.plainAttrs_list PySem.F.slot_list_pop PySem.F.type_list_pop popMt ho hb hl
theorem e_partition (hb : attributeBase o "partition" X.env (eval o X.env) = eval o X.env := by rfl) (hf : ((backTo pos (starEach (e :: es) X.env)).all (fun x => !x.1) && (backToKw pos (keywordEach [] X.env)).all (fun x => x.1.isSome) && decide ((e :: es).length + ([] : List Keyword).length + (if ([] : List Keyword).isEmpty then 0 else 1) < 30)) = true := by rfl)
    (hl : (apos.endLine == pos.line) = true := by rfl) (hs : starEach (e :: es) X.env = (false, eval e X.env) :: starEach es X.env := by rfl) (hpl : (backTo pos (starEach es X.env)).any (·.1) = false := by rfl) : DE X W T (.Call (.Attribute o "partition" apos) (e :: es) [] pos) (.bmeth .partition co as) :=
  de_bm PySem.F.plainAttrs_str PySem.F.slot_str_partition PySem.F.type_str_partition partMt ho ha hb hf hl hs hpl
theorem e_split (hb : attributeBase o "split" X.env (eval o X.env) = eval o X.env := by rfl) (hf : ((backTo pos (starEach (e :: es) X.env)).all (fun x => !x.1) && (backToKw pos (keywordEach [] X.env)).all (fun x => x.1.isSome) && decide ((e :: es).length + ([] : List Keyword).length + (if ([] : List Keyword).isEmpty then 0 else 1) < 30)) = true := by rfl)
    (hl : (apos.endLine == pos.line) = true := by rfl) (hs : starEach (e :: es) X.env = (false, eval e X.env) :: starEach es X.env := by rfl) (hpl : (backTo pos (starEach es X.env)).any (·.1) = false := by rfl) : DE X W T (.Call (.Attribute o "split" apos) (e :: es) [] pos) (.bmeth .split co as) :=
  de_bm PySem.F.plainAttrs_str PySem.F.slot_str_split PySem.F.type_str_split splitMt ho ha hb hf hl hs hpl
theorem e_join (hb : attributeBase o "join" X.env (eval o X.env) = eval o X.env := by rfl) (hf : ((backTo pos (starEach (e :: es) X.env)).all (fun x => !x.1) && (backToKw pos (keywordEach [] X.env)).all (fun x => x.1.isSome) && decide ((e :: es).length + ([] : List Keyword).length + (if ([] : List Keyword).isEmpty then 0 else 1) < 30)) = true := by rfl)
    (hl : (apos.endLine == pos.line) = true := by rfl) (hs : starEach (e :: es) X.env = (false, eval e X.env) :: starEach es X.env := by rfl) (hpl : (backTo pos (starEach es X.env)).any (·.1) = false := by rfl) : DE X W T (.Call (.Attribute o "join" apos) (e :: es) [] pos) (.bmeth .join co as) :=
  de_bm PySem.F.plainAttrs_str PySem.F.slot_str_join PySem.F.type_str_join joinMt ho ha hb hf hl hs hpl
end
/-! ### f-strings -/
inductive DJ (X : Cx) (W : XW) (T : Tab) : List Expr → CEs → Prop where
  | nil : DJ X W T [] .nil
  | cons {e : Expr} {c : CE} {es : List Expr} {cs : CEs} (h : DE X W T e c) (r : DJ X W T es cs) : DJ X W T (e :: es) (.cons c cs)
def msOf (T : Tab) : CEs → List (Env → R D)
  | .nil => []
  | .cons c cs => evE T c :: msOf T cs
theorem DJ.pjd {es : List Expr} {cs : CEs} (h : DJ X W T es cs) : PJD X W es (msOf T cs) := by
  induction h with
  | nil => exact .nil
  | cons h r ih => exact .cons h ih
theorem evJ_eq : ∀ (cs : CEs) (acc : Str) (env : Env), evJ T cs acc env = glueM (msOf T cs) acc env
  | .nil, acc, env => by rw [evJ]; rfl
  | .cons c cs, acc, env => by
    rw [evJ]
    unfold msOf glueM
    congr 1
    funext x
    congr 1
    funext z
    exact evJ_eq cs z env
theorem e_fstr {v1 v2 : Expr} {rest : List Expr} {cs : CEs} (h : DJ X W T (v1 :: v2 :: rest) cs) : DE X W T (.JoinedStr (v1 :: v2 :: rest) pos) (.fstr cs) := by
  have z := de_fstr (pos := pos) h.pjd
  have e : (fun env => bnd (glueM (msOf T cs) Str.empty env) fun z => ret (.str z)) = evE T (.fstr cs) := by
    funext env
    rw [evE, evJ_eq]
  rw [e] at z
  exact z
theorem e_fmt (ha : DE X W T a ca) : DE X W T (.FormattedValue a (-1) none pos) (.fmt ca) := de_fmt ha
/-! ### own instances -/
theorem e_eqO {c : Str} (ne : Bool) {op : CmpOp} (hop : op = if ne then .NotEq else .Eq) (G : EqG X T c k) (C : Cok X (k + 1)) (ha : DE X W T a ca) (hb : DE X W T b cb) (hm : behindInMarks op b = false := by rfl) : DE X W T (.Compare a [op] [b] pos) (.oeq ne c ca cb) :=
  pe_imp (pe_cmpR (eq_core (W := W) hop G C.sur) ha hb hm) fun σ H Q ⟨μ, M, env, rm, rs, h⟩ =>
    tD_bnd rm rs h (f := fun x env => bnd (evE T cb env) fun y => eqO T ne c x y) fun v H1 μ1 M1 d l1 rm1 rs1 rv w =>
      tD_bnd rm1 rs1 w (f := fun y env => eqO T ne c d y) fun v2 H2 μ2 M2 d2 l2 rm2 rs2 rv2 w2 => ⟨μ2, M2, d, d2, rm2, rv.up l2 rm1, rv2, w2⟩
theorem e_dund {f : Value} {dk : Dk} {c : Str} (hc : CallR X f (rDund X W T dk c)) (call : ∀ {t : TA} {r : List V → Hp → VK → Prop}, CallR X f r → PA X [a] t → PE X e (tCB r t)) (ha : DE X W T a ca) (hs : starEach [a] X.env = (false, eval a X.env) :: starEach [] X.env) : DE X W T e (.dund dk c ca) :=
  pe_imp (call hc (pa_cons ha pa_nil hs)) fun σ H Q ⟨μ, M, env, rm, rs, h⟩ => tD_bnd rm rs h (f := fun x env => dundO T dk c x) fun v H1 μ1 M1 d l1 rm1 rs1 rv w => ⟨μ1, M1, d, v, rfl, rm1, rv, w⟩
theorem e_lenO {c : Str} (B : Blt X.mg) (G : DundG X T c "__len__" k) (C : Cok X (k + 3)) (ha : DE X W T a ca) (hg : Gl X "len" := by rfl) (hs : starEach [a] X.env = (false, eval a X.env) :: starEach [] X.env := by rfl) (hpl : (backTo pos (starEach [] X.env)).any (·.1) = false := by rfl) : DE X W T (.Call (.Name "len" p) [a] [] pos) (.dund .len c ca) :=
  e_dund (lenO_C G (C.sur.mono (by omega))) (fun hc h => pe_callB hc hg B.len (by decide +kernel) h (by decide +kernel) (by decide +kernel) hs hpl) ha hs
theorem e_strO {c : Str} (B : Blt X.mg) (G : DundG X T c "__str__" k) (C : Cok X (k + 3)) (ha : DE X W T a ca) (hg : Gl X "str" := by rfl) (hs : starEach [a] X.env = (false, eval a X.env) :: starEach [] X.env := by rfl) (hpl : (backTo pos (starEach [] X.env)).any (·.1) = false := by rfl) : DE X W T (.Call (.Name "str" p) [a] [] pos) (.dund .str c ca) :=
  e_dund (strO_C G (C.sur.mono (by omega))) (fun hc h => pe_callTy hc hg B.str (by decide +kernel) h (by decide +kernel) (by decide +kernel) hs hpl) ha hs
theorem e_boolO {c : Str} (B : Blt X.mg) (G : DundG X T c "__len__" k) (hno : ∀ C, X.mg c = some (.ref C) → PySem.W.findIn X.K (.ref C) "__bool__" = some none) (C : Cok X (k + 3)) (ha : DE X W T a ca) (hg : Gl X "bool" := by rfl) (hs : starEach [a] X.env = (false, eval a X.env) :: starEach [] X.env := by rfl) (hpl : (backTo pos (starEach [] X.env)).any (·.1) = false := by rfl) : DE X W T (.Call (.Name "bool" p) [a] [] pos) (.dund .bool c ca) :=
  e_dund (boolO_C G C.sur hno) (fun hc h => pe_callTy hc hg B.bool (by decide +kernel) h (by decide +kernel) (by decide +kernel) hs hpl) ha hs
end
end DL
end
section
set_option Elab.async false
set_option linter.all false
set_option maxRecDepth 100000
set_option maxHeartbeats 2000000
/-! DL, part t: calls, targets, statements as a text uses them; the law's head. -/
namespace DL
open PySem PySem.Spec PyProof.Rows L2
abbrev Shape := Nat × List Str × List Sel
/-- a def of the text, called by its name -/
def Callee (P : Program) (w : World) (K : PySem.W.Frag) (mg : Str → Option Value) (base : Heap) (x : Str) (k : Nat) (fm : FM) (shapes : List Shape) : Prop :=
  ∃ f fd ps, mg x = some (.ref f) ∧ PySem.W.keepIn K (.ref f) = true ∧ FnG P w K mg base k f fd ps fm ∧ ∀ s ∈ shapes, BindG K mg fd ps s.1 s.2.1 s.2.2
/-- a class of the text, called -/
def Maker (P : Program) (w : World) (K : PySem.W.Frag) (mg : Str → Option Value) (base : Heap) (c : Str) (k : Nat) (fm : FM) (shapes : List Shape) : Prop :=
  ∃ C f fd ps, mg c = some (.ref C) ∧ PySem.W.keepIn K (.ref C) = true ∧ L2.Mk K C f ∧ FnG P w K mg base k f fd ps fm ∧ ∀ s ∈ shapes, BindG K mg fd ps (s.1 + 1) s.2.1 (selS s.2.2)
/-- a method -/
def Metho (P : Program) (w : World) (K : PySem.W.Frag) (mg : Str → Option Value) (base : Heap) (c m : Str) (k : Nat) (fm : FM) (shapes : List Shape) : Prop :=
  ∃ C f fd ps, mg c = some (.ref C) ∧ L2.Cls K C ∧ L2.Meth K C m f ∧ FnG P w K mg base k f fd ps fm ∧ ∀ s ∈ shapes, BindG K mg fd ps (s.1 + 1) s.2.1 (selS s.2.2)
def CMetho (P : Program) (w : World) (K : PySem.W.Frag) (mg : Str → Option Value) (base : Heap) (c m : Str) (k : Nat) (fm : FM) (shapes : List Shape) : Prop :=
  ∃ C f fd ps mc pp, mg c = some (.ref C) ∧ ClX.CRead K C mc ∧ ClX.CMet K C mc m pp f ∧ FnG P w K mg base k f fd ps fm ∧ ∀ s ∈ shapes, BindG K mg fd ps (s.1 + 1) s.2.1 (selS s.2.2)
section
variable {X : Cx} {W : XW} {T : Tab} {j k n : Nat} {a b e o : Expr} {es : List Expr} {kws : List Keyword} {ca cb co : CE} {as bs : CEs} {pos p apos : Pos} {x c m : Str} {fm : FM} {shapes : List Shape} {ks : List Str} {sel : List Sel}
theorem k_nil : DK X W T [] .nil := dk_nil
theorem k_cons {nm : Option Str} {kpos : Pos} (ha : DE X W T e ca) (hr : DK X W T kws bs) : DK X W T (⟨nm, e, kpos⟩ :: kws) (.cons ca bs) := dk_cons ha hr
theorem e_own (i : Nat) (F : Callee X.prog X.w X.K X.mg X.base x k fm shapes) (hs : (n, ks, sel) ∈ shapes) (C : Cok X j) (ha : DEs X W T es as) (hkw : DK X W T kws bs) (hT : T.fn i = fm := by rfl) (hj : k ≤ j := by decide) (hg : Gl X x := by rfl)
    (ao : ArgsOk X pos es as := by first | exact .nil | exact .cons rfl rfl) (ko : KwsOk X pos ks kws bs := by first | exact .nil rfl | exact .cons rfl rfl rfl) (ln : as.len = n := by rfl) (lk : bs.len = ks.length := by rfl) (hdb : (x == ("__debug__" : Str)) = false := by decide) : DE X W T (.Call (.Name x p) es kws pos) (.own i as bs sel) := by
  obtain ⟨f, fd, ps, hm, hk, F, hb⟩ := F
  subst hT
  exact de_own hg hm hk (callG_fn F (C.sur.mono hj) (hb _ hs)) ao ko ln lk ha hkw hdb
theorem e_make (F : Maker X.prog X.w X.K X.mg X.base c k fm shapes) (hs : (n, ks, sel) ∈ shapes) (C : Cok X j) (ha : DEs X W T es as) (hkw : DK X W T kws bs) {ct : ClsT} (hT : T.cls c = some ct) (hi : ct.init = fm) (hj : k + 1 ≤ j := by decide) (hg : Gl X c := by rfl)
    (ao : ArgsOk X pos es as := by first | exact .nil | exact .cons rfl rfl) (ko : KwsOk X pos ks kws bs := by first | exact .nil rfl | exact .cons rfl rfl rfl) (ln : as.len = n := by rfl) (lk : bs.len = ks.length := by rfl) (hdb : (c == ("__debug__" : Str)) = false := by decide) : DE X W T (.Call (.Name c p) es kws pos) (.make c as bs sel) := by
  obtain ⟨C', f, fd, ps, hm, hk, MK, F, hb⟩ := F
  exact de_make hg hm hk (callG_make MK F (C.sur.mono hj) (hb _ hs) hm hT hi) ao ko ln lk ha hkw hdb
theorem e_makeV (F : Maker X.prog X.w X.K X.mg X.base c k fm shapes) (hs : (n, [], sel) ∈ shapes) (C : Cok X j) (ho : DE X W T (.Name x p) co) (ha : DEs X W T es as) {ct : ClsT} (hT : T.cls c = some ct) (hi : ct.init = fm) (hj : k + 1 ≤ j := by decide)
    (ao : ArgsOk X pos es as := by first | exact .nil | exact .cons rfl rfl) (ln : as.len = n := by rfl) : DE X W T (.Call (.Name x p) es [] pos) (.makeV c co as sel) := by
  obtain ⟨C', f, fd, ps, hm, hk, MK, F, hb⟩ := F
  exact de_makeV ho hm hk (callG_make MK F (C.sur.mono hj) (hb _ hs) hm hT hi) ao ln ha
theorem e_meth (F : Metho X.prog X.w X.K X.mg X.base c m k fm shapes) (hs : (n, ks, sel) ∈ shapes) (C : Cok X j) (ho : DE X W T o co) (ha : DEs X W T es as) (hkw : DK X W T kws bs) (hT : methOf T c m = some fm) {pl : Sem Bool} (hj : k ≤ j := by decide)
    (ao : ArgsOk X pos es as := by first | exact .nil | exact .cons rfl rfl) (ko : KwsOk X pos ks kws bs := by first | exact .nil rfl | exact .cons rfl rfl rfl) (ln : as.len = n := by rfl) (lk : bs.len = ks.length := by rfl)
    (ht : eval (.Call (.Attribute o m apos) es kws pos) X.env = (do
      let ov ← eval o X.env
      standAt apos.atName
      let (f, first) ← holding [ov] (getMethod ov m pl)
      callWith pos f first (backTo pos (starEach es X.env)) (backToKw pos (keywordEach kws X.env))) := by rfl) : DE X W T (.Call (.Attribute o m apos) es kws pos) (.ometh m c co as bs sel) := by
  obtain ⟨C', f, fd, ps, hm, cl, mt, F, hb⟩ := F
  exact de_ometh ⟨hm, cl, mt, F, hT⟩ (C.sur.mono hj) (hb _ hs) ao ko ln lk ho ha hkw ht
theorem e_cmeth (F : CMetho X.prog X.w X.K X.mg X.base c m k fm shapes) (hs : (n, ks, sel) ∈ shapes) (C : Cok X j) (ha : DEs X W T es as) (hkw : DK X W T kws bs) (hT : ∃ ct, T.cls c = some ct ∧ ct.cmet m = some fm) {pl : Sem Bool} (hj : k ≤ j := by decide) (hg : Gl X c := by rfl)
    (ao : ArgsOk X pos es as := by first | exact .nil | exact .cons rfl rfl) (ko : KwsOk X pos ks kws bs := by first | exact .nil rfl | exact .cons rfl rfl rfl) (ln : as.len = n := by rfl) (lk : bs.len = ks.length := by rfl) (hdb : (c == ("__debug__" : Str)) = false := by decide)
    (ht : eval (.Call (.Attribute (.Name c p) m apos) es kws pos) X.env = (do
      let ov ← eval (.Name c p) X.env
      standAt apos.atName
      let (f, first) ← holding [ov] (getMethod ov m pl)
      callWith pos f first (backTo pos (starEach es X.env)) (backToKw pos (keywordEach kws X.env))) := by rfl) : DE X W T (.Call (.Attribute (.Name c p) m apos) es kws pos) (.cmeth c m as bs sel) := by
  obtain ⟨C', f, fd, ps, mc, pp, hm, rd, cm, F, hb⟩ := F
  exact de_cmeth ⟨hm, ⟨mc, pp, rd, cm⟩, F, hT⟩ (C.sur.mono hj) (hb _ hs) ao ko ln lk hg hdb ha hkw ht
theorem e_attr {f : Str} (G : AttrOk X T f) (ho : DE X W T o co) (hab : attributeBase o f X.env (eval o X.env) = eval o X.env := by rfl) : DE X W T (.Attribute o f pos) (.attr co f) := de_attr ho G hab
theorem e_isiB {n : String} {nm : Str} {p2 : Pos} (B : Blt X.mg) (G : IsiB X T n) (hnm : X.mg nm = none) (ha : DE X W T a ca) (hv : bootBuiltins nm = some (.type n) := by decide +kernel) (hg : Gl X "isinstance" := by rfl) (hg2 : Gl X nm := by rfl) (hn : nm ≠ "__name__" := by decide +kernel) (hd : (nm == ("__debug__" : Str)) = false := by decide +kernel)
    (hs2 : starEach [a, .Name nm p2] X.env = (false, eval a X.env) :: starEach [.Name nm p2] X.env := by rfl) (hs : starEach [.Name nm p2] X.env = (false, eval (.Name nm p2) X.env) :: starEach [] X.env := by rfl) (hpl : (backTo pos (starEach [.Name nm p2] X.env)).any (·.1) = false := by rfl) :
    DE X W T (.Call (.Name "isinstance" p) [a, .Name nm p2] [] pos) (.isi ca (.bty n)) := de_isiB hg B.isinstance G ha (pe_bltn hg2 hnm hv rfl hn hd) hs2 hs hpl
theorem e_isiC {C : Addr} {p2 : Pos} (B : Blt X.mg) (G : IsiC X T c C) (ha : DE X W T a ca) (hg : Gl X "isinstance" := by rfl) (hg2 : Gl X c := by rfl) (hd : (c == ("__debug__" : Str)) = false := by decide +kernel)
    (hs2 : starEach [a, .Name c p2] X.env = (false, eval a X.env) :: starEach [.Name c p2] X.env := by rfl) (hs : starEach [.Name c p2] X.env = (false, eval (.Name c p2) X.env) :: starEach [] X.env := by rfl) (hpl : (backTo pos (starEach [.Name c p2] X.env)).any (·.1) = false := by rfl) :
    DE X W T (.Call (.Name "isinstance" p) [a, .Name c p2] [] pos) (.isi ca (.glo c)) := de_isiC hg B.isinstance G ha (pe_glob hg2 G.at_ rfl hd) hs2 hs hpl
theorem e_gint {i : Int} (h : ∃ t, X.mg x = some (.int i t)) (hg : Gl X x := by rfl) (hd : (x == ("__debug__" : Str)) = false := by decide +kernel) : DE X W T (.Name x pos) (.con (.int i)) := by
  obtain ⟨t, h⟩ := h
  exact e_glob (v := .int i) h ⟨t, rfl⟩ (fun _ _ => .int i) hg hd
theorem e_gstr {i : Str} (h : ∃ t, X.mg x = some (.str i t)) (hg : Gl X x := by rfl) (hd : (x == ("__debug__" : Str)) = false := by decide +kernel) : DE X W T (.Name x pos) (.con (.str i)) := by
  obtain ⟨t, h⟩ := h
  exact e_glob (v := .str i) h ⟨t, rfl⟩ (fun _ _ => .str i) hg hd
theorem e_gcls {C : Addr} (h : X.mg c = some (.ref C)) (hg : Gl X c := by rfl) (hd : (c == ("__debug__" : Str)) = false := by decide +kernel) : DE X W T (.Name c pos) (.con (.glo c)) :=
  e_glob (v := .ref C) h rfl (fun _ _ => .glo h rfl) hg hd
/-! ### comprehensions -/
theorem e_comp {elt tg iter : Expr} {ifs : List Expr} {scope : Scope} (own : List (Str × Nat)) {it : CI} {g : CG} {t : CT} {ce : CE} {ns : List Nat} (C : Cok X k) (hi : DI X W T tg iter it) (ok : BlkOk X.N X.env.scope scope own)
    (hg : ∀ (s : Shared) (H : Hp) (C : Addr) (cl : List (Str × Addr)) (fp : List Addr), DG (X.blk s H scope (compEnvC scope cl C X.env) fp) W T ns tg g) (ht : ∀ (s : Shared) (H : Hp) (C : Addr) (cl : List (Str × Addr)) (fp : List Addr), DTs (X.blk s H scope (compEnvC scope cl C X.env) fp) W T ifs t)
    (he : ∀ (s : Shared) (H : Hp) (C : Addr) (cl : List (Str × Addr)) (fp : List Addr), DE (X.blk s H scope (compEnvC scope cl C X.env) fp) W T elt ce) (hsub : ∀ i ∈ ns, i ∈ own.map (·.2) := by decide) (hs : ∀ x, foldedSetIterable iter X.env x = pure x := by intro _; rfl) :
    DE X W T (.ListComp elt [⟨tg, iter, ifs, 0⟩] scope pos) (.comp it g t ce (own.map (·.2))) := de_comp C.calm C.nd hi ok hsub hg ht he hs
theorem s_setLc {i : Nat} {y : Str} {py : Pos} {elt tg iter : Expr} {ifs : List Expr} {scope : Scope} (own : List (Str × Nat)) {spos : Pos} {it : CI} {g : CG} {t : CT} {ce : CE} {ns : List Nat} (C : Cok X k) (hi : DI X W T tg iter it) (ok : BlkOk X.N X.env.scope scope own)
    (hg : ∀ (s : Shared) (H : Hp) (C : Addr) (cl : List (Str × Addr)) (fp : List Addr), DG (X.blk s H scope (compEnvC scope cl C X.env) fp) W T ns tg g) (ht : ∀ (s : Shared) (H : Hp) (C : Addr) (cl : List (Str × Addr)) (fp : List Addr), DTs (X.blk s H scope (compEnvC scope cl C X.env) fp) W T ifs t)
    (he : ∀ (s : Shared) (H : Hp) (C : Addr) (cl : List (Str × Addr)) (fp : List Addr), DE (X.blk s H scope (compEnvC scope cl C X.env) fp) W T elt ce) (hsw : swapsWith (.ListComp elt [⟨tg, iter, ifs, 0⟩] scope pos) (some (.Name y py)) spos.line X.env = pure true) (hy : X.N[i]? = some y := by rfl) (hyl : X.env.scope.names.lookup y = some .local := by rfl)
    (hsub : ∀ i ∈ ns, i ∈ own.map (·.2) := by decide) (hs : ∀ x, foldedSetIterable iter X.env x = pure x := by intro _; rfl) :
    DS X W T (.Assign [.Name y py] (.ListComp elt [⟨tg, iter, ifs, 0⟩] scope pos) spos) (.asg (.nm i) (.comp it g t ce (own.map (·.2)))) := ds_setLc C.calm C.nd hy hyl hsw hi ok hsub hg ht he hs
/-! ### targets, statements -/
theorem g_nm (C : Cok X k) (i : Nat) (hi : X.N[i]? = some x := by rfl) (hx : Loc X.env.scope x := by first | exact Or.inl rfl | exact Or.inr rfl) (hf : X.fn x = true ∨ X.env.scope.names.lookup x = some .local := by first | exact Or.inl rfl | exact Or.inr rfl) : DG X W T [i] (.Name x pos) (.nm i) := dg_nm C.nd hi hx hf
theorem gs_nil : DGs X W T [] [] .nil := dgs_nil
theorem gs_cons {g : CG} {gs : CGs} {n1 n2 : List Nat} (h1 : DG X W T n1 e g) (h2 : DGs X W T n2 es gs) (hs : (assignEach (e :: es) X.env).map (·.2) = assign e X.env :: (assignEach es X.env).map (·.2) := by rfl) : DGs X W T (n1 ++ n2) (e :: es) (.cons g gs) := dgs_cons h1 h2 hs
theorem g_tup {kk : Nat} {gs : CGs} {ns : List Nat} (C : Cok X k) (h : DGs X W T ns es gs) (hn : (assignEach es X.env).length = gs.len := by rfl) (hst : (assignEach es X.env).findIdx? (·.1) = none := by rfl) : DG X W T ns (.Tuple es kk pos) (.tup gs) := dg_tup C.calm h hn hst
theorem g_sub (ho : DE X W T o co) (hi : DE X W T a ca) (ha : ∀ v, assign (.Subscript o a pos) X.env v = (do
      let ov ← holding [v] (eval o X.env)
      let iv ← holding [v, ov] (eval a X.env)
      standAt pos
      holding [v, ov, iv] (setItem ov iv v)
      release [v, ov, iv] []) := by intro _; rfl) : DG X W T [] (.Subscript o a pos) (.sub co ca) := dg_sub ho hi ha
theorem g_att {f : Str} (G : SetOk X T f) (ho : DE X W T o co) : DG X W T [] (.Attribute o f pos) (.att co f) := dg_att ho G
theorem s_asg {g : CG} {ns : List Nat} (hg : DG X W T ns a g) (he : DE X W T e ca) (hs : swapsWithSole [a] e pos.line X.env = pure false := by rfl) (hw : swappedStores [a] e X.env = pure none := by rfl) (h1 : (assignEach [a] X.env).map (·.2) = [assign a X.env] := by rfl) : DS X W T (.Assign [a] e pos) (.asg g ca) := ds_asg he hg hs hw h1
theorem s_par {x y : Str} {px py pt : Pos} {kt k2 pt2} (C : Cok X k) (i j : Nat) (ha : DEs X W T [a, b] as) (hi : X.N[i]? = some x := by rfl) (hj : X.N[j]? = some y := by rfl) (hij : i ≠ j := by decide) (hx : X.env.scope.names.lookup x = some .local := by rfl) (hy : X.env.scope.names.lookup y = some .local := by rfl)
    (hw : swappedStores [.Tuple [.Name x px, .Name y py] kt pt] (.Tuple [a, b] k2 pt2) X.env = pure (some [x, y]) := by rfl) (hs : swapsWithSole [.Tuple [.Name x px, .Name y py] kt pt] (.Tuple [a, b] k2 pt2) pos.line X.env = pure false := by rfl) :
    DS X W T (.Assign [.Tuple [.Name x px, .Name y py] kt pt] (.Tuple [a, b] k2 pt2) pos) (.asg (.tup (.cons (.nm i) (.cons (.nm j) .nil))) (.tup as)) := ds_par C.calm C.nd hi hj hij hx hy ha hw hs
theorem s_par3 {x y z : Str} {c : Expr} {px py pz pt : Pos} {kt k2 pt2} (C : Cok X k) (i j l : Nat) (ha : DEs X W T [a, b, c] as) (hi : X.N[i]? = some x := by rfl) (hj : X.N[j]? = some y := by rfl) (hl : X.N[l]? = some z := by rfl) (hij : i ≠ j := by decide) (hil : i ≠ l := by decide) (hjl : j ≠ l := by decide) (hx : X.env.scope.names.lookup x = some .local := by rfl) (hy : X.env.scope.names.lookup y = some .local := by rfl) (hz : X.env.scope.names.lookup z = some .local := by rfl)
    (hw : swappedStores [.Tuple [.Name x px, .Name y py, .Name z pz] kt pt] (.Tuple [a, b, c] k2 pt2) X.env = pure (some [x, y, z]) := by rfl) (hs : swapsWithSole [.Tuple [.Name x px, .Name y py, .Name z pz] kt pt] (.Tuple [a, b, c] k2 pt2) pos.line X.env = pure false := by rfl) :
    DS X W T (.Assign [.Tuple [.Name x px, .Name y py, .Name z pz] kt pt] (.Tuple [a, b, c] k2 pt2) pos) (.asg (.tup (.cons (.nm i) (.cons (.nm j) (.cons (.nm l) .nil)))) (.tup as)) := ds_par3 C.calm C.nd hi hj hl hij hil hjl hx hy hz ha hw hs
theorem s_ex (he : DE X W T e ca) (hs : swapsWith e none pos.line X.env = pure false := by rfl) : DS X W T (.Expr e pos) (.ex ca) := ds_ex he hs
theorem s_for {tg : Expr} {b : List Stmt} {g : CG} {ci : CI} {cb : CSs} {ns : List Nat} (C : Cok X k) (hp : PassesOwn (model X.prog X.w) X.A X.env X.xe) (hg : DG X W T ns tg g) (hi : DI X W T tg e ci) (hb : DSs X W T b cb) (hs : ∀ x, foldedSetIterable e X.env x = pure x := by intro _; rfl) : DS X W T (.For tg e b [] pos) (.forS g ci cb) := ds_for hp C.calm hi hg hb hs
theorem s_while {b : List Stmt} {t : CT} {cb : CSs} (hp : PassesOwn (model X.prog X.w) X.A X.env X.xe) (ht : DT X W T e t) (hb : DSs X W T b cb) : DS X W T (.While e b [] pos) (.whileS t cb) := ds_while hp ht hb
theorem s_try {b : List Stmt} {h₀ : ExceptHandler} {hs : List ExceptHandler} {cb : CSs} (hn : ∀ e s, ¬ X.xe e s) (hb : DSs X W T b cb) : DS X W T (.Try b (h₀ :: hs) [] [] pos) (.tryS cb) :=
  ps_imp (ps_try_never hn hb pss_nil) fun E σ H h => h
/-! ### iterables -/
theorem i_of {tg : Expr} (he : DE X W T e ca) : DI X W T tg e (.of ca) := di_of he
theorem i_rng {tg : Expr} (B : Blt X.mg) (ha : DE X W T a ca) (hg : Gl X "range" := by rfl) (hs : starEach [a] X.env = [(false, eval a X.env)] := by rfl) : DI X W T tg (.Call (.Name "range" p) [a] [] pos) (.rng ca) := di_rng hg B.range ha hs
theorem i_rng2 {tg : Expr} (B : Blt X.mg) (ha : DE X W T a ca) (hb : DE X W T b cb) (hg : Gl X "range" := by rfl) (hs : starEach [a, b] X.env = [(false, eval a X.env), (false, eval b X.env)] := by rfl) (hs2 : starEach [b] X.env = [(false, eval b X.env)] := by rfl) : DI X W T tg (.Call (.Name "range" p) [a, b] [] pos) (.rng2 ca cb) := di_rng2 hg B.range ha hb hs hs2
theorem i_enum {elts : List Expr} {kk : Nat} {tpos : Pos} (B : Blt X.mg) (ha : DE X W T a ca) (hg : Gl X "enumerate" := by rfl) (hs : starEach [a] X.env = [(false, eval a X.env)] := by rfl) : DI X W T (.Tuple elts kk tpos) (.Call (.Name "enumerate" p) [a] [] pos) (.enum ca) := di_enumA hg B.enumerate ha hs
theorem i_zip {elts : List Expr} {kk : Nat} {tpos : Pos} (B : Blt X.mg) (ha : DE X W T a ca) (hb : DE X W T b cb) (hg : Gl X "zip" := by rfl) (hs : starEach [a, b] X.env = (false, eval a X.env) :: starEach [b] X.env := by rfl) (hs2 : starEach [b] X.env = (false, eval b X.env) :: starEach [] X.env := by rfl) (hpl : (backTo pos (starEach [b] X.env)).any (·.1) = false := by rfl) :
    DI X W T (.Tuple elts kk tpos) (.Call (.Name "zip" p) [a, b] [] pos) (.zip ca cb) := di_zip hg B.zip ha hb hs hs2 hpl
end
/-! ### the head -/
theorem repVs_int {K : PySem.W.Frag} {mg : Str → Option Value} {μ : List Addr} {H : Hp} : ∀ ns : List Int, RepVs K mg μ H (ns.map D.int) (ns.map V.int)
  | [] => .nil
  | n :: ns => .cons (.int n) (repVs_int ns)
theorem law_callG {P : Program} {w : World} {K : PySem.W.Frag} {mg mb : Str → Option Value} {k : Nat} {fa a : Addr} {fd : FuncData} {x : Str} {fm : FM} {s₁ : Shared} {vs : List Value} {ns : List Int}
    (inK : K.In s₁.heap) (names : s₁.heap.Ns mainGlobals mg) (bNames : s₁.heap.Ns builtinsNs mb) (bIs : ∀ x : Str, x ≠ "__name__" → mb x = bootBuiltins x) (nolim : s₁.heap.NoLimit) (nogen : s₁.gens = #[])
    (script : s₁.heap.get? a = some { cls := .type "list", data := .seq vs.toArray }) (allInt : IntsAre vs ns) (len : ns.length ≤ sizeLine) (room : Sur k callerA)
    (F : ∀ base : Heap, K.In base → base.Ns mainGlobals mg → FnG P w K mg base k fa fd [x] fm) (bind : ∀ (s : Shared) (u : Value), BindsTo s fd ⟨[u], []⟩ [(x, u)]) (told : ∃ M', fm [.scr (ns.map D.int)] [] = some (.ok (.bl true), M')) :
    codeAny (model P w) callerA (.call (.ref fa) ⟨[.ref a], []⟩) (fun r s' => r = .ok (.ret (.bool true)) ∧ OldK s₁.heap s'.heap ∧ s'.os = s₁.os ∧ AllBare s'.gens) s₁ := by
  have rel := vals_ints allInt
  have size := allInt.length
  -- what is tracked: the script, where the text does not hold it
  suffices go : ∀ H : Hp, (∀ b o, H b = some o → b = a ∧ o = .frz { cls := .type "list", data := .seq vs.toArray } (.lst (ns.map V.int)) ∧ K.lookup a = none) → FrL K H a (ns.map V.int) →
      codeAny (model P w) callerA (.call (.ref fa) ⟨[.ref a], []⟩) (fun r s' => r = .ok (.ret (.bool true)) ∧ OldK s₁.heap s'.heap ∧ s'.os = s₁.os ∧ AllBare s'.gens) s₁ by
    cases known : K.lookup a with
    | some o =>
      have same := inK a o known
      rw [script] at same
      cases same
      exact go (fun _ => none) (fun b o z => nomatch (show (none : Option HO) = some o from z)) (.inr ⟨_, vs.toArray, _, known, rfl, rfl, rfl, by rw [List.size_toArray, size]; exact len, by simpa using rel⟩)
    | none =>
      refine go (upd (fun _ => none) a (.frz { cls := .type "list", data := .seq vs.toArray } (.lst (ns.map V.int)))) (fun b o z => ?_) (.inl ⟨_, upd_same⟩)
      by_cases hb : b = a
      · rw [hb, upd_same] at z
        exact ⟨hb, (Option.some.inj z).symm, known⟩
      · rw [upd_ne hb] at z
        cases z
  intro H only frl
  have ok : HOk P w H s₁.heap := fun b u z => by
    obtain ⟨rfl, rfl, _⟩ := only b u z
    exact ⟨script, by rw [List.length_map]; exact len, vs, _, rel, script⟩
  have untracked : ∀ {b : Addr} {o : Obj} {es : Array DictEntry} {ep : Nat}, s₁.heap.get? b = some o → o.data = .dict es ep → H b = none := fun {b o es ep} e d => by
    cases q : H b with
    | none => rfl
    | some u =>
      obtain ⟨rfl, _, _⟩ := only b u q
      rw [script] at e
      cases e
      exact nomatch (show Data.seq vs.toArray _ = Data.dict es ep from d)
  have ns_base : ∀ {b : Addr} {m : Str → Option Value}, s₁.heap.Ns b m → (hidT s₁.heap H).Ns b m := fun ⟨o, es, ep, e, d, r⟩ => ⟨o, es, ep, hidT_get e (untracked e d), d, r⟩
  have in_base : K.In (hidT s₁.heap H) := fun b o e => hidT_get (inK b o e) (by
    cases q : H b with
    | none => rfl
    | some u =>
      obtain ⟨rfl, _, no⟩ := only b u q
      rw [no] at e
      cases e)
  have md : Mod K mg (hidT s₁.heap H) := ⟨in_base, ns_base names, ⟨mb, ns_base bNames, bIs⟩, nolim.elim fun mc q => ⟨mc, ns_base q.1, q.2⟩⟩
  have e0 : Env0 P w K mg (hidT s₁.heap H) callerA [] s₁ H := ⟨rfl, md, fun b o e => of_hidT e, Nat.le_of_eq (hidT_size _ _), trivial, fun b z => (by cases (show b ∈ ([] : List Addr) from z)), ok, .of_eq nogen⟩
  have rm : RepM K mg [] [] H := ⟨rfl, List.nodup_nil, fun n a o h => by simp at h⟩
  obtain ⟨M', told⟩ := told
  refine codeAny_mono ((F _ in_base (ns_base names)).run callerA [] s₁ H ⟨[.ref a], []⟩ [.ref a] [.ref a] [.scr (ns.map D.int)] [] [] (fun v _ => v = .bl true) room e0 (bind s₁ (.ref a)) (.cons rfl .nil) rfl rm (.cons (.scr frl (repVs_int ns)) .nil)
    ⟨.ok (.bl true), M', told, fun μ' H' l rm' v rv => by cases rv; rfl⟩) fun r s' h => ?_
  match r, h with
  | .ok (.ret u), h =>
    obtain ⟨v, H', os, bare, un, ok', rv, hv⟩ := h
    have hv : v = .bl true := hv
    subst hv
    obtain rfl : u = Value.bool true := rv
    refine ⟨rfl, OldK.of_keep fun b o e => ?_, os, bare⟩
    cases q : H b with
    | none => exact un.keep b o e q (by intro z; exact absurd (show b ∈ ([] : List Addr) from z) (by simp)) (by simp)
    | some u =>
      obtain ⟨rfl, rfl, _⟩ := only b u q
      have kept := un.frzs b _ _ q
      obtain ⟨e1, _⟩ := ok b _ q
      obtain ⟨e2, _⟩ := ok' b _ kept
      rw [e] at e1
      cases e1
      exact e2
  | .ok .next, h => exact False.elim h
  | .ok .brk, h => exact False.elim h
  | .ok .cont, h => exact False.elim h
  | .error _, h => exact False.elim h
theorem walk_ofG {l : PySem.W.OpenLaw} {n k : Nat} {q : Program} {loose : List Str} {XP : (Str → Option Value) → Heap → Prop} {YP : World → Heap → Prop} {d : DefRec} {K : Params → PySem.W.Frag} {x : Str} {fm : FM}
    (most : l.most = some n) (small : n ≤ sizeLine) (nodef : d.params.defaults = []) (room : Sur k callerA) (hY : ∀ (w : World) (h : Heap), YP w h → (K w.params).In h)
    (F : ∀ (w : World) (mg : Str → Option Value) (fa : Addr) (h : Heap), (K w.params).In h → h.Ns mainGlobals mg → mg d.name = some (.ref fa) → ∃ fd : FuncData, (∀ (s : Shared) (u : Value), BindsTo s fd ⟨[u], []⟩ [(x, u)]) ∧ ∀ base : Heap, (K w.params).In base → base.Ns mainGlobals mg → FnG l.prog w (K w.params) mg base k fa fd [x] fm)
    (told : ∀ ns : List Int, ns.length ≤ n → ∃ M', fm [.scr (ns.map D.int)] [] = some (.ok (.bl true), M')) : PySem.W.WalkO q loose XP YP l.row.toRowW d [] (fun f vs => PySem.call f vs) := by
  refine Att.attach_call most nodef fun w s₀ s₁ mg mb fa o pm cd doc a vs ns G Y ho hd hcd hmg hobj hints hlen hg => ?_
  have inK := hY w _ Y
  obtain ⟨fd, hb, hF⟩ := F w mg fa _ inK G.T.g hmg
  exact law_callG inK G.T.g G.T.b G.T.builtins G.T.nolimit hg hobj hints (Nat.le_trans hlen small) room hF hb (told ns hlen)
end DL
end
section
set_option Elab.async false
set_option linter.all false
set_option maxRecDepth 100000
set_option maxHeartbeats 2000000
/-! DL, part u: what a text's top has left, and what follows for its defs and its one class. -/
namespace DL
open PySem PySem.Spec PyProof.Rows L2
theorem Cok.mono {X : Cx} {j k : Nat} (c : Cok X k) (h : j ≤ k) : Cok X j := ⟨c.calm, c.nd, c.sur.mono h⟩
def tys : List String := ["NoneType", "bool", "int", "str", "tuple", "list"]
section
variable (K : PySem.W.Frag) (mg : Str → Option Value)
def FunAt (x : Str) (st : Stmt) : Prop := ∃ f fd, mg x = some (.ref f) ∧ L2.Fun K x x st f fd
def ClassAt (c : Str) (flds : List Str) (btys : List String) : Prop := ∃ C, mg c = some (.ref C) ∧ InsTy K C ∧ (∀ f ∈ flds, PySem.W.findIn K (.ref C) f = some none) ∧ ∀ t ∈ btys, PySem.W.kitOne K (.ref C) (.type t) = some false
def IsiAt (C : Addr) : Prop := (∀ t ∈ tys, PySem.W.kitOne K (.type t) (.ref C) = some false) ∧ (∀ t ∈ tys, PySem.W.notFirst K C (.type t) = true) ∧ PySem.W.kitOne K (.ref C) (.ref C) = some true ∧ PySem.W.notFirst K C (.ref C) = true ∧
  PySem.W.findIn K (.ref C) "__ne__" = some (some (.builtin "object.__ne__")) ∧ PySem.W.findIn K (.ref C) "__bool__" = some none
def InitAt (c qual : Str) (st : Stmt) : Prop := ∃ C f fd, mg c = some (.ref C) ∧ PySem.W.keepIn K (.ref C) = true ∧ L2.Mk K C f ∧ L2.Fun K "__init__" qual st f fd
def MethAt (c m qual : Str) (st : Stmt) : Prop := ∃ C f fd, mg c = some (.ref C) ∧ L2.Cls K C ∧ L2.Meth K C m f ∧ L2.Fun K m qual st f fd
def PropAt (c m qual : Str) (st : Stmt) : Prop := ∃ C p f fd, mg c = some (.ref C) ∧ L2.PropOf K C m p f ∧ L2.Fun K m qual st f fd
def CMethAt (c m qual : Str) (st : Stmt) : Prop := ∃ C f fd mc pp, mg c = some (.ref C) ∧ ClX.CRead K C mc ∧ ClX.CMet K C mc m pp f ∧ L2.Fun K m qual st f fd
end
def Propo (P : Program) (w : World) (K : PySem.W.Frag) (mg : Str → Option Value) (base : Heap) (c m : Str) (k : Nat) (fm : FM) (shapes : List Shape) : Prop :=
  ∃ C p f fd ps, mg c = some (.ref C) ∧ L2.PropOf K C m p f ∧ FnG P w K mg base k f fd ps fm ∧ ∀ s ∈ shapes, BindG K mg fd ps (s.1 + 1) s.2.1 (selS s.2.2)
section
variable {P : Program} {w : World} {K : PySem.W.Frag} {mg : Str → Option Value} {base : Heap} {x m c qual : Str} {st : Stmt} {N ps : List Str} {n k : Nat} {T : Tab} {b : CSs} {shapes : List Shape}
/-- the walk of a def -/
abbrev Walk (P : Program) (w : World) (K : PySem.W.Frag) (mg : Str → Option Value) (base : Heap) (N : List Str) (st : Stmt) (k : Nat) (T : Tab) (b : CSs) : Prop :=
  ∀ (qual : Str) (f : Addr) (cdv : Value) (A : Around) (outer : List PySem.Env) (s : Shared) (H : Hp), Sur k (A.deeper (envOfC qual (defScope st) s.heap.objs.size f cdv)) → DSs (cxOf L2.CX0 P w K mg base N qual (defScope st) f cdv A outer s H fun _ _ _ => False).nox W0 T (defBody st) b
theorem fnG_fun {f : Addr} {fd : FuncData} (F : L2.Fun K x qual st f fd) (S : FnScope N ps (defScope st)) (hn : N.length = n) (body : Walk P w K mg base N st k T b) : FnG P w K mg base (k + 1) f fd ps (runDef T n b) := by
  obtain ⟨⟨oc, od, kV, doc, pm, an, cdv, ct, osl, rfl, lk, hcd⟩, kp⟩ := F
  exact fnG_of lk hcd S hn fun A outer s H hr => body qual f cdv A outer s H hr
/-- how a def's values are bound, whatever its record holds beside -/
abbrev Bd (K : PySem.W.Frag) (mg : Str → Option Value) (x : Str) (st : Stmt) (ps : List Str) (shapes : List Shape) : Prop := ∀ (qual : Str) (kV doc pm : Value) (an : Option Addr) (cdv ct : Value), ∀ s ∈ shapes, BindG K mg (PySem.W.fnOf x qual (defArgs st) (defBody st) (defScope st) .none kV doc pm an cdv ct) ps s.1 s.2.1 s.2.2
abbrev BdS (K : PySem.W.Frag) (mg : Str → Option Value) (x : Str) (st : Stmt) (ps : List Str) (shapes : List Shape) : Prop := ∀ (qual : Str) (kV doc pm : Value) (an : Option Addr) (cdv ct : Value), ∀ s ∈ shapes, BindG K mg (PySem.W.fnOf x qual (defArgs st) (defBody st) (defScope st) .none kV doc pm an cdv ct) ps (s.1 + 1) s.2.1 (selS s.2.2)
theorem bd_fun {f : Addr} {fd : FuncData} (F : L2.Fun K x qual st f fd) (B : Bd K mg x st ps shapes) : ∀ s ∈ shapes, BindG K mg fd ps s.1 s.2.1 s.2.2 := by
  obtain ⟨⟨oc, od, kV, doc, pm, an, cdv, ct, osl, rfl, lk, hcd⟩, kp⟩ := F
  exact B qual kV doc pm an cdv ct
theorem bdS_fun {f : Addr} {fd : FuncData} (F : L2.Fun K x qual st f fd) (B : BdS K mg x st ps shapes) : ∀ s ∈ shapes, BindG K mg fd ps (s.1 + 1) s.2.1 (selS s.2.2) := by
  obtain ⟨⟨oc, od, kV, doc, pm, an, cdv, ct, osl, rfl, lk, hcd⟩, kp⟩ := F
  exact B qual kV doc pm an cdv ct
theorem callee_of (F : FunAt K mg x st) (S : FnScope N ps (defScope st)) (hn : N.length = n) (body : Walk P w K mg base N st k T b) (B : Bd K mg x st ps shapes) : Callee P w K mg base x (k + 1) (runDef T n b) shapes := by
  obtain ⟨f, fd, hm, F⟩ := F
  exact ⟨f, fd, ps, hm, F.kp, fnG_fun F S hn body, bd_fun F B⟩
theorem maker_of (F : InitAt K mg c qual st) (S : FnScope N ps (defScope st)) (hn : N.length = n) (body : Walk P w K mg base N st k T b) (B : BdS K mg "__init__" st ps shapes) : Maker P w K mg base c (k + 1) (runDef T n b) shapes := by
  obtain ⟨C, f, fd, hm, hk, MK, F⟩ := F
  exact ⟨C, f, fd, ps, hm, hk, MK, fnG_fun F S hn body, bdS_fun F B⟩
theorem metho_of (F : MethAt K mg c m qual st) (S : FnScope N ps (defScope st)) (hn : N.length = n) (body : Walk P w K mg base N st k T b) (B : BdS K mg m st ps shapes) : Metho P w K mg base c m (k + 1) (runDef T n b) shapes := by
  obtain ⟨C, f, fd, hm, cl, mt, F⟩ := F
  exact ⟨C, f, fd, ps, hm, cl, mt, fnG_fun F S hn body, bdS_fun F B⟩
theorem propo_of (F : PropAt K mg c m qual st) (S : FnScope N ps (defScope st)) (hn : N.length = n) (body : Walk P w K mg base N st k T b) (B : BdS K mg m st ps shapes) : Propo P w K mg base c m (k + 1) (runDef T n b) shapes := by
  obtain ⟨C, p, f, fd, hm, pr, F⟩ := F
  exact ⟨C, p, f, fd, ps, hm, pr, fnG_fun F S hn body, bdS_fun F B⟩
theorem cmetho_of (F : CMethAt K mg c m qual st) (S : FnScope N ps (defScope st)) (hn : N.length = n) (body : Walk P w K mg base N st k T b) (B : BdS K mg m st ps shapes) : CMetho P w K mg base c m (k + 1) (runDef T n b) shapes := by
  obtain ⟨C, f, fd, mc, pp, hm, rd, cm, F⟩ := F
  exact ⟨C, f, fd, ps, mc, pp, hm, rd, cm, fnG_fun F S hn body, bdS_fun F B⟩
theorem law_fd {fa : Addr} {y : Str} (F : FunAt K mg x st) (hmg : mg x = some (.ref fa)) (S : FnScope N [y] (defScope st)) (hn : N.length = n) (body : ∀ base, Walk P w K mg base N st k T b)
    (hb : ∀ (qual : Str) (kV doc pm : Value) (an : Option Addr) (cdv ct : Value) (u : Value), bindArgs (PySem.W.fnOf x qual (defArgs st) (defBody st) (defScope st) .none kV doc pm an cdv ct) ⟨[u], []⟩ = pure [(y, u)]) :
    ∃ fd : FuncData, (∀ (s : Shared) (u : Value), BindsTo s fd ⟨[u], []⟩ [(y, u)]) ∧ ∀ base : Heap, K.In base → base.Ns mainGlobals mg → FnG P w K mg base (k + 1) fa fd [y] (runDef T n b) := by
  obtain ⟨f, fd, hm, F⟩ := F
  rw [hmg] at hm
  cases hm
  refine ⟨fd, fun s u => ?_, fun base _ _ => fnG_fun F S hn (body base)⟩
  obtain ⟨⟨oc, od, kV, doc, pm, an, cdv, ct, osl, rfl, lk, hcd⟩, kp⟩ := F
  exact .of_eq (hb _ _ _ _ _ _ _ u)
theorem kit_cb {C : Addr} {t : String} (h : PySem.W.subIn K (.ref C) (.type t) = some false) (m : PySem.W.kitMeta t = true) : PySem.W.kitOne K (.ref C) (.type t) = some false := by
  unfold PySem.W.kitOne
  rw [if_neg (show ¬ ((Value.ref C == Value.type t) = true) from Bool.false_ne_true)]
  unfold PySem.W.kitCls
  dsimp only
  rw [if_pos m]
  exact h
theorem kit_bc {C : Addr} {t : String} (h1 : PySem.W.isClsIn K C = true) (h2 : PySem.W.typeIn K (.ref C) = some (.type "type")) (h : PySem.W.subIn K (.type t) (.ref C) = some false) : PySem.W.kitOne K (.type t) (.ref C) = some false := by
  unfold PySem.W.kitOne
  rw [if_neg (show ¬ ((Value.type t == Value.ref C) = true) from Bool.false_ne_true)]
  unfold PySem.W.kitCls
  dsimp only
  have h1 : (PySem.W.clsIn K C).isSome = true := h1
  rw [h1, h2]
  exact h
theorem kit_self {C : Addr} : PySem.W.kitOne K (.ref C) (.ref C) = some true := by
  unfold PySem.W.kitOne
  rw [if_pos (by simp)]
end
/-! ### classes -/
abbrev ClsTab := Str → Option ClsT
def NamesIn (cls : ClsTab) (ns : List Str) : Prop := ∀ c ct, cls c = some ct → c ∈ ns
theorem names_nil {ns : List Str} : NamesIn (fun _ => none) ns := fun _ _ h => by cases h
theorem names_if {ns : List Str} {g : Str} {ct0 : ClsT} {rest : ClsTab} (h : g ∈ ns) (r : NamesIn rest ns) : NamesIn (fun c => if c = g then some ct0 else rest c) ns := fun c ct e => by
  have e : (if c = g then some ct0 else rest c) = some ct := e
  by_cases q : c = g
  · rw [q]; exact h
  · rw [if_neg q] at e; exact r c ct e
section
variable {X : Cx} {W : XW} {T : Tab} {g f m c : Str} {ct0 ct : ClsT} {flds : List Str} {btys : List String} {k : Nat} {fm : FM} {shapes : List Shape} {rest : ClsTab} {ns : List Str}
def AttrAll (X : Cx) (cls : ClsTab) (f : Str) : Prop := ∀ c ct, cls c = some ct → AttrC X c ct f
theorem attr_nil : AttrAll X (fun _ => none) f := fun _ _ h => by cases h
theorem attr_if (h : AttrC X g ct0 f) (r : AttrAll X rest f) : AttrAll X (fun c => if c = g then some ct0 else rest c) f := fun c ct e => by
  have e : (if c = g then some ct0 else rest c) = some ct := e
  by_cases q : c = g
  · rw [if_pos q] at e; cases e; rw [q]; exact h
  · rw [if_neg q] at e; exact r c ct e
theorem attrC_absent (z : X.mg c = none) : AttrC X c ct f := fun C h => by rw [z] at h; cases h
theorem attrC_prop (A : ClassAt X.K X.mg c flds btys) (ok : Propo X.prog X.w X.K X.mg X.base c f k fm shapes) (hs : (0, [], []) ∈ shapes) (hp : ct.prop f = some fm) (hr : Sur (k + 1) X.A) : AttrC X c ct f := by
  intro C0 hC0
  obtain ⟨C, hC, ty, _, _⟩ := A
  rw [hC] at hC0
  cases hC0
  obtain ⟨C', p, fa, fd, ps, hC', pr, F, B⟩ := ok
  rw [hC] at hC'
  cases hC'
  refine ⟨ty.cl, fun h0 => absurd (hp.symm.trans h0) (by simp), fun fm' h0 => ?_⟩
  rw [hp] at h0
  cases h0
  exact ⟨p, fa, fd, ps, k, pr, F, B _ hs, hr⟩
theorem attrC_fld (A : ClassAt X.K X.mg c flds btys) (hf : ct.fld = flds) (hp : ct.prop f = none) : AttrC X c ct f := by
  intro C0 hC0
  obtain ⟨C, hC, ty, na, _⟩ := A
  rw [hC] at hC0
  cases hC0
  refine ⟨ty.cl, fun _ h1 => na f ?_, fun fm' h0 => absurd (hp.symm.trans h0) (by simp)⟩
  rw [hf] at h1
  simpa using h1
def SetAll (X : Cx) (cls : ClsTab) (f : Str) : Prop := ∀ c ct, cls c = some ct → ct.fld.contains f = true → ∀ C, X.mg c = some (.ref C) → L2.Cls X.K C ∧ L2.NoAttr X.K C f
theorem set_nil : SetAll X (fun _ => none) f := fun _ _ h => by cases h
theorem set_if (h : ct0.fld.contains f = true → ∀ C, X.mg g = some (.ref C) → L2.Cls X.K C ∧ L2.NoAttr X.K C f) (r : SetAll X rest f) : SetAll X (fun c => if c = g then some ct0 else rest c) f := fun c ct e => by
  have e : (if c = g then some ct0 else rest c) = some ct := e
  by_cases q : c = g
  · rw [if_pos q] at e; cases e; rw [q]; exact h
  · rw [if_neg q] at e; exact r c ct e
theorem setC_absent (z : X.mg c = none) : ct.fld.contains f = true → ∀ C, X.mg c = some (.ref C) → L2.Cls X.K C ∧ L2.NoAttr X.K C f := fun _ C h => by rw [z] at h; cases h
theorem setC_fld (A : ClassAt X.K X.mg c flds btys) (hf : ct.fld = flds) : ct.fld.contains f = true → ∀ C, X.mg c = some (.ref C) → L2.Cls X.K C ∧ L2.NoAttr X.K C f := fun h1 C hC => by
  obtain ⟨C', hC', ty, na, _⟩ := A
  rw [hC] at hC'
  cases hC'
  refine ⟨ty.cl, na f ?_⟩
  rw [hf] at h1
  simpa using h1
/-- the classes of a law beside a built-in type -/
abbrev InsB (K : PySem.W.Frag) (mg : Str → Option Value) (ns : List Str) (n : String) : Prop := ∀ c ∈ ns, ∀ C, mg c = some (.ref C) → InsTy K C ∧ PySem.W.kitOne K (.ref C) (.type n) = some false
abbrev InsC (K : PySem.W.Frag) (mg : Str → Option Value) (ns : List Str) (g : Str) : Prop := ∀ c ∈ ns, ∀ C, mg c = some (.ref C) → ∀ G, mg g = some (.ref G) → InsTy K C ∧ PySem.W.kitOne K (.ref C) (.ref G) = some (decide (c = g)) ∧ PySem.W.notFirst K G (.ref C) = true
theorem insB_at {K : PySem.W.Frag} {mg : Str → Option Value} {n : String} (A : ClassAt K mg c flds btys) (hn : n ∈ btys) : ∀ C, mg c = some (.ref C) → InsTy K C ∧ PySem.W.kitOne K (.ref C) (.type n) = some false := fun C hC => by
  obtain ⟨C', hC', ty, _, kt⟩ := A
  rw [hC] at hC'
  cases hC'
  exact ⟨ty, kt n hn⟩
theorem absent_at {mg : Str → Option Value} {P : Addr → Prop} (z : mg c = none) : ∀ C, mg c = some (.ref C) → P C := fun C h => by rw [z] at h; cases h
theorem insC_self {K : PySem.W.Frag} {mg : Str → Option Value} (A : ClassAt K mg c flds btys) (I : ∀ C, mg c = some (.ref C) → IsiAt K C) : ∀ C, mg c = some (.ref C) → ∀ G, mg c = some (.ref G) → InsTy K C ∧ PySem.W.kitOne K (.ref C) (.ref G) = some (decide (c = c)) ∧ PySem.W.notFirst K G (.ref C) = true := fun C hC G hG => by
  obtain ⟨C', hC', ty, _, kt⟩ := A
  rw [hC] at hC' hG
  cases hC'
  cases hG
  exact ⟨ty, by rw [decide_eq_true rfl]; exact (I C hC).2.2.1, (I C hC).2.2.2.1⟩
theorem isiB_of {n : String} (nm : NamesIn T.cls ns) (A : InsB X.K X.mg ns n) (h1 : kitB "NoneType" n = some false) (h2 : kitB "bool" n = some (n == "bool" || n == "int")) (h3 : kitB "int" n = some (n == "int")) (h4 : kitB "str" n = some (n == "str")) (h5 : kitB "tuple" n = some (n == "tuple")) (h6 : kitB "list" n = some (n == "list")) : IsiB X T n :=
  ⟨h1, h2, h3, h4, h5, h6, fun c ct h C hC => A c (nm c ct h) C hC⟩
theorem isiC_of (nm : NamesIn T.cls ns) (hg : ∃ C, X.mg g = some (.ref C)) (A : InsC X.K X.mg ns g) (I : ∀ C, X.mg g = some (.ref C) → IsiAt X.K C) : ∃ C, IsiC X T g C := by
  obtain ⟨C, hC⟩ := hg
  exact ⟨C, hC, (I C hC).1, fun c' ct h C' hC' => ⟨(A c' (nm c' ct h) C' hC' C hC).1, (A c' (nm c' ct h) C' hC' C hC).2.1⟩⟩
theorem e_isiC2 {a : Expr} {ca : CE} {c : Str} {p p2 pos : Pos} (B : Blt X.mg) (G : ∃ C, IsiC X T c C) (ha : DE X W T a ca) (hg : Gl X "isinstance" := by rfl) (hg2 : Gl X c := by rfl) (hd : (c == ("__debug__" : Str)) = false := by decide +kernel)
    (hs2 : starEach [a, .Name c p2] X.env = (false, eval a X.env) :: starEach [.Name c p2] X.env := by rfl) (hs : starEach [.Name c p2] X.env = (false, eval (.Name c p2) X.env) :: starEach [] X.env := by rfl) (hpl : (backTo pos (starEach [.Name c p2] X.env)).any (·.1) = false := by rfl) :
    DE X W T (.Call (.Name "isinstance" p) [a, .Name c p2] [] pos) (.isi ca (.glo c)) := G.elim fun _ G => e_isiC B G ha hg hg2 hd hs2 hs hpl
theorem meth_of {c : Str} (hc : T.cls c = some ct0) (hm : ct0.meth m = some fm) : methOf T c m = some fm := by
  unfold methOf
  rw [hc]
  exact hm
theorem dund_of {c : Str} (ok : Metho X.prog X.w X.K X.mg X.base c m k fm shapes) (hs : (0, [], []) ∈ shapes) (mt : methOf T c m = some fm) : DundG X T c m k := by
  obtain ⟨C, f, fd, ps, hC, cl, hm, F, B⟩ := ok
  exact ⟨C, f, fd, ps, fm, ⟨hC, cl, hm, F, mt⟩, B _ hs⟩
theorem eq_of (nm : NamesIn T.cls ns) (hc : T.cls g = some ct0) (A : ClassAt X.K X.mg g flds btys) (N : InsC X.K X.mg ns g) (I : ∀ C, X.mg g = some (.ref C) → IsiAt X.K C) (ok : Metho X.prog X.w X.K X.mg X.base g "__eq__" k fm shapes) (hs : (1, [], [.arg 0]) ∈ shapes) (he : ct0.eqm = some fm) : EqG X T g k := by
  obtain ⟨C, f, fd, ps, hC, _, hm, F, B⟩ := ok
  obtain ⟨C', hC', ty, _, _⟩ := A
  rw [hC] at hC'
  cases hC'
  have J := I C hC
  refine ⟨C, f, fd, ps, fm, hC, hm.at_, hm.fn, F, B _ hs, ?_, J.2.2.2.2.1, ty.hm, J.2.1, fun c' ct h C' hC' => ?_⟩
  · unfold eqmOf
    rw [hc]
    exact he
  · exact ⟨(N c' (nm c' ct h) C' hC' C hC).1, (N c' (nm c' ct h) C' hC' C hC).2.2⟩
end
end DL
end
section
set_option Elab.async false
set_option linter.all false
set_option maxRecDepth 100000
set_option maxHeartbeats 2000000
/-! DL, part fz: what a computation made, let go. -/
namespace DL
open PySem PySem.Spec PyProof.Rows L2
section
variable {K : PySem.W.Frag} {mg : Str → Option Value} {μ μ' ν : List Addr} {M M' : Mem} {H H' : Hp}
theorem mapO_cons {α β : Type} {f : α → Option β} {a : α} {as : List α} {bs : List β} (h : mapO f (a :: as) = some bs) : ∃ b r, f a = some b ∧ mapO f as = some r ∧ bs = b :: r := by
  rw [mapO] at h
  split at h
  · rename_i b r h1 h2
    cases h
    exact ⟨b, r, h1, h2, rfl⟩
  · cases h
mutual
theorem RepV.lowD : ∀ (d : D) (v : V), RepV K mg μ H d v → D.low μ.length d = true
  | _, _, .non => rfl
  | _, _, .bl _ => rfl
  | _, _, .int _ => rfl
  | _, _, .str _ => rfl
  | _, _, .tup _ r => RepVs.lowD _ _ r
  | _, _, .scr _ r => RepVs.lowD _ _ r
  | _, _, .fl _ _ r => RepVs.lowD _ _ r
  | _, _, .pt _ _ r => RepVs.lowD _ _ r
  | _, _, .ref h => decide_eq_true (List.getElem?_eq_some_iff.mp h).1
  | _, _, .glo _ _ => rfl
  | _, _, .bty _ => rfl
  | _, _, .ob _ _ _ _ r => RepVs.lowD _ _ r
theorem RepVs.lowD : ∀ (ds : List D) (vs : List V), RepVs K mg μ H ds vs → D.lows μ.length ds = true
  | _, _, .nil => rfl
  | _, _, .cons h r => by
    show (_ && _) = true
    rw [RepV.lowD _ _ h, RepVs.lowD _ _ r]
    rfl
end
theorem nin {a : Addr} (h : a ∉ μ ++ ν) : a ∉ μ := fun z => h (List.mem_append_left _ z)
mutual
theorem RepV.cutD : ∀ (d : D) (v : V), RepV K mg (μ ++ ν) H d v → D.low μ.length d = true → RepV K mg μ H d v
  | _, _, .non, _ => .non
  | _, _, .bl b, _ => .bl b
  | _, _, .int i, _ => .int i
  | _, _, .str x, _ => .str x
  | _, _, .tup h r, q => .tup h (RepVs.cutD _ _ r q)
  | _, _, .scr h r, q => .scr h (RepVs.cutD _ _ r q)
  | _, _, .fl h n r, q => .fl h (nin n) (RepVs.cutD _ _ r q)
  | _, _, .pt h n r, q => .pt h n (RepVs.cutD _ _ r q)
  | _, _, .ref h, q => .ref (by
      rw [List.getElem?_append_left (of_decide_eq_true q)] at h
      exact h)
  | _, _, .glo h r, _ => .glo h r
  | _, _, .bty n, _ => .bty n
  | _, _, .ob h1 h2 h3 h4 r, q => .ob h1 h2 (nin h3) h4 (RepVs.cutD _ _ r q)
theorem RepVs.cutD : ∀ (ds : List D) (vs : List V), RepVs K mg (μ ++ ν) H ds vs → D.lows μ.length ds = true → RepVs K mg μ H ds vs
  | _, _, .nil, _ => .nil
  | _, _, .cons h r, q => by
    have q : (_ && _) = true := q
    rw [Bool.and_eq_true] at q
    exact .cons (RepV.cutD _ _ h q.1) (RepVs.cutD _ _ r q.2)
end
theorem RepF.cutD : ∀ {fs : List (Str × D)} {gs : List (Str × V)}, RepF K mg (μ ++ ν) H fs gs → D.lows μ.length (fs.map (·.2)) = true → RepF K mg μ H fs gs
  | _, _, .nil, _ => .nil
  | _, _, .cons h r, q => by
    have q : (_ && _) = true := q
    rw [Bool.and_eq_true] at q
    exact .cons (RepV.cutD _ _ h q.1) (RepF.cutD r q.2)
theorem RepF.vals : ∀ {fs : List (Str × D)} {gs : List (Str × V)}, RepF K mg μ H fs gs → RepVs K mg μ H (fs.map (·.2)) (gs.map (·.2)) ∧ gs.map (·.1) = fs.map (·.1)
  | _, _, .nil => ⟨.nil, rfl⟩
  | _, _, .cons h r => ⟨.cons h r.vals.1, by rw [List.map_cons, List.map_cons, r.vals.2]⟩
theorem RepF.lowF : ∀ {fs : List (Str × D)} {gs : List (Str × V)}, RepF K mg μ H fs gs → D.lows μ.length (fs.map (·.2)) = true := fun r => RepVs.lowD _ _ r.vals.1
theorem RepO.lowO {a : Addr} {o : O} (h : RepO K mg μ H a o) : O.low μ.length o = true := by
  cases o with
  | lst ds => obtain ⟨vs, _, r⟩ := h; exact RepVs.lowD _ _ r
  | ins c fs => obtain ⟨C, dx, gs, _, _, r⟩ := h; exact r.lowF
  | dct z kvs => obtain ⟨ws, _, _, r⟩ := h; exact RepVs.lowD _ _ r
theorem RepO.cutO {a : Addr} {o : O} (h : RepO K mg (μ ++ ν) H a o) (q : O.low μ.length o = true) : RepO K mg μ H a o := by
  cases o with
  | lst ds => obtain ⟨vs, e, r⟩ := h; exact ⟨vs, e, RepVs.cutD _ _ r q⟩
  | ins c fs => obtain ⟨C, dx, gs, e1, e2, r⟩ := h; exact ⟨C, dx, gs, e1, e2, r.cutD q⟩
  | dct z kvs => obtain ⟨ws, e1, e2, r⟩ := h; exact ⟨ws, e1, e2, RepVs.cutD _ _ r q⟩
theorem frD_rep (rm : RepM K mg (μ ++ ν) M H) : ∀ (m : Nat) (d d' : D) (v : V), frD M μ.length m d = some d' → RepV K mg (μ ++ ν) H d v → RepV K mg μ H d' v := by
  intro m
  induction m with
  | zero =>
    intro d d' v e r
    rw [frD] at e
    split at e
    · rename_i q; cases e; exact RepV.cutD _ _ r q
    · cases e
  | succ m ih =>
    have ihs : ∀ (ds ds' : List D) (vs : List V), mapO (frD M μ.length m) ds = some ds' → RepVs K mg (μ ++ ν) H ds vs → RepVs K mg μ H ds' vs := by
      intro ds
      induction ds with
      | nil => intro ds' vs e r; rw [mapO] at e; cases e; cases r; exact .nil
      | cons d ds ih2 =>
        intro ds' vs e r
        obtain ⟨b, bs, h1, h2, rfl⟩ := mapO_cons e
        cases r with | cons r1 r2 => exact .cons (ih _ _ _ h1 r1) (ih2 _ _ h2 r2)
    intro d d' v e r
    unfold frD at e
    split at e
    · rename_i q; cases e; exact RepV.cutD _ _ r q
    · rename_i q
      cases r with
      | tup h r =>
        obtain ⟨es, h1, rfl⟩ := Option.map_eq_some_iff.mp e
        exact .tup h (ihs _ _ _ h1 r)
      | scr h r =>
        obtain ⟨es, h1, rfl⟩ := Option.map_eq_some_iff.mp e
        exact .scr h (ihs _ _ _ h1 r)
      | fl h n r =>
        obtain ⟨es, h1, rfl⟩ := Option.map_eq_some_iff.mp e
        exact .fl h (nin n) (ihs _ _ _ h1 r)
      | pt h n r =>
        obtain ⟨es, h1, rfl⟩ := Option.map_eq_some_iff.mp e
        exact .pt h n (ihs _ _ _ h1 r)
      | ob h1 h2 h3 h4 r =>
        obtain ⟨es, h5, rfl⟩ := Option.map_eq_some_iff.mp e
        exact .ob h1 h2 (nin h3) h4 (ihs _ _ _ h5 r)
      | @ref k a h =>
        have hk : ¬ k < μ.length := fun z => q (decide_eq_true z)
        have out : a ∉ μ := by
          intro z
          rw [List.getElem?_append_right (by omega)] at h
          have := (List.nodup_append.mp rm.nd).2.2 a z a (List.mem_of_getElem? h)
          exact this rfl
        dsimp only at e
        split at e
        · rename_i ds hm
          obtain ⟨es, h1, rfl⟩ := Option.map_eq_some_iff.mp e
          obtain ⟨vs, h2, r⟩ := rm.obj _ _ _ h hm
          exact .fl h2 out (ihs _ _ _ h1 r)
        · rename_i c fs hm
          obtain ⟨es, h1, rfl⟩ := Option.map_eq_some_iff.mp e
          obtain ⟨C, dx, gs, h0, h2, r⟩ := rm.obj _ _ _ h hm
          exact .ob h0 h2 out r.vals.2 (ihs _ _ _ h1 r.vals.1)
        · cases e
        · cases e
      | _ => exact absurd rfl q
theorem oldOk_at {n : Nat} : ∀ {M M' : Mem}, oldOk n M M' = true → M.length ≤ M'.length ∧ ∀ (i : Nat) (o : O), i < M.length → M'[i]? = some o → M[i]? = some o ∨ O.low n o = true
  | [], _, _ => ⟨Nat.zero_le _, fun i o h => by cases h⟩
  | _ :: _, [], h => by cases h
  | o :: M, o' :: M', h => by
    rw [oldOk, Bool.and_eq_true, Bool.or_eq_true] at h
    obtain ⟨h1, h2⟩ := oldOk_at h.2
    refine ⟨Nat.succ_le_succ h1, fun i x hi hx => ?_⟩
    cases i with
    | zero =>
      simp only [List.getElem?_cons_zero, Option.some.injEq] at hx ⊢
      subst hx
      exact h.1.imp O.eq_of id
    | succ i =>
      simp only [List.getElem?_cons_succ] at hx ⊢
      exact h2 i x (Nat.lt_of_succ_lt_succ hi) hx
theorem frz_w {W : XW} {m : R D} {Q : VK} (rm : RepM K mg μ M H) (h : Wants K mg W (RepV K mg) (frzR m M) μ H Q) : Wants K mg W (RepV K mg) (m M) μ H Q := by
  obtain ⟨r, M1, e, k⟩ := h
  unfold frzR at e
  split at e
  · rename_i d M2 e1
    split at e
    · rename_i d' e2
      split at e
      · rename_i e3
        cases e
        refine ⟨_, _, e1, fun μ' H' l rm' v rv => ?_⟩
        obtain ⟨ν, rfl, nu⟩ := l.ext
        obtain ⟨h1, h2⟩ := oldOk_at e3
        have l' : Le μ H μ H' := ⟨⟨[], by simp, fun _ z => by cases z⟩, l.keep, l.live, l.frz⟩
        have ml : M.length = μ.length := rm.len.symm
        have rm2 : RepM K mg μ (M2.take M.length) H' := by
          refine ⟨by rw [List.length_take, rm.len]; omega, rm.nd, fun i a o hi ho => ?_⟩
          have il : i < M.length := by
            rw [ml]
            exact (List.getElem?_eq_some_iff.mp hi).1
          rw [List.getElem?_take_of_lt il] at ho
          have q := rm'.obj i a o (by rw [List.getElem?_append_left (by rw [← ml]; exact il)]; exact hi) ho
          refine q.cutO ?_
          rcases h2 i o il ho with z | z
          · exact (rm.obj i a o hi z).lowO
          · rw [ml] at z; exact z
        refine k μ H' l' rm2 v ?_
        rw [ml] at e2
        exact frD_rep rm' 20 _ _ _ e2 rv
      · cases e
    · cases e
  · cases e
end
theorem e_frz {X : Cx} {W : XW} {T : Tab} {e : Expr} {c : CE} (h : DE X W T e c) : DE X W T e (.frz c) :=
  pe_imp h fun σ H Q ⟨μ, M, env, rm, rs, w⟩ => by
    have w : Wants X.K X.mg W (RepV X.K X.mg) (frzR (evE T c env) M) μ H Q := w
    exact ⟨μ, M, env, rm, rs, frz_w rm w⟩
end DL
end
section
set_option Elab.async false
set_option linter.all false
set_option maxRecDepth 100000
set_option maxHeartbeats 2000000
/-! DL, part ga: starred displays, dicts with tuples as keys, frozen assignments. -/
namespace DL
open PySem PySem.Spec PyProof.Rows L2
section
variable {X : Cx} {W : XW} {T : Tab} {pos p : Pos}
/-! ### starred displays -/
abbrev DSt (X : Cx) (W : XW) (T : Tab) (e : List Expr) (c : CSt) : Prop := PA X e (tAD X.K X.mg W (evSt T c))
theorem seqD_w {α β : Type} {rel : List Addr → Hp → α → β → Prop} {d : D} {v : V} {f : List D → R α} {M : Mem} {μ : List Addr} {H : Hp} {Q : β → Hp → Prop} (rm : RepM X.K X.mg μ M H) (rv : RepV X.K X.mg μ H d v) (h : Wants X.K X.mg W rel (bnd (seqD d) f M) μ H Q) :
    ∃ a vs ds, v = .ref a ∧ (SqT X.K H a vs ∨ SqL X.K H a vs) ∧ RepVs X.K X.mg μ H ds vs ∧ Wants X.K X.mg W rel (f ds M) μ H Q := by
  obtain ⟨r, M', e, k⟩ := h
  rcases bnd_some e with ⟨z, hi, e⟩ | ⟨t, M1, hi, e⟩
  · exfalso
    unfold seqD at hi
    split at hi <;> cases hi
  · unfold seqD at hi
    split at hi
    · rename_i ds hd
      cases hi
      obtain ⟨a, vs, h1, h2, h3⟩ := seq_of (X := X) rm rv hd
      exact ⟨a, vs, _, h1, h2.symm, h3, r, M', e, k⟩
    · cases hi
theorem st_nil : DSt X W T [] .nil := pa_imp pa_nil fun σ H Q ⟨μ, M, env, rm, rs, h⟩ => by
  have h : Wants X.K X.mg W (RepVs X.K X.mg) (ret [] M) μ H Q := h
  exact Wants.ret (a := []) h rm .nil
theorem st_cons {e : Expr} {es : List Expr} {c : CE} {cs : CSt} (ha : DE X W T e c) (hr : DSt X W T es cs) (hs : starEach (e :: es) X.env = (false, eval e X.env) :: starEach es X.env := by rfl) : DSt X W T (e :: es) (.cons c cs) :=
  pa_imp (pa_cons ha hr hs) fun σ H Q ⟨μ, M, env, rm, rs, h⟩ => by
    have h : Wants X.K X.mg W (RepVs X.K X.mg) (bnd (evE T c env) (fun x => bnd (evSt T cs env) fun xs => ret (x :: xs)) M) μ H Q := h
    exact tD_bnd rm rs h (f := fun x env => bnd (evSt T cs env) fun xs => ret (x :: xs)) fun v H1 μ1 M1 d l1 rm1 rs1 rv w =>
      tA_bnd rm1 rs1 w (f := fun xs env => ret (d :: xs)) fun vs H2 μ2 M2 ds l2 rm2 rs2 rvs w2 => Wants.ret (a := d :: ds) w2 rm2 (.cons (rv.up l2 rm1) rvs)
theorem st_star {e : Expr} {es : List Expr} {c : CE} {cs : CSt} {sp : Pos} (ha : DE X W T e c) (hr : DSt X W T es cs) (hs : starEach (.Starred e sp :: es) X.env = (true, eval e X.env) :: starEach es X.env := by rfl) : DSt X W T (.Starred e sp :: es) (.star c cs) :=
  pa_imp (StX.pa_star ha hr hs) fun σ H Q ⟨μ, M, env, rm, rs, h⟩ => by
    have h : Wants X.K X.mg W (RepVs X.K X.mg) (bnd (evE T c env) (fun x => bnd (seqD x) fun ys => bnd (evSt T cs env) fun xs => ret (ys ++ xs)) M) μ H Q := h
    exact tD_bnd rm rs h (f := fun x env => bnd (seqD x) fun ys => bnd (evSt T cs env) fun xs => ret (ys ++ xs)) fun v H1 μ1 M1 d l1 rm1 rs1 rv w => by
      obtain ⟨a, vs, ds, ev, hq, rr, w⟩ := seqD_w rm1 rv w
      exact ⟨a, vs, ev, hq, tA_bnd rm1 rs1 w (f := fun xs env => ret (ds ++ xs)) fun ws H2 μ2 M2 es l2 rm2 rs2 rvs w2 => Wants.ret (a := ds ++ es) w2 rm2 ((rr.up l2 rm1).append rvs)⟩
theorem e_tupS {es : List Expr} {cs : CSt} {x1 : Nat} (h : DSt X W T es cs) : DE X W T (.Tuple es x1 pos) (.tupS cs) := de_tup h
/-! ### dicts -/
theorem repM_dct {μ : List Addr} {M : Mem} {H : Hp} {x : D} {v : V} {fz : Bool} {kvs : List (List L2.Key × D)} (rm : RepM X.K X.mg μ M H) (rv : RepV X.K X.mg μ H x v) (e : dctOf M x = some (fz, kvs)) : ∃ n a ws, x = .ref n ∧ μ[n]? = some a ∧ M[n]? = some (.dct fz kvs) ∧ v = .ref a ∧ Rd H a (.dT ws) ∧ (fz = false → H a = some (.dT ws)) ∧ ws.map (·.1) = kvs.map (·.1) ∧ RepVs X.K X.mg μ H (kvs.map (·.2)) (ws.map (·.2)) := by
  unfold dctOf at e
  split at e
  · split at e
    · rename_i hm
      cases e
      cases rv with | @ref _ a hn => ?_
      obtain ⟨ws, h1, h2, h3⟩ := rm.obj _ _ _ hn hm
      refine ⟨_, a, ws, rfl, hn, hm, rfl, ?_, ?_, h2, h3⟩
      · split at h1
        · obtain ⟨o, h1⟩ := h1; exact .inr ⟨o, h1⟩
        · exact .inl h1
      · intro hf
        rw [hf] at h1
        exact h1
    · cases e
  · cases e
theorem keyD_v {K : PySem.W.Frag} {mg : Str → Option Value} {μ : List Addr} {H : Hp} : ∀ {ds : List D} {vs : List V} {ks : List L2.Key}, RepVs K mg μ H ds vs → mapO keyD ds = some ks → vs = ks.map kV
  | [], _, _, .nil, e => by rw [mapO] at e; cases e; rfl
  | d :: ds, _, _, .cons h r, e => by
    obtain ⟨b, bs, h1, h2, rfl⟩ := mapO_cons e
    rw [keyD_v r h2, List.map_cons]
    congr 1
    cases h <;> first | (cases h1; rfl) | cases h1
theorem key_v {μ : List Addr} {H : Hp} {y : D} {v : V} {k : List L2.Key} (rv : RepV X.K X.mg μ H y v) (e : keyOf y = some k) : ∃ b, v = .ref b ∧ H b = some (.tup (k.map kV)) := by
  unfold keyOf at e
  split at e
  · cases rv with | tup h r => ?_
    rw [keyD_v r e] at h
    exact ⟨_, rfl, h⟩
  · cases e
theorem getK_v {K : PySem.W.Frag} {mg : Str → Option Value} {μ : List Addr} {H : Hp} (q : List L2.Key) : ∀ {kvs : List (List L2.Key × D)} {ws : List (List L2.Key × V)}, ws.map (·.1) = kvs.map (·.1) → RepVs K mg μ H (kvs.map (·.2)) (ws.map (·.2)) → (∀ d, getK kvs q = some d → ∃ v, valV ws q = some v ∧ RepV K mg μ H d v) ∧ (getK kvs q = none → valV ws q = none)
  | [], [], _, _ => ⟨fun d h => (by cases h), fun _ => rfl⟩
  | [], _ :: _, h, _ => by simp at h
  | _ :: _, [], h, _ => by simp at h
  | (k, d) :: kvs, (k', v) :: ws, h, r => by
    simp only [List.map_cons, List.cons.injEq] at h
    obtain ⟨rfl, h⟩ := h
    cases r with | cons r1 r2 => ?_
    have ih := getK_v q h r2
    have ev : valV ((k', v) :: ws) q = if k' = q then some v else valV ws q := by
      unfold valV
      by_cases e : k' = q
      · simp [e]
      · simp [e]
    have ed : getK ((k', d) :: kvs) q = if k' = q then some d else getK kvs q := rfl
    rw [ev, ed]
    by_cases e : k' = q
    · rw [if_pos e, if_pos e]
      exact ⟨fun x hx => by cases hx; exact ⟨v, rfl, r1⟩, fun z => by cases z⟩
    · rw [if_neg e, if_neg e]; exact ih
theorem e_dnew : DE X W T (.Dict [] [] pos) .dnew := pe_imp pe_dnewT fun σ H Q ⟨μ, M, env, rm, rs, h⟩ => by
  have h : Wants X.K X.mg W (RepV X.K X.mg) (new (.dct false []) M) μ H Q := h
  exact fun q hq => h.made rm hq ⟨[], upd_same, rfl, .nil⟩
theorem dget_w {x y : D} {v u : V} {M : Mem} {μ : List Addr} {H : Hp} {Q : VK} (rm : RepM X.K X.mg μ M H) (rx : RepV X.K X.mg μ H x v) (ry : RepV X.K X.mg μ H y u) (h : Wants X.K X.mg W (RepV X.K X.mg) (dgetD x y M) μ H Q) : ∃ a w, v = .ref a ∧ DGet H a u (some w) ∧ Q w H := by
  unfold dgetD at h
  split at h
  · rename_i pq k e1 e2
    split at h
    · rename_i d hd
      obtain ⟨fz, kvs⟩ := pq
      obtain ⟨n, a, ws, hx, hn, hm, ev, hr, _, h1, h2⟩ := repM_dct (X := X) rm rx e1
      obtain ⟨b, eu, hb⟩ := key_v (X := X) ry e2
      obtain ⟨w, hw, rw'⟩ := (getK_v k h1 h2).1 d hd
      subst eu
      exact ⟨a, w, ev, .inr ⟨ws, k, b, hr, rfl, hb, hw.symm⟩, h.some (Le.refl _ _) rm rw'⟩
    · exact h.none.elim
  · exact h.none.elim
theorem e_dget {o i : Expr} {a b : CE} {k : Nat} (hr : Room k X.A) (ha : DE X W T o a) (hb : DE X W T i b) (hs : NoSl i := by intro _ _; rfl) : DE X W T (.Subscript o i pos) (.dget a b) :=
  pe_imp (pe_dget (by have := hr.units; omega) ha hb hs) fun σ H Q ⟨μ, M, env, rm, rs, h⟩ => by
    have h : Wants X.K X.mg W (RepV X.K X.mg) (bnd (evE T a env) (fun x => bnd (evE T b env) fun y => dgetD x y) M) μ H Q := h
    exact tD_bnd rm rs h (f := fun x env => bnd (evE T b env) fun y => dgetD x y) fun v H1 μ1 M1 d l1 rm1 rs1 rv w =>
      tD_bnd rm1 rs1 w (f := fun y env => dgetD d y) fun v2 H2 μ2 M2 d2 l2 rm2 rs2 rv2 w2 => by
        obtain ⟨a, x, e, g, q⟩ := dget_w rm2 (rv.up l2 rm1) rv2 w2
        exact ⟨a, x, e, g, q⟩
theorem setK_any (q : List L2.Key) : ∀ {kvs : List (List L2.Key × D)} {ws : List (List L2.Key × V)}, ws.map (·.1) = kvs.map (·.1) → (ws.any fun kv => decide (kv.1 = q)) = (kvs.any fun kv => decide (kv.1 = q))
  | [], [], _ => rfl
  | [], _ :: _, h => by simp at h
  | _ :: _, [], h => by simp at h
  | c :: kvs, w :: ws, h => by
    simp only [List.map_cons, List.cons.injEq] at h
    rw [List.any_cons, List.any_cons, h.1, setK_any q h.2]
theorem setK_map {K : PySem.W.Frag} {mg : Str → Option Value} {μ : List Addr} {H : Hp} (q : List L2.Key) {d : D} {v : V} (r : RepV K mg μ H d v) : ∀ {kvs : List (List L2.Key × D)} {ws : List (List L2.Key × V)}, ws.map (·.1) = kvs.map (·.1) → RepVs K mg μ H (kvs.map (·.2)) (ws.map (·.2)) →
    (ws.map fun kv => if kv.1 = q then (kv.1, v) else kv).map (·.1) = (kvs.map fun kv => if kv.1 = q then (kv.1, d) else kv).map (·.1) ∧ RepVs K mg μ H ((kvs.map fun kv => if kv.1 = q then (kv.1, d) else kv).map (·.2)) ((ws.map fun kv => if kv.1 = q then (kv.1, v) else kv).map (·.2))
  | [], [], _, _ => ⟨rfl, .nil⟩
  | [], _ :: _, h, _ => by simp at h
  | _ :: _, [], h, _ => by simp at h
  | c :: kvs, w :: ws, h, rr => by
    simp only [List.map_cons, List.cons.injEq] at h
    cases rr with | cons r1 r2 => ?_
    obtain ⟨a, b⟩ := setK_map q r h.2 r2
    simp only [List.map_cons]
    by_cases e : c.1 = q
    · have e2 : w.1 = q := h.1.trans e
      rw [if_pos e, if_pos e2]
      exact ⟨by rw [a, h.1], .cons r b⟩
    · have e2 : ¬ w.1 = q := by rw [h.1]; exact e
      rw [if_neg e, if_neg e2]
      exact ⟨by rw [a, h.1], .cons r1 b⟩
theorem setK_v {K : PySem.W.Frag} {mg : Str → Option Value} {μ : List Addr} {H : Hp} (q : List L2.Key) {d : D} {v : V} (r : RepV K mg μ H d v) {kvs : List (List L2.Key × D)} {ws : List (List L2.Key × V)} (h : ws.map (·.1) = kvs.map (·.1)) (rr : RepVs K mg μ H (kvs.map (·.2)) (ws.map (·.2))) :
    (putK ws q v).map (·.1) = (setK kvs q d).map (·.1) ∧ RepVs K mg μ H ((setK kvs q d).map (·.2)) ((putK ws q v).map (·.2)) := by
  unfold putK setK
  rw [setK_any q h]
  by_cases e : (kvs.any fun kv => decide (kv.1 = q)) = true
  · rw [if_pos e, if_pos e]
    exact setK_map q r h rr
  · rw [if_neg e, if_neg e]
    refine ⟨by simp [h], ?_⟩
    rw [List.map_append, List.map_append]
    exact rr.append (.cons r .nil)
theorem g_dsub {oe ie : Expr} {o i : CE} {k : Nat} (hr : Room k X.A) (ho : DE X W T oe o) (hi : DE X W T ie i)
    (ha : ∀ v, assign (.Subscript oe ie pos) X.env v = (do
      let ov ← holding [v] (eval oe X.env)
      let iv ← holding [v, ov] (eval ie X.env)
      standAt pos
      holding [v, ov, iv] (setItem ov iv v)
      release [v, ov, iv] []) := by intro _; rfl) : DG X W T [] (.Subscript oe ie pos) (.dsub o i) :=
  pg_imp (pg_sub ho hi (set_dict (by have := hr.units; omega)) ha) fun v σ H Q ⟨μ, M, d, env, rm, rs, rv, h⟩ =>
    tD_bnd rm rs h (f := fun x env => bnd (evE T i env) fun y => bnd (dsetD x y d) fun _ => ret env) fun v1 H1 μ1 M1 d1 l1 rm1 rs1 rv1 w =>
      tD_bnd rm1 rs1 w (f := fun y env => bnd (dsetD d1 y d) fun _ => ret env) fun v2 H2 μ2 M2 d2 l2 rm2 rs2 rv2 w2 => by
        have w2 := w2.bnd (rel1 := fun _ _ _ (_ : Unit) => True)
        have rv := (rv.up l1 rm).up l2 rm1
        have rv1 := rv1.up l2 rm1
        unfold dsetD at w2
        rcases hk : keyOf d2 with _ | kk
        · rw [hk] at w2; exact w2.none.elim
        · rw [hk] at w2
          dsimp only at w2
          split at w2
          · split at w2
            · rename_i kvs hM
              obtain ⟨hl, w2⟩ := w2.iteN
              cases rv1 with | @ref _ a hn => ?_
              obtain ⟨ws, h1, h2, h3⟩ := rm2.obj _ _ _ hn hM
              have h1 : H2 a = some (.dT ws) := h1
              obtain ⟨b, eb, hb⟩ := key_v (X := X) rv2 hk
              subst eb
              have hm := wr_of hn h1
              have lw : ws.length = kvs.length := by
                have := congrArg List.length h2
                rwa [List.length_map, List.length_map] at this
              obtain ⟨e1, e2⟩ := setK_v (K := X.K) (mg := X.mg) (μ := μ2) (H := upd H2 a (.dT (putK ws kk v))) kk (rv.up (Le.write hm) rm2) h2 (h3.up (Le.write hm) rm2)
              refine ⟨a, _, rfl, .inr ⟨ws, kk, b, h1, rfl, hb, by rw [lw]; exact hl, rfl⟩, ?_⟩
              have rmw := rm2.write hm (o := .dT (putK ws kk v)) (q := .dct false (setK kvs kk d)) hn ⟨putK ws kk v, upd_same, e1, e2⟩
              obtain ⟨μ3, M3, _, l3, rm3, _, w3⟩ := w2.some (Le.write hm) rmw (b := ()) trivial
              exact Wants.ret (a := env) (b := σ) w3 rm3 ⟨rs2.up l3 rm2, rfl, fun _ _ => rfl⟩
            · exact w2.none.elim
          · exact w2.none.elim
/-! ### keys walked -/
theorem i_dkeys {tg e : Expr} {c : CE} (he : DE X W T e c) : DI X W T tg e (.dkeys c) := by
  refine ⟨fun pins s σ H R I ⟨μ, M, env, rm, rs, h⟩ => ?_⟩
  have h : Wants X.K X.mg W (relI X.K X.mg) (bnd (evE T c env) dkeysD M) μ H R := h
  refine thn (he.run pins s σ H _ I (tD_bnd rm rs h (f := fun x _ => dkeysD x) (Q' := fun v H1 => ∃ μ1 M1 d1, RepM X.K X.mg μ1 M1 H1 ∧ RepV X.K X.mg μ1 H1 d1 v ∧ Wants X.K X.mg W (relI X.K X.mg) (dkeysD d1 M1) μ1 H1 R) fun v H1 μ1 M1 d l1 rm1 rs1 rv w => ⟨μ1, M1, d, rm1, rv, w⟩)) fun u s1 ⟨v, H1, I1, r1, μ1, M1, d1, rm1, rv1, w⟩ => ?_
  unfold dkeysD at w
  split at w
  · rename_i n
    split at w
    · rename_i fz kvs hM
      cases rv1 with | @ref _ a hn => ?_
      obtain rfl : u = Value.ref a := r1
      obtain ⟨ws, h1, h2, h3⟩ := rm1.obj _ _ _ hn hM
      -- the dict is locked
      have lock : ∃ od H2, Inv X pins σ H2 s1 ∧ H2 a = some (.frz od (.dT ws)) ∧ Le μ1 H1 μ1 H2 ∧ RepM X.K X.mg μ1 (M1.set n (.dct true kvs)) H2 := by
        cases fz with
        | false =>
          have h1 : H1 a = some (.dT ws) := h1
          obtain ⟨od, I2⟩ := I1.lock h1 trivial
          have hw := wr_of hn h1
          have lw := Le.write (o := .frz od (.dT ws)) hw
          exact ⟨od, _, I2, upd_same, lw, rm1.write hw (o := .frz od (.dT ws)) (q := .dct true kvs) hn ⟨ws, ⟨od, upd_same⟩, h2, h3.up lw rm1⟩⟩
        | true =>
          obtain ⟨od, h1⟩ : ∃ o, H1 a = some (.frz o (.dT ws)) := h1
          refine ⟨od, H1, I1, h1, Le.refl _ _, ?_⟩
          have e : M1.set n (.dct true kvs) = M1 := by
            obtain ⟨hl, he⟩ := List.getElem?_eq_some_iff.mp hM
            rw [← he]
            exact List.set_getElem_self hl
          rw [e]
          exact rm1
      obtain ⟨od, H2, I2, hd, lw, rmw⟩ := lock
      have ents : ∀ (i : Nat) (k : List L2.Key) (v : V), ws[i]? = some (k, v) → (kvs.map fun p => D.tup (p.1.map kD))[i]? = some (D.tup (k.map kD)) := by
        intro i k v hi
        have := congrArg (fun l => l[i]?) h2
        simp only [List.getElem?_map, hi, Option.map_some] at this
        rw [List.getElem?_map]
        cases hq : kvs[i]? with
        | none => rw [hq] at this; cases this
        | some q =>
          rw [hq] at this
          cases this
          rfl
      have ll : ws.length = kvs.length := by
        have := congrArg List.length h2
        rwa [List.length_map, List.length_map] at this
      have repk : ∀ (μ : List Addr) (H : Hp) (ks : List L2.Key), RepVs X.K X.mg μ H (ks.map kD) (ks.map kV) := by
        intro μ H ks
        induction ks with
        | nil => exact .nil
        | cons k ks ih =>
          refine .cons ?_ ih
          cases k with
          | inl i => exact .int i
          | inr x => exact .str x
      have walk : WalkOk X.K X.mg (Itkt a od ws) none (kvs.map fun p => D.tup (p.1.map kD)) μ1 H2 := by
        intro μ3 M3 H3 l3 rm3 _
        have hd3 := l3.frz _ _ _ hd
        refine ⟨fun i hi => ⟨hd3, by rw [List.length_map] at hi; omega⟩, fun i d hi => ?_⟩
        have hlt : i < ws.length := by
          have := (List.getElem?_eq_some_iff.mp hi).1
          rw [List.length_map] at this
          omega
        refine ⟨⟨hd3, hlt⟩, fun x H' y => ?_⟩
        obtain ⟨eH, k, v, q, e1, e2, e3⟩ := y
        subst eH e2
        rw [ents i k v e1] at hi
        cases hi
        exact ⟨Le.refl _ _, rm3, .tup e3 (repk _ _ _)⟩
      obtain ⟨hs, hgd, hx', es, ep, hdt, hsz, ent⟩ := I2.frzT hd
      refine iter_keys hs hgd hx' hdt (pi_one (tk := s1.toks) I2 _ (turn_keysT _ hdt) ⟨_, Heap.get?_push_size _ rfl, rfl, ?_⟩ (w.some (a := (_, none)) lw rmw walk))
      rw [hsz] <;> rfl
    · exact w.none.elim
  · exact w.none.elim
end
end DL
end
section
set_option Elab.async false
set_option linter.all false
set_option maxRecDepth 100000
set_option maxHeartbeats 2000000
/-! DL, part gb: comprehensions given to names, let go; comprehensions with two fors. -/
namespace DL
open PySem PySem.Spec PyProof.Rows L2
section
variable {K : PySem.W.Frag} {mg : Str → Option Value} {μ μ' : List Addr} {M M1 M2 : Mem} {H H' : Hp}
theorem frz_split {m : R D} {d' : D} (e : frzR m M = some (.ok d', M1)) : ∃ d M2, m M = some (.ok d, M2) ∧ frD M2 M.length 20 d = some d' ∧ oldOk M.length M M2 = true ∧ M1 = M2.take M.length := by
  unfold frzR at e
  split at e
  · rename_i d M2 e1
    split at e
    · rename_i d' e2
      split at e
      · rename_i e3
        cases e
        exact ⟨d, M2, e1, e2, e3, rfl⟩
      · cases e
    · cases e
  · cases e
theorem frz_noerr {m : R D} {x : D} : frzR m M ≠ some (.error x, M1) := by
  intro e
  unfold frzR at e
  split at e
  · split at e
    · split at e <;> cases e
    · cases e
  · cases e
theorem frz_back (rm : RepM K mg μ M H) (e3 : oldOk M.length M M2 = true) (l : Le μ H μ' H') (rm' : RepM K mg μ' M2 H') : ∃ ν, μ' = μ ++ ν ∧ Le μ H μ H' ∧ RepM K mg μ (M2.take M.length) H' := by
  obtain ⟨ν, rfl, nu⟩ := l.ext
  obtain ⟨h1, h2⟩ := oldOk_at e3
  have ml : M.length = μ.length := rm.len.symm
  refine ⟨ν, rfl, ⟨⟨[], by simp, fun _ z => by cases z⟩, l.keep, l.live, l.frz⟩, by rw [List.length_take, rm.len]; omega, rm.nd, fun i a o hi ho => ?_⟩
  have il : i < M.length := by
    rw [ml]
    exact (List.getElem?_eq_some_iff.mp hi).1
  rw [List.getElem?_take_of_lt il] at ho
  have q := rm'.obj i a o (by rw [List.getElem?_append_left (by rw [← ml]; exact il)]; exact hi) ho
  refine q.cutO ?_
  rcases h2 i o il ho with z | z
  · exact (rm.obj i a o hi z).lowO
  · rw [ml] at z; exact z
/-- a value let go behind it is given to a name -/
theorem asg_frz_w {T : Tab} {W : XW} {c : CE} {i : Nat} {env : Env} {E : Ends} {σ : L2.St} (rm : RepM K mg μ M H) (rs : RepS K mg μ H env σ) (h : Wants K mg W (RepFl K mg) (evS T (.asg (.nm i) (.frz c)) env M) μ H (endQ E)) : Wants K mg W (RepFl K mg) (evS T (.asg (.nm i) c) env M) μ H (endQ E) := by
  obtain ⟨r, M1, e, k⟩ := h
  have e : bnd (frzR (evE T c env)) (fun d => bnd (evG T (.nm i) d env) fun env2 => ret (Fl.nx env2)) M = some (r, M1) := by
    rw [evS] at e
    have e0 : evE T (.frz c) env = frzR (evE T c env) := by rw [evE]
    rw [e0] at e
    exact e
  rcases bnd_some e with ⟨x, hx, _⟩ | ⟨d', M3, h1, h2⟩
  · exact absurd hx frz_noerr
  · obtain ⟨d, M2, e1, e2, e3, eM⟩ := frz_split h1
    have h2 : some (Except.ok (Fl.nx (env.set i (some d'))), M3) = some (r, M1) := by
      have : bnd (evG T (.nm i) d' env) (fun env2 => ret (Fl.nx env2)) M3 = some (r, M1) := h2
      rw [evG] at this
      exact this
    cases h2
    refine ⟨.ok (.nx (env.set i (some d))), M2, ?_, fun μ' H' l rm' b hb => ?_⟩
    · rw [evS]; unfold bnd; rw [e1]; dsimp only; rw [evG]
    · obtain ⟨ν, rfl, l', rm2⟩ := frz_back rm e3 l rm'
      rw [← eM] at rm2
      match b, hb with
      | .nx σ', hb =>
        have hb : RepS K mg (μ ++ ν) H' (env.set i (some d)) σ' := hb
        refine k μ H' l' rm2 (.nx σ') ⟨by rw [List.length_set]; have := hb.1; rwa [List.length_set] at this, fun j x hj => ?_⟩
        by_cases hij : i = j
        · subst hij
          have hl : i < env.length := by
            have := (List.getElem?_eq_some_iff.mp hj).1
            simpa using this
          rw [List.getElem?_set_self hl] at hj
          cases hj
          obtain ⟨v, hv, rv⟩ := hb.2 i d (List.getElem?_set_self hl)
          refine ⟨v, hv, frD_rep rm' 20 _ _ _ ?_ rv⟩
          rw [← rm.len] at e2
          exact e2
        · rw [List.getElem?_set_ne hij] at hj
          obtain ⟨v, hv, rv⟩ := hb.2 j x (by rw [List.getElem?_set_ne hij]; exact hj)
          obtain ⟨v0, _, r0⟩ := rs.2 j x hj
          exact ⟨v, hv, RepV.cutD _ _ rv (RepV.lowD _ _ r0)⟩
end
theorem s_frz {X : Cx} {W : XW} {T : Tab} {s : Stmt} {i : Nat} {c : CE} (h : DS X W T s (.asg (.nm i) c)) : DS X W T s (.asg (.nm i) (.frz c)) :=
  ps_imp h fun E σ H ⟨μ, M, env, rm, rs, w⟩ => ⟨μ, M, env, rm, rs, asg_frz_w rm rs w⟩
end DL
end
section
set_option Elab.async false
set_option linter.all false
set_option maxRecDepth 100000
set_option maxHeartbeats 2000000
/-! DL, part gc: comprehensions with two fors. -/
namespace DL
open PySem PySem.Spec PyProof.Rows L2
def turn2 (T : Tab) (g : CG) (t : CT) (it1 : CI) (g1 : CG) (t1 : CT) (e : CE) (own own1 : List Nat) (n : Nat) (env : Env) (d : D) : R Unit :=
  bnd (evG T g d (wipeE env own)) fun env2 => bnd (evT T t env2) fun k => if k = true then bnd (evI T it1 env2) fun p1 => compL p1.2 n (turnC T g1 t1 e own1 env2) p1.1 else ret ()
theorem ev_comp2 {T : Tab} {it it1 : CI} {g g1 : CG} {t t1 : CT} {e : CE} {own own1 : List Nat} {env : Env} : evE T (.comp2 it g t it1 g1 t1 e own own1) env = bnd (evI T it env) fun p => bnd (new (.lst [])) fun r => match r with
      | .ref n => bnd (loopU p.2 (turn2 T g t it1 g1 t1 e own own1 n env) p.1) fun _ => ret (.ref n)
      | _ => fail := by rw [evE]; rfl
section
variable {X : Cx} {W : XW} {T : Tab} {pos p : Pos}
theorem lc2_w {it it1 : CI} {g g1 : CG} {t t1 : CT} {e : CE} {ns ns1 : List Nat} {own : List (Str × Nat)} {own1 : List Nat} {σ : L2.St} {H : Hp} {Q : VK} {μ : List Addr} {M : Mem} {env : Env} (hsub : ∀ i ∈ ns, i ∈ own.map (·.2)) (hsub1 : ∀ i ∈ ns1, i ∈ own1) (rm : RepM X.K X.mg μ M H) (rs : RepS X.K X.mg μ H env σ)
    (h : Wants X.K X.mg W (RepV X.K X.mg) (evE T (.comp2 it g t it1 g1 t1 e (own.map (·.2)) own1) env M) μ H Q) :
    tLc2 (tID X.K X.mg W (evI T it)) (tGD X.K X.mg W ns (evG T g)) (tTD X.K X.mg W (evT T t)) (tID X.K X.mg W (evI T it1)) (tGD X.K X.mg W ns1 (evG T g1)) (tTD X.K X.mg W (evT T t1)) (tD X.K X.mg W (evE T e)) (own.map (·.2)) own1 σ H Q := by
  rw [ev_comp2] at h
  refine ⟨μ, M, env, rm, rs, Wants.bndK h fun q J μ1 M1 H1 l1 rm1 hw w => ?_⟩
  obtain ⟨ds, gd⟩ := q
  have hw : WalkOk X.K X.mg J gd ds μ1 H1 := hw
  intro L hL
  have w : Wants X.K X.mg W (RepV X.K X.mg) (bnd (loopU gd (turn2 T g t it1 g1 t1 e (own.map (·.2)) own1 M1.length env) ds) (fun _ => ret (D.ref M1.length)) (M1 ++ [.lst []])) μ1 H1 Q := w
  have l2 := Le.new (μ := μ1) (o := .lst []) hL
  have rm2 := rm1.new (o := .lst []) (q := .lst []) hL ⟨[], upd_same, .nil⟩
  have hx : (μ1 ++ [L])[M1.length]? = some L := by
    rw [← rm1.len, List.getElem?_append_right (Nat.le_refl _)]
    simp
  generalize hn : M1.length = n at w hx
  generalize hM2 : M1 ++ [O.lst []] = M2 at w rm2
  generalize hμ2 : μ1 ++ [L] = μ2 at l2 rm2 hx
  have rs2 : RepS X.K X.mg μ2 (upd H1 L (.lst [])) env σ := (rs.up l1 rm).up l2 rm1
  generalize hTN : turn2 T g t it1 g1 t1 e (own.map (·.2)) own1 n env = TN at w
  refine ⟨fun i m H => ∃ μ M, RepM X.K X.mg μ M H ∧ Le μ2 (upd H1 L (.lst [])) μ H ∧ i + m = ds.length ∧ Wants X.K X.mg W (RepV X.K X.mg) (bnd (loopU gd TN (ds.drop i)) (fun _ => ret (D.ref n)) M) μ H Q,
    ⟨ds.length, μ2, M2, rm2, Le.refl _ _, Nat.zero_add _, moved w l2⟩, ?_⟩
  rintro i m H3 ⟨μ3, M3, rm3, l3, hm, w⟩
  match m, hm with
  | 0, hm =>
    rw [List.drop_eq_nil_of_le (by omega)] at w
    have w : Wants X.K X.mg W (RepV X.K X.mg) (bnd (chk gd) (fun _ => ret (D.ref n)) M3) μ3 H3 Q := w
    obtain ⟨hck, w⟩ := chk_w w
    exact .inl ⟨(hw μ3 M3 H3 (l2.trans l3) rm3 hck).1 i (by omega), Wants.ret (a := D.ref n) w rm3 (.ref (l3.at hx))⟩
  | m + 1, hm =>
    obtain ⟨d, hd, ee⟩ := drop_at hm
    rw [ee] at w
    have w : Wants X.K X.mg W (RepV X.K X.mg) (bnd (bnd (chk gd) fun _ => bnd (TN d) fun _ => loopU gd TN (ds.drop (i + 1))) (fun _ => ret (D.ref n)) M3) μ3 H3 Q := w
    rw [bnd_assoc] at w
    obtain ⟨hck, w⟩ := chk_w w
    obtain ⟨hgo, hy⟩ := (hw μ3 M3 H3 (l2.trans l3) rm3 hck).2 i d hd
    refine .inr ⟨hgo, fun H => ∃ μ M, RepM X.K X.mg μ M H ∧ Le μ2 (upd H1 L (.lst [])) μ H ∧ Wants X.K X.mg W (RepV X.K X.mg) (bnd (loopU gd TN (ds.drop (i + 1))) (fun _ => ret (D.ref n)) M) μ H Q,
      fun H' ⟨μ, M, rm, l, w⟩ => ⟨m, Nat.lt_succ_self _, μ, M, rm, l, by omega, w⟩, fun x H' y => ?_⟩
    obtain ⟨l4, rm4, rv4⟩ := hy x H' y
    have w := moved w l4
    generalize hF : (fun _ => bnd (loopU gd TN (ds.drop (i + 1))) fun _ => ret (D.ref n) : Unit → R D) = F
    have w : Wants X.K X.mg W (RepV X.K X.mg) (bnd (TN d) F M3) μ3 H' Q := by
      rw [← hF]
      rw [bnd_assoc] at w
      exact w
    rw [← hTN] at w
    have w : Wants X.K X.mg W (RepV X.K X.mg) (bnd (bnd (evG T g d (wipeE env (own.map (·.2)))) fun env2 => bnd (evT T t env2) fun k => if k = true then bnd (evI T it1 env2) fun p1 => compL p1.2 n (turnC T g1 t1 e own1 env2) p1.1 else ret ()) F M3) μ3 H' Q := w
    rw [bnd_assoc] at w
    refine ⟨μ3, M3, d, wipeE env (own.map (·.2)), rm4, ((rs2.up l3 rm2).up l4 rm3).wipe _, rv4, Wants.bndK w fun env2 σ2 μ5 M5 H5 l5 rm5 r5 w => ⟨relG_wipe r5 hsub, ?_⟩⟩
    rw [bnd_assoc] at w
    refine tT_bnd rm5 r5.1 w (f := fun k env2 => bnd (if k = true then bnd (evI T it1 env2) fun p1 => compL p1.2 n (turnC T g1 t1 e own1 env2) p1.1 else ret ()) F) fun k H6 μ6 M6 l6 rm6 rs6 w => ?_
    have lz : Le μ2 (upd H1 L (.lst [])) μ6 H6 := ((l3.trans l4).trans l5).trans l6
    cases k with
    | false =>
      have w : Wants X.K X.mg W (RepV X.K X.mg) (bnd (ret ()) F M6) μ6 H6 Q := w
      have w : Wants X.K X.mg W (RepV X.K X.mg) (F () M6) μ6 H6 Q := w
      rw [← hF] at w
      exact ⟨μ6, M6, rm6, lz, w⟩
    | true =>
      have w : Wants X.K X.mg W (RepV X.K X.mg) (bnd (bnd (evI T it1 env2) fun p1 => compL p1.2 n (turnC T g1 t1 e own1 env2) p1.1) F M6) μ6 H6 Q := w
      rw [bnd_assoc] at w
      refine ⟨μ6, M6, env2, rm6, rs6, Wants.bndK w fun q1 J1 μ7 M7 H7 l7 rm7 hw1 w => ?_⟩
      obtain ⟨ds1, gd1⟩ := q1
      have hw1 : WalkOk X.K X.mg J1 gd1 ds1 μ7 H7 := hw1
      have w : Wants X.K X.mg W (RepV X.K X.mg) (bnd (compL gd1 n (turnC T g1 t1 e own1 env2) ds1) F M7) μ7 H7 Q := w
      have lz7 := lz.trans l7
      refine ⟨fun j k H => ∃ μ M, RepM X.K X.mg μ M H ∧ Le μ7 H7 μ H ∧ j + k = ds1.length ∧ Wants X.K X.mg W (RepV X.K X.mg) (bnd (compL gd1 n (turnC T g1 t1 e own1 env2) (ds1.drop j)) F M) μ H Q,
        ⟨ds1.length, μ7, M7, rm7, Le.refl _ _, Nat.zero_add _, w⟩, ?_⟩
      rintro j k H8 ⟨μ8, M8, rm8, l8, hk, w⟩
      match k, hk with
      | 0, hk =>
        rw [List.drop_eq_nil_of_le (by omega)] at w
        have w : Wants X.K X.mg W (RepV X.K X.mg) (bnd (chk gd1) F M8) μ8 H8 Q := w
        obtain ⟨hck, w⟩ := chk_w w
        rw [← hF] at w
        exact .inl ⟨(hw1 μ8 M8 H8 l8 rm8 hck).1 j (by omega), μ8, M8, rm8, lz7.trans l8, w⟩
      | k + 1, hk =>
        obtain ⟨d1, hd1, ee1⟩ := drop_at hk
        rw [ee1] at w
        have w : Wants X.K X.mg W (RepV X.K X.mg) (bnd (bnd (chk gd1) fun _ => bnd (turnC T g1 t1 e own1 env2 d1) fun o => match o with
          | none => compL gd1 n (turnC T g1 t1 e own1 env2) (ds1.drop (j + 1))
          | some y => bnd (push n y) fun _ => compL gd1 n (turnC T g1 t1 e own1 env2) (ds1.drop (j + 1))) F M8) μ8 H8 Q := w
        rw [bnd_assoc] at w
        obtain ⟨hck, w⟩ := chk_w w
        obtain ⟨hgo1, hy1⟩ := (hw1 μ8 M8 H8 l8 rm8 hck).2 j d1 hd1
        refine .inr ⟨hgo1, fun H => ∃ μ M, RepM X.K X.mg μ M H ∧ Le μ7 H7 μ H ∧ Wants X.K X.mg W (RepV X.K X.mg) (bnd (compL gd1 n (turnC T g1 t1 e own1 env2) (ds1.drop (j + 1))) F M) μ H Q,
          fun H' ⟨μ, M, rm, l, w⟩ => ⟨k, Nat.lt_succ_self _, μ, M, rm, l, by omega, w⟩, fun x1 H9 y1 => ?_⟩
        obtain ⟨l9, rm9, rv9⟩ := hy1 x1 H9 y1
        rw [bnd_assoc, turn_bnd] at w
        have w := moved w l9
        refine ⟨μ8, M8, d1, wipeE env2 own1, rm9, (((rs6.up l7 rm6).up l8 rm7).up l9 rm8).wipe _, rv9, Wants.bndK w fun env3 σ3 μa Ma Ha la rma ra w => ⟨relG_wipe ra hsub1, ?_⟩⟩
        refine tT_bnd rma ra.1 w (f := fun k env3 => bnd (if k = true then bnd (evE T e env3) fun y => ret (some y) else ret none) fun o => bnd (match o with
          | none => compL gd1 n (turnC T g1 t1 e own1 env2) (ds1.drop (j + 1))
          | some y => bnd (push n y) fun _ => compL gd1 n (turnC T g1 t1 e own1 env2) (ds1.drop (j + 1))) F) fun k Hb μb Mb lb rmb rsb w => ?_
        have lq : Le μ7 H7 μb Hb := ((l8.trans l9).trans la).trans lb
        cases k with
        | false => exact ⟨μb, Mb, rmb, lq, w⟩
        | true =>
          have w : Wants X.K X.mg W (RepV X.K X.mg) (bnd (bnd (evE T e env3) fun y => ret (some y)) (fun o => bnd (match o with
            | none => compL gd1 n (turnC T g1 t1 e own1 env2) (ds1.drop (j + 1))
            | some y => bnd (push n y) fun _ => compL gd1 n (turnC T g1 t1 e own1 env2) (ds1.drop (j + 1))) F) Mb) μb Hb Q := w
          rw [bnd_assoc] at w
          refine tD_bnd rmb rsb w (f := fun y _ => bnd (ret (some y)) (fun o => bnd (match o with
            | none => compL gd1 n (turnC T g1 t1 e own1 env2) (ds1.drop (j + 1))
            | some y => bnd (push n y) fun _ => compL gd1 n (turnC T g1 t1 e own1 env2) (ds1.drop (j + 1))) F)) fun v Hc μc Mc dv lc rmc rsc rvc w => ?_
          have w : Wants X.K X.mg W (RepV X.K X.mg) (bnd (bnd (push n dv) fun _ => compL gd1 n (turnC T g1 t1 e own1 env2) (ds1.drop (j + 1))) F Mc) μc Hc Q := w
          rw [bnd_assoc] at w
          obtain ⟨acc, hM, hl, w⟩ := push_w w
          have hnc := (lz7.trans (lq.trans lc)).at hx
          obtain ⟨vs, h1, r1⟩ := rmc.obj n L _ hnc hM
          have hmem := wr_of hnc h1
          exact ⟨vs, h1, by rw [← r1.length]; exact hl, μc, Mc.set n (.lst (acc ++ [dv])), rmc.write hmem hnc ⟨_, upd_same, (r1.up (Le.write hmem) rmc).append (.cons (rvc.up (Le.write hmem) rmc) .nil)⟩, (lq.trans lc).trans (Le.write hmem), moved w (Le.write hmem)⟩
theorem e_comp2 {elt tg iter tg1 iter1 : Expr} {ifs ifs1 : List Expr} {scope : Scope} {k : Nat} (own : List (Str × Nat)) (own1 : List Nat) {it it1 : CI} {g g1 : CG} {t t1 : CT} {ce : CE} {ns ns1 : List Nat} (C : Cok X k) (hi : DI X W T tg iter it) (ok : BlkOk X.N X.env.scope scope own)
    (hg : ∀ (s : Shared) (H : Hp) (C : Addr) (cl : List (Str × Addr)) (fp : List Addr), DG (X.blk s H scope (compEnvC scope cl C X.env) fp) W T ns tg g) (ht : ∀ (s : Shared) (H : Hp) (C : Addr) (cl : List (Str × Addr)) (fp : List Addr), DTs (X.blk s H scope (compEnvC scope cl C X.env) fp) W T ifs t)
    (hi1 : ∀ (s : Shared) (H : Hp) (C : Addr) (cl : List (Str × Addr)) (fp : List Addr), DI (X.blk s H scope (compEnvC scope cl C X.env) fp) W T tg1 iter1 it1)
    (hg1 : ∀ (s : Shared) (H : Hp) (C : Addr) (cl : List (Str × Addr)) (fp : List Addr), DG (X.blk s H scope (compEnvC scope cl C X.env) fp) W T ns1 tg1 g1) (ht1 : ∀ (s : Shared) (H : Hp) (C : Addr) (cl : List (Str × Addr)) (fp : List Addr), DTs (X.blk s H scope (compEnvC scope cl C X.env) fp) W T ifs1 t1)
    (he : ∀ (s : Shared) (H : Hp) (C : Addr) (cl : List (Str × Addr)) (fp : List Addr), DE (X.blk s H scope (compEnvC scope cl C X.env) fp) W T elt ce) (hsub : ∀ i ∈ ns, i ∈ own.map (·.2) := by decide) (hsub1 : ∀ i ∈ ns1, i ∈ own1 := by decide) (hv : ∀ i ∈ own1, i ∈ own.map (·.2) := by decide)
    (hs : ∀ x, foldedSetIterable iter X.env x = pure x := by intro _; rfl) (hs1 : ∀ env x, foldedSetIterable iter1 env x = pure x := by intro _ _; rfl) :
    DE X W T (.ListComp elt [⟨tg, iter, ifs, 0⟩, ⟨tg1, iter1, ifs1, 0⟩] scope pos) (.comp2 it g t it1 g1 t1 ce (own.map (·.2)) own1) :=
  pe_imp (pe_lc2 (vs1 := own1) C.calm C.nd hi ok hv hg ht hi1 hg1 ht1 he hs hs1) fun σ H Q ⟨μ, M, env, rm, rs, h⟩ => lc2_w hsub hsub1 rm rs h
theorem s_setLc2 {i : Nat} {y : Str} {py : Pos} {elt tg iter tg1 iter1 : Expr} {ifs ifs1 : List Expr} {scope : Scope} {k : Nat} (own : List (Str × Nat)) (own1 : List Nat) {spos : Pos} {it it1 : CI} {g g1 : CG} {t t1 : CT} {ce : CE} {ns ns1 : List Nat} (C : Cok X k) (hi : DI X W T tg iter it) (ok : BlkOk X.N X.env.scope scope own)
    (hg : ∀ (s : Shared) (H : Hp) (C : Addr) (cl : List (Str × Addr)) (fp : List Addr), DG (X.blk s H scope (compEnvC scope cl C X.env) fp) W T ns tg g) (ht : ∀ (s : Shared) (H : Hp) (C : Addr) (cl : List (Str × Addr)) (fp : List Addr), DTs (X.blk s H scope (compEnvC scope cl C X.env) fp) W T ifs t)
    (hi1 : ∀ (s : Shared) (H : Hp) (C : Addr) (cl : List (Str × Addr)) (fp : List Addr), DI (X.blk s H scope (compEnvC scope cl C X.env) fp) W T tg1 iter1 it1)
    (hg1 : ∀ (s : Shared) (H : Hp) (C : Addr) (cl : List (Str × Addr)) (fp : List Addr), DG (X.blk s H scope (compEnvC scope cl C X.env) fp) W T ns1 tg1 g1) (ht1 : ∀ (s : Shared) (H : Hp) (C : Addr) (cl : List (Str × Addr)) (fp : List Addr), DTs (X.blk s H scope (compEnvC scope cl C X.env) fp) W T ifs1 t1)
    (he : ∀ (s : Shared) (H : Hp) (C : Addr) (cl : List (Str × Addr)) (fp : List Addr), DE (X.blk s H scope (compEnvC scope cl C X.env) fp) W T elt ce) (hsw : swapsWith (.ListComp elt [⟨tg, iter, ifs, 0⟩, ⟨tg1, iter1, ifs1, 0⟩] scope pos) (some (.Name y py)) spos.line X.env = pure true) (hy : X.N[i]? = some y := by rfl) (hyl : X.env.scope.names.lookup y = some .local := by rfl)
    (hsub : ∀ i ∈ ns, i ∈ own.map (·.2) := by decide) (hsub1 : ∀ i ∈ ns1, i ∈ own1 := by decide) (hv : ∀ i ∈ own1, i ∈ own.map (·.2) := by decide) (hs : ∀ x, foldedSetIterable iter X.env x = pure x := by intro _; rfl) (hs1 : ∀ env x, foldedSetIterable iter1 env x = pure x := by intro _ _; rfl) :
    DS X W T (.Assign [.Name y py] (.ListComp elt [⟨tg, iter, ifs, 0⟩, ⟨tg1, iter1, ifs1, 0⟩] scope pos) spos) (.asg (.nm i) (.comp2 it g t it1 g1 t1 ce (own.map (·.2)) own1)) :=
  ps_imp (L2.ps_setLc2 (vs1 := own1) C.calm C.nd hy hyl hsw hi ok hv hg ht hi1 hg1 ht1 he hs hs1) fun E σ H ⟨μ, M, env, rm, rs, h⟩ => by
    refine lc2_w (Q := fun x H1 => E.nx (σ.set i (some x)) H1) hsub hsub1 rm rs (Wants.bndK h fun a b μ1 M1 H1 l1 rm1 r w => ?_)
    exact nx_w (E := E) w rm1 ((rs.up l1 rm).set i r)
end
end DL
end
section
set_option Elab.async false
set_option linter.all false
set_option maxRecDepth 100000
set_option maxHeartbeats 2000000
/-! DL, part gd: tuples that are known to the object: made, counted, turned round; dicts with one entry. -/
namespace DL
open PySem PySem.Spec PyProof.Rows L2
section
variable {X : Cx} {W : XW} {T : Tab} {pos p : Pos}
theorem Le.frzN {μ : List Addr} {H : Hp} {p : Addr} {o : HO} (h : H p = none) : Le μ H μ (upd H p o) := Le.free h
/-- (e, ..): the new tuple, known to the object -/
theorem pe_ptup {es : List Expr} {t : TA} {x1 : Nat} (h : PA X es t) : PE X (.Tuple es x1 pos) (fun σ H Q => t σ H fun xs H1 => xs.length ≤ sizeLine ∧ ∀ p o, o.dict = none → H1 p = none → Q (.ref p) (upd H1 p (.frz o (.tup xs)))) := by
  refine ⟨fun pins s σ H Q I hq => ?_⟩
  refine wpAny_Tuple_spliced (thn (h.run pos pins s σ H _ I hq) fun us s1 ⟨xs, H1, I1, r, z, q⟩ => ⟨by rw [← r.length]; exact z, ?_⟩)
  have hf : H1 s1.heap.objs.size = none := I1.hok.fresh (Nat.le_refl _)
  refine ⟨.ref s1.heap.objs.size, upd H1 s1.heap.objs.size (.frz { cls := .type "tuple", data := .seq us.toArray } (.tup xs)), I1.laid (t' := s1.toks) (fun b u e => Heap.get?_push_of_some _ e) (Nat.le_refl _) ?_, rfl, q _ _ rfl hf⟩
  exact ⟨Heap.get?_push_size _ rfl, z, us, r, ⟨_, Heap.get?_push_size _ rfl, rfl, _, rfl⟩⟩
theorem e_ptD {es : List Expr} {cs : CEs} {x1 : Nat} (h : DEs X W T es cs) : DE X W T (.Tuple es x1 pos) (.ptD cs) :=
  pe_imp (pe_ptup h) fun σ H Q ⟨μ, M, env, rm, rs, h⟩ =>
    tA_bnd rm rs h (f := fun vs env => ptD vs) fun vs H1 μ1 M1 ds l1 rm1 rs1 rv w => by
      obtain ⟨hc, w⟩ := Wants.ite w
      exact ⟨by rw [← rv.length]; exact hc, fun p o hd hp => w.some (Le.free hp) (rm1.free hp) (.pt upd_same hd (rv.up (Le.free hp) rm1))⟩
/-- tuple(xs), xs a list -/
theorem call_ptuple : CallR X (.type "tuple") (fun xs H Q => ∃ p ys, xs = [.ref p] ∧ SqL X.K H p ys ∧ ∀ l o, o.dict = none → H l = none → Q (.ref l) (upd H l (.frz o (.tup ys)))) := by
  intro pins s σ H xs us Q I r h
  obtain ⟨p, ys, rfl, hq, q⟩ := h
  obtain ⟨u, rfl, rx⟩ := vals1 r
  cases rx
  obtain ⟨its, r', pl, hz⟩ := I.list hq
  have hlen := r'.length
  refine call_tuple_list pl.isList (fun h' kp => ?_) (by simp only [List.size_toArray] <;> omega)
  have I1 : Inv X pins σ H { s with heap := h' } := I.kept (t' := s.toks) kp
  have I2 : Inv X pins σ (upd H h'.objs.size (.frz { cls := .type "tuple", data := .seq its.toArray } (.tup ys))) { s with heap := h'.push { cls := .type "tuple", data := .seq its.toArray } } :=
    I1.laid (t' := s.toks) (fun b o e => Heap.get?_push_of_some _ e) (Nat.le_refl _) ⟨Heap.get?_push_size _ rfl, hz, its, r', IsTup.new _ _⟩
  exact ⟨.ref h'.objs.size, _, I2, rfl, q _ _ rfl (I1.hok.fresh (Nat.le_refl _))⟩
theorem ptC : CallR X (.type "tuple") (rC X.K X.mg W ptB) := by
  intro pins s σ H xs us Q I r ⟨μ, M, ds, rm, rv, h⟩
  unfold ptB at h
  split at h
  · obtain ⟨v, rfl, q⟩ := rv1 rv
    unfold ptCD at h
    split at h
    · rename_i es he
      obtain ⟨a, vs, rfl, hs, rr⟩ := lst_of (X := X) rm q he
      exact call_ptuple pins s σ H _ us Q I r ⟨a, vs, rfl, SqL.of hs, fun l o hd hp => h.some (Le.free hp) (rm.free hp) (.pt upd_same hd (rr.up (Le.free hp) rm))⟩
    · exact h.none.elim
  · exact h.fail.elim
theorem e_ptC {e : Expr} {es : List Expr} {as : CEs} (B : Blt X.mg) (ha : DEs X W T (e :: es) as) (hg : Gl X "tuple" := by rfl) (he : starEach (e :: es) X.env = (false, eval e X.env) :: starEach es X.env := by rfl) (hpl : (backTo pos (starEach es X.env)).any (·.1) = false := by rfl) : DE X W T (.Call (.Name "tuple" p) (e :: es) [] pos) (.ptC as) := de_callTy ptC hg B.tuple (by decide +kernel) (by decide +kernel) (by decide +kernel) ha he hpl
/-! ### t.count(x) -/
/-- a tuple that is known to the object -/
def pTup (H : Hp) (x : V) (xs : List V) : Prop := ∃ a o, x = .ref a ∧ H a = some (.frz o (.tup xs)) ∧ o.dict = none
def tCnt (to te : TE) : TE := fun σ H Q => to σ H fun x H1 => ∃ xs, pTup H1 x xs ∧ te σ H1 fun y H2 => pTup H2 x xs ∧ flatV y = true ∧ xs.all flatV = true ∧ Q (.int (xs.countP fun z => eqV z y)) H2
theorem count_eqU {x : V} : ∀ {xs : List V} {us : List Value}, Vals xs us → xs.all flatV = true → us.countP (eqU x) = xs.countP fun y => eqV y x
  | _, _, .nil, _ => rfl
  | y :: xs, u :: us, .cons r t, f => by
    rw [List.all_cons, Bool.and_eq_true] at f
    rw [List.countP_cons, List.countP_cons, eqU_of r f.1, count_eqU t f.2]
theorem pe_cnt {o e : Expr} {to te : TE} {apos cpos : Pos} (ho : PE X o to) (he : PE X e te)
    (hbase : attributeBase o "count" X.env (eval o X.env) = eval o X.env := by rfl)
    (hfew : ((backTo cpos (starEach [e] X.env)).all (fun x => !x.1) && (backToKw cpos (keywordEach [] X.env)).all (fun x => x.1.isSome)
      && decide (([e] : List Expr).length + ([] : List Keyword).length + (if ([] : List Keyword).isEmpty then 0 else 1) < 30)) = true := by rfl)
    (hline : (apos.endLine == cpos.line) = true := by rfl) (hs : starEach [e] X.env = (false, eval e X.env) :: starEach [] X.env := by rfl) (hplain : (backTo cpos (starEach [] X.env)).any (·.1) = false := by rfl) :
    PE X (.Call (.Attribute o "count" apos) [e] [] cpos) (tCnt to te) := by
  refine ⟨fun pins s σ H Q I h => ?_⟩
  refine wpAny_Call_method_late hbase hfew hline rfl (thn (ho.run pins s σ H _ I h) fun v s1 ⟨x, H1, I1, r1, xs, ⟨a, ob, ex, hx, hd⟩, q1⟩ => ?_)
  subst ex
  cases r1
  have hx1 : s1.heap.get? a = some ob := (I1.hok a _ hx).1
  obtain ⟨its, _, ⟨o2, ho2, hc2, _⟩, _⟩ := I1.tuple (.inl (.inr ⟨_, hx⟩))
  refine ⟨"tuple", "tuple.count", PySem.F.plainAttrs_tuple, PySem.F.slot_tuple_count, PySem.F.type_tuple_count, ⟨o2, ho2, hc2⟩, fun b e => by cases e; exact ⟨ob, hx1, hd⟩, ?_⟩
  have hA := (pa_cons he pa_nil hs).run cpos pins s1 σ H1 (fun vs H2 => match vs with | [y] => pTup H2 (.ref a) xs ∧ flatV y = true ∧ xs.all flatV = true ∧ Q (.int (xs.countP fun z => eqV z y)) H2 | _ => False) I1 q1
  rw [hs] at hA ⊢
  refine Calls.callWith_builtin (by show (false || (backTo cpos (starEach [] X.env)).any (·.1)) = false; rw [hplain] <;> rfl) (Calls.evalArgs_plain ?_)
  exact thn hA fun us s2 ⟨vs, H2, I2, r2, q2⟩ => by
    rcases vs with _ | ⟨y, _ | ⟨_, _⟩⟩
    · exact q2.elim
    rotate_left
    · exact q2.elim
    obtain ⟨⟨a', ob', ea, hx2, hd2⟩, fy, fx, q2⟩ := q2
    cases ea
    obtain ⟨u, rfl, ry⟩ := Vals.one r2
    obtain ⟨its2, rv2, ⟨o3, ho3, hc3, n3, hd3⟩, hz⟩ := I2.tuple (.inl (.inr ⟨_, hx2⟩))
    have e3 : o3 = ob' := Option.some.inj (ho3.symm.trans (I2.hok a _ hx2).1)
    subst e3
    obtain ⟨cls, dd, data, sl⟩ := o3
    simp only at hc3 hd3
    subst hc3 hd3
    refine call_meets F.slot_tuple_count ⟨_, ho3, rfl⟩ F.entry_tuple_count (F.args_tuple_count_2 _ _) (SeqAt.tuple_countAt a its2.toArray n3 dd sl u (eqU y)) ⟨ho3, fun w hw => mem_eqAt ry fy rv2 fx w (by simpa using hw), ⟨.int _, H2, I2.tok _, ⟨_, rfl⟩, ?_⟩⟩
    rw [show its2.toArray.toList = its2 from rfl, count_eqU rv2 fx]
    exact q2
theorem countD_v {K : PySem.W.Frag} {mg : Str → Option Value} {μ : List Addr} {H : Hp} {d : D} {v : V} (r : RepV K mg μ H d v) (f : d.flat = true) : ∀ {ds : List D} {vs : List V}, RepVs K mg μ H ds vs → ds.all D.flat = true → (ds.countP fun y => D.feq y d) = vs.countP fun z => eqV z v
  | _, _, .nil, _ => rfl
  | _, _, .cons h rr, g => by
    rw [List.all_cons, Bool.and_eq_true] at g
    rw [List.countP_cons, List.countP_cons, ← feq_v h r g.1 f, countD_v r f rr g.2]
theorem e_cnt {o a : Expr} {co ca : CE} {apos : Pos} (ho : DE X W T o co) (ha : DE X W T a ca)
    (hbase : attributeBase o "count" X.env (eval o X.env) = eval o X.env := by rfl)
    (hfew : ((backTo pos (starEach [a] X.env)).all (fun x => !x.1) && (backToKw pos (keywordEach [] X.env)).all (fun x => x.1.isSome)
      && decide (([a] : List Expr).length + ([] : List Keyword).length + (if ([] : List Keyword).isEmpty then 0 else 1) < 30)) = true := by rfl)
    (hline : (apos.endLine == pos.line) = true := by rfl) (hs : starEach [a] X.env = (false, eval a X.env) :: starEach [] X.env := by rfl) (hplain : (backTo pos (starEach [] X.env)).any (·.1) = false := by rfl) :
    DE X W T (.Call (.Attribute o "count" apos) [a] [] pos) (.cnt co ca) :=
  pe_imp (pe_cnt ho ha hbase hfew hline hs hplain) fun σ H Q ⟨μ, M, env, rm, rs, h⟩ => by
    have h : Wants X.K X.mg W (RepV X.K X.mg) (bnd (evE T co env) (fun x => bnd (isPt x) fun _ => bnd (evE T ca env) fun y => countD x y) M) μ H Q := h
    exact tD_bnd rm rs h (f := fun x env => bnd (isPt x) fun _ => bnd (evE T ca env) fun y => countD x y) fun v H1 μ1 M1 d l1 rm1 rs1 rv w => by
      cases d with
      | pt ds =>
        cases rv with | @pt a' ob vs _ h1 hd rr => ?_
        have w : Wants X.K X.mg W (RepV X.K X.mg) (bnd (evE T ca env) (fun y => countD (.pt ds) y) M1) μ1 H1 Q := w
        refine ⟨vs, ⟨a', ob, rfl, h1, hd⟩, tD_bnd rm1 rs1 w (f := fun y env => countD (.pt ds) y) fun v2 H2 μ2 M2 d2 l2 rm2 rs2 rv2 w2 => ?_⟩
        obtain ⟨hf, w2⟩ := w2.ite
        rw [Bool.and_eq_true] at hf
        have rr2 := rr.up l2 rm1
        refine ⟨⟨a', ob, rfl, l2.frz _ _ _ h1, hd⟩, flat_v rv2 hf.1, flat_vs rr2 hf.2, ?_⟩
        rw [← countD_v rv2 hf.1 rr2 hf.2]
        exact w2.ret rm2 (.int _)
      | _ => exact (show False from Wants.fail (M := M1) w).elim
/-! ### x[::-1] -/
theorem adjust_rev (n : Nat) : Builtin.Slice.sliceAdjust none none (-1) (n : Int) = ((n : Int) - 1, -1) := by
  unfold Builtin.Slice.sliceAdjust
  rfl
theorem places_rev (n : Nat) : Builtin.Slice.slicePlaces ((n : Int) - 1) (-1) (-1) = n := by
  unfold Builtin.Slice.slicePlaces
  have h1 : ¬ ((-1 : Int) > 0) := by omega
  rw [if_neg h1]
  by_cases h : (n : Int) - 1 > -1
  · rw [if_pos h]
    have : ((n : Int) - 1 - -1 - 1) / (- -1) + 1 = n := by
      rw [show (- -1 : Int) = 1 from rfl, Int.ediv_one]; omega
    rw [this]; rfl
  · rw [if_neg h]
    have : n = 0 := by omega
    rw [this]; rfl
theorem RepVs.reverse {K : PySem.W.Frag} {mg : Str → Option Value} {μ : List Addr} {H : Hp} : ∀ {ds : List D} {vs : List V}, RepVs K mg μ H ds vs → RepVs K mg μ H ds.reverse vs.reverse
  | _, _, .nil => .nil
  | _, _, .cons h r => by
    rw [List.reverse_cons, List.reverse_cons]
    exact r.reverse.append (.cons h .nil)
theorem fm_congr {α β : Type} {f g : α → Option β} : ∀ (l : List α), (∀ a ∈ l, f a = g a) → l.filterMap f = l.filterMap g
  | [], _ => rfl
  | a :: l, h => by rw [List.filterMap_cons, List.filterMap_cons, h a (List.mem_cons_self ..), fm_congr l fun b hb => h b (List.mem_cons_of_mem _ hb)]
theorem pick_rev (xs : Array Value) : ((List.range xs.size).filterMap fun (m : Nat) => xs[(((xs.size : Int) - 1) + (m : Int) * (-1)).toNat]?).toArray = xs.toList.reverse.toArray := by
  congr 1
  have key := PySem.W.krv_all xs.reverse
  rw [Array.size_reverse, Array.toList_reverse] at key
  rw [← key]
  refine fm_congr _ fun m hm => ?_
  have hm : m < xs.size := List.mem_range.mp hm
  have e1 : (((xs.size : Int) - 1) + (m : Int) * (-1)).toNat = xs.size - 1 - m := by omega
  show xs[_]? = xs.reverse[m]?
  rw [e1, Array.getElem?_reverse hm]
section
variable {prog : Program} {w : World} {A : Around} {E : Value → Shared → Prop} {s : Shared}
theorem getItem_tuple_rev {t sl : Addr} {items : Array Value} {vl vu vs : Value} {Q : Value → Shared → Prop} (ht : IsTup s.heap t items) (hs : s.heap.IsSliceOf sl vl vu vs) (pl : IsPart vl none) (pu : IsPart vu none) (ps : IsPart vs (some (-1)))
    (h : Q (.ref s.heap.objs.size) { s with heap := s.heap.push { cls := .type "tuple", data := .seq items.toList.reverse.toArray } })
    (hsz : items.size ≤ sizeLine) : wpAny (model prog w) A (getItem (.ref t) (.ref sl)) Q E s := by
  have htake : sizeOk (.seq items.toList.reverse.toArray) := by
    show items.toList.reverse.toArray.size ≤ sizeLine
    rw [List.size_toArray, List.length_reverse, Array.length_toList]
    exact hsz
  obtain ⟨os, hos, hcs, hds⟩ := id hs
  have hTs : s.TypeIs (.ref sl) "slice" := ⟨os, hos, hcs⟩
  unfold getItem
  try with_reducible refine wpAny_holding ?_
  first | refine wpAny_bind (wpAny_pure ?_) | skip
  refine wpAny_bind (wpAny_sequenceKey ht.typeIs (by decide) ?_)
  refine wpAny_bind (wpAny_callSpecial?_slot (name := Str.ofString "__getitem__") ht.typeIs PyProof.Rows.slot_tuple_getitem
    (wpAny_call_entry PyProof.Rows.slot_tuple_getitem ht.typeIs entry_tuple_getitem ?_ (args_tuple_getitem _ _)))
  show wpAny _ _ (Builtin.Tuple.tupleItemsOf (.ref t) >>= _) _ _ s
  refine wpAny_bind (tupleItemsOf_ ht ?_)
  refine wpAny_bind (wpAny_typeOf hTs ?_)
  rw [if_pos (by decide)]
  have app : ∀ (A : Around) (E : Value → Shared → Prop), wpAny (model prog w) A (Builtin.Slice.sliceApplied (.ref sl) (pure (items.size : Int))) (fun r s' => r = ((items.size : Int) - 1, (-1 : Int), items.size) ∧ s = s') E s := by
    intro A E
    unfold Builtin.Slice.sliceApplied Builtin.Slice.sliceFields
    refine wpAny_bind (wpAny_bind (wpAny_field hos hds (x := vl) rfl (wpAny_bind (wpAny_field hos hds (x := vu) rfl (wpAny_bind (wpAny_field hos hds (x := vs) rfl (wpAny_pure ?_)))))))
    refine wpAny_bind (HT.slicePart_ ps ?_)
    show wpAny _ _ (if ((-1 : Int) == 0) = true then _ else _) _ _ s
    rw [if_neg (by decide)]
    refine wpAny_bind (HT.slicePart_ pl (wpAny_bind (HT.slicePart_ pu (wpAny_bind (wpAny_pure ?_)))))
    show wpAny _ _ (match Builtin.Slice.sliceAdjust none none (-1) (items.size : Int) with | (lo, hi) => pure (lo, (-1 : Int), Builtin.Slice.slicePlaces lo hi (-1))) _ _ s
    rw [adjust_rev]
    show wpAny _ _ (pure ((items.size : Int) - 1, (-1 : Int), Builtin.Slice.slicePlaces ((items.size : Int) - 1) (-1) (-1))) _ _ s
    rw [places_rev]
    exact wpAny_pure ⟨rfl, rfl⟩
  refine wpAny_bind (wpAny_mono (app _ _) ?_ fun _ _ e => e)
  rintro _ _ ⟨rfl, rfl⟩
  have hno : ¬ ((((items.size : Int) - 1) == 0 && (-1 : Int) == 1 && items.size == items.size) = true) := by
    intro q
    rw [Bool.and_eq_true, Bool.and_eq_true] at q
    exact absurd q.1.2 (by decide)
  show wpAny _ _ (if (((items.size : Int) - 1) == 0 && (-1 : Int) == 1 && items.size == items.size) = true then _ else _) _ _ s
  rw [if_neg hno, pick_rev]
  first
    | exact wpAny_bind (m := Builtin.Tuple.tupleExact _) (wpAny_newObj_type (wpAny_pure ⟨_, rfl, wpAny_pure h⟩) htake)
    | exact wpAny_bind (m := Builtin.Tuple.tupleExact _) (wpAny_newObj_type (wpAny_bind (wpAny_pure (wpAny_pure ⟨_, rfl, wpAny_pure h⟩))) htake)
    | exact wpAny_bind (wpAny_bind (m := Builtin.Tuple.tupleExact _) (wpAny_newObj_type (wpAny_pure (wpAny_pure ⟨_, rfl, wpAny_pure h⟩)) htake))
    | exact wpAny_bind (wpAny_bind (m := Builtin.Tuple.tupleExact _) (wpAny_newObj_type (wpAny_pure ⟨_, rfl, wpAny_pure h⟩) htake))
end
/-- x[::-1], x a list or a tuple that is known to the object -/
def tRevA (K : PySem.W.Frag) (te : TE) : TE := fun σ H Q => te σ H fun x H1 => ∃ a xs, x = .ref a ∧ ((SqL K H1 a xs ∧ ∀ p, H1 p = none → Q (.ref p) (upd H1 p (.lst xs.reverse))) ∨ (SqT K H1 a xs ∧ ∀ p o, o.dict = none → H1 p = none → Q (.ref p) (upd H1 p (.frz o (.tup xs.reverse)))))
theorem pe_revA {e : Expr} {te : TE} {k : Nat} {p1 p2 p3 pos : Pos} (he : PE X e te) : PE X (.Subscript e (.Slice none none (some (.UnaryOp .USub (.Constant (.int 1) k p1) p2)) p3) pos) (tRevA X.K te) := by
  refine ⟨fun pins s σ H Q I h => ?_⟩
  refine Subscript_ (thn (he.run pins s σ H _ I h) fun v s1 ⟨x, H1, I1, r1, q1⟩ => ?_)
  obtain ⟨a, xs, ex, q⟩ := q1
  subst ex
  cases r1
  have hst : PO X (some (.UnaryOp .USub (.Constant (.int 1) k p1) p2)) (tPart (tUn (rU fun i => .int (-i)) (tC (.int 1)))) := po_some (pe_un un_neg pe_int)
  refine wpAny_Slice (thn (po_none.run pins s1 σ H1 (fun o H2 => o = none ∧ H2 = H1) I1 ⟨rfl, rfl⟩) fun vl s2 ⟨l, H2, I2, pl, el, e2⟩ => ?_)
  subst el e2
  refine thn (po_none.run pins s2 σ H2 (fun o H3 => o = none ∧ H3 = H2) I2 ⟨rfl, rfl⟩) fun vu s3 ⟨u, H3, I3, pu, eu, e3⟩ => ?_
  subst eu e3
  refine thn (hst.run pins s3 σ H3 (fun o H4 => o = some (-1) ∧ H4 = H3) I3 ⟨1, rfl, -1, rfl, rfl, rfl⟩) fun vs s4 ⟨o, H4, I4, ps, eo, e4⟩ => ?_
  subst eo e4
  have I5 : Inv X pins σ H4 { s4 with heap := s4.heap.push { cls := .type "slice", data := .fields #[vl, vu, vs] } } := I4.kept (t' := s4.toks) fun b ob q => Heap.get?_push_of_some _ q
  show wpAny (model X.prog X.w) X.A (subscriptTail e (.Slice none none (some (.UnaryOp .USub (.Constant (.int 1) k p1) p2)) p3) (.ref a) (.ref s4.heap.objs.size)) (EP X pins σ Q) X.xe { s4 with heap := s4.heap.push { cls := .type "slice", data := .fields #[vl, vu, vs] } }
  rcases q with ⟨hx, q⟩ | ⟨hx, q⟩
  · obtain ⟨its, r, ht, hz⟩ := I5.list hx
    have hlen := r.length
    refine tail_any (ops := [.ref a, .ref s4.heap.objs.size]) ht.isList.typeIs (PySem.slot_list_getitem.lookup) ?_ (by with_unfolding_all rfl)
    refine wpAny_getItem_list_slice ht.isList (Heap.IsSliceOf.new _ vl vu vs) pl pu ps (by decide) ?_ (by rw [List.size_toArray]; omega)
    rw [PySem.W.krv_pick]
    refine ⟨.ref _, _, I5.laid (t' := s4.toks) (o := .lst xs.reverse) (fun b ob q => Heap.get?_push_of_some _ q) (Nat.le_refl _) ?_, rfl, q _ (I5.hok.fresh (Nat.le_refl _))⟩
    exact ⟨by rw [List.length_reverse]; exact hz, _, 0, r.reverse, Heap.get?_push_size _ rfl⟩
  · obtain ⟨its, r, ht, hz⟩ := I5.tuple hx
    have hlen := r.length
    refine tail_any (ops := [.ref a, .ref s4.heap.objs.size]) ht.typeIs PyProof.Rows.slot_tuple_getitem.lookup ?_ (by with_unfolding_all rfl)
    refine getItem_tuple_rev ht (Heap.IsSliceOf.new _ vl vu vs) pl pu ps ?_ (by rw [List.size_toArray]; omega)
    refine ⟨.ref _, _, I5.laid (t' := s4.toks) (o := .frz { cls := .type "tuple", data := .seq its.toArray.toList.reverse.toArray } (.tup xs.reverse)) (fun b ob q => Heap.get?_push_of_some _ q) (Nat.le_refl _) ?_, rfl, q _ _ rfl (I5.hok.fresh (Nat.le_refl _))⟩
    exact ⟨Heap.get?_push_size _ rfl, by rw [List.length_reverse]; exact hz, its.reverse, r.reverse, ⟨_, Heap.get?_push_size _ rfl, rfl, _, rfl⟩⟩
theorem e_revS {a : Expr} {ca : CE} {k : Nat} {p1 p2 p3 : Pos} (ha : DE X W T a ca) : DE X W T (.Subscript a (.Slice none none (some (.UnaryOp .USub (.Constant (.int 1) k p1) p2)) p3) pos) (.revS ca) :=
  pe_imp (pe_revA ha) fun σ H Q ⟨μ, M, env, rm, rs, h⟩ =>
    tD_bnd rm rs h (f := fun x env => revD x) fun v H1 μ1 M1 d l1 rm1 rs1 rv w => by
      unfold revD at w
      split at w
      · cases rv with | @pt a' ob vs _ h1 hd rr => ?_
        refine ⟨a', vs, rfl, .inr ⟨.inl (.inr ⟨_, h1⟩), fun p o hd hp => w.some (Le.free hp) (rm1.free hp) (.pt upd_same hd ((rr.up (Le.free hp) rm1).reverse))⟩⟩
      · split at w
        · rename_i ds hds
          obtain ⟨a', vs, rfl, hs, rr⟩ := lst_of (X := X) rm1 rv hds
          exact ⟨a', vs, rfl, .inl ⟨SqL.of hs, fun p hp => w.made rm1 hp ⟨_, upd_same, (rr.up (Le.new hp) rm1).reverse⟩⟩⟩
        · exact w.none.elim
/-! ### {k: v}, k a tuple -/
def tD1 (tk tv : TE) : TE := fun σ H Q => ∀ p, H p = none → tk σ (upd H p (.dT [])) fun x H1 => tv σ H1 fun y H2 => ∃ kvs k b, H2 p = some (.dT kvs) ∧ kvs.length < sizeLine ∧ x = .ref b ∧ H2 b = some (.tup (k.map kV)) ∧ Q (.ref p) (upd H2 p (.dT (putK kvs k y)))
theorem pe_dict1 {k v : Expr} {tk tv : TE} (hu : X.A.units + 1 < cLine) (hk : PE X k tk) (hv : PE X v tv) : PE X (.Dict [some k] [v] pos) (tD1 tk tv) := by
  refine ⟨fun pins s σ H Q I q => ?_⟩
  have hn := I.hok.fresh (Nat.le_refl s.heap.objs.size)
  have I1 := I.laid (a := s.heap.objs.size) (o := .dT []) (h' := s.heap.push { cls := .type "dict", data := .dict #[] }) (t' := s.toks) (fun _ _ q => Heap.get?_push_of_some _ q) (Nat.le_refl _) (dt_empty s.heap I.big)
  refine wpAny_Dict_any rfl rfl (by simp) (by simp) ?_
  refine pairTrees_cons_walk (thn (hk.run pins _ σ _ _ I1 (q _ hn)) fun u s1 ⟨x, H1, I2, rx, q1⟩ => thn (hv.run pins s1 σ H1 _ I2 q1) fun w s2 ⟨y, H2, I3, ry, kvs, kk, b, e, hl, ex, hb, q2⟩ => pairTrees_nil_walk ?_)
  subst ex
  cases rx
  obtain ⟨z, hd, xs, rel, dd⟩ := dt_of I3.hok e
  have hz : xs.length ≤ sizeLine := by rw [← Paired.length rel]; exact z
  have hl : (putK kvs kk y).length ≤ sizeLine := by have := length_putK kvs kk y; omega
  unfold storeAll
  rw [List.forIn_cons]
  refine wpAny_bind (wpAny_bind (wpAny_dictSet_heap (knd := tupleKind (mixKind X.prog X.w)) (hsz := hz) (show X.A.units < cLine by omega) (key_of I3.hok hb) dd fun h' dd' hs => wpAny_pure ?_))
  dsimp only
  rw [List.forIn_nil]
  refine wpAny_pure ⟨.ref s.heap.objs.size, _, ?_, rfl, q2⟩
  obtain ⟨o, es, ep, hq, h2, h3, h4, _, h5⟩ := dd'
  refine d_write I3 (by rw [e]; exact True.intro) hs ⟨o, hq⟩ ⟨hl, hd, _, (rel.put kk hb ry).keeps fun c ys ec => ?_, o, es, ep, hq, h2, h3, h4, h5⟩
  rw [upd_ne (ne_of ec e (fun z => nomatch z))]
  exact ec
theorem Wants.lift {α β : Type} {K : PySem.W.Frag} {mg : Str → Option Value} {rel : List Addr → Hp → α → β → Prop} {x : Option (Except D α × Mem)} {μ μ' : List Addr} {H H' : Hp} {Q : β → Hp → Prop} (h : Wants K mg W rel x μ H Q) (l : Le μ H μ' H') : Wants K mg W rel x μ' H' Q := by
  obtain ⟨r, M', e, k⟩ := h
  exact ⟨r, M', e, fun μ2 H2 l2 rm2 => k μ2 H2 (l.trans l2) rm2⟩
theorem e_done {k v : Expr} {ck cv : CE} {j : Nat} (hr : Room j X.A) (hk : DE X W T k ck) (hv : DE X W T v cv) : DE X W T (.Dict [some k] [v] pos) (.done ck cv) :=
  pe_imp (pe_dict1 (by have := hr.units; omega) hk hv) fun σ H Q ⟨μ, M, env, rm, rs, h⟩ p hp => by
    have h : Wants X.K X.mg W (RepV X.K X.mg) (bnd (evE T ck env) (fun x => bnd (evE T cv env) fun y => bnd (dsetD (.ref M.length) x y) fun _ => ret (.ref M.length)) (M ++ [.dct false []])) μ H Q := h
    have le : Le μ H (μ ++ [p]) (upd H p (.dT [])) := Le.new hp
    have rm0 : RepM X.K X.mg (μ ++ [p]) (M ++ [.dct false []]) (upd H p (.dT [])) := rm.new hp ⟨[], upd_same, rfl, .nil⟩
    refine tD_bnd rm0 (rs.up le rm) (h.lift le) (f := fun x env => bnd (evE T cv env) fun y => bnd (dsetD (D.ref M.length) x y) fun _ => ret (D.ref M.length)) fun v1 H1 μ1 M1 d1 l1 rm1 rs1 rv1 w => ?_
    refine tD_bnd rm1 rs1 w (f := fun y env => bnd (dsetD (D.ref M.length) d1 y) fun _ => ret (D.ref M.length)) fun v2 H2 μ2 M2 d2 l2 rm2 rs2 rv2 w2 => ?_
    have l12 := l1.trans l2
    have hx : (μ ++ [p])[M.length]? = some p := by
      rw [← rm.len, List.getElem?_append_right (Nat.le_refl _)]
      simp
    have hx2 : μ2[M.length]? = some p := l12.at hx
    have w2 := w2.bnd (rel1 := fun _ _ _ (_ : Unit) => True)
    have rv1 := rv1.up l2 rm1
    unfold dsetD at w2
    rcases hkk : keyOf d1 with _ | kk
    · rw [hkk] at w2; exact w2.none.elim
    · rw [hkk] at w2
      dsimp only at w2
      split at w2
      · rename_i kvs hM
        obtain ⟨hl, w2⟩ := w2.iteN
        obtain ⟨ws, h1, h2, h3⟩ := rm2.obj _ _ _ hx2 hM
        have h1 : H2 p = some (.dT ws) := h1
        obtain ⟨b, eb, hb⟩ := key_v (X := X) rv1 hkk
        have hm := wr_of hx2 h1
        have lw : ws.length = kvs.length := by
          have := congrArg List.length h2
          rwa [List.length_map, List.length_map] at this
        obtain ⟨e1, e2⟩ := setK_v (K := X.K) (mg := X.mg) (μ := μ2) (H := upd H2 p (.dT (putK ws kk v2))) kk (rv2.up (Le.write hm) rm2) h2 (h3.up (Le.write hm) rm2)
        refine ⟨ws, kk, b, h1, by rw [lw]; exact hl, eb, hb, ?_⟩
        have rmw := rm2.write hm (o := .dT (putK ws kk v2)) (q := .dct false (setK kvs kk d2)) hx2 ⟨putK ws kk v2, upd_same, e1, e2⟩
        obtain ⟨μ3, M3, _, l3, rm3, _, w3⟩ := w2.some (Le.write hm) rmw (b := ()) trivial
        exact Wants.ret (M := M3) (a := D.ref M.length) w3 rm3 (.ref (l3.at hx2))
      · exact w2.none.elim
end
end DL
end
section
set_option Elab.async false
set_option linter.all false
set_option maxRecDepth 100000
set_option maxHeartbeats 2000000
/-! DL, part ge: defs with defaults. -/
namespace DL
open PySem PySem.Spec PyProof.Rows L2
/-- a plain value and what stands for it -/
def FlatU : D → Value → Prop
  | .non, u => u = .none
  | .bl b, u => u = .bool b
  | .int i, u => ∃ t, u = .int i t
  | .str x, u => ∃ t, u = .str x t
  | _, _ => False
theorem FlatU.rep {K : PySem.W.Frag} {mg : Str → Option Value} {μ : List Addr} {H : Hp} {d : D} {u : Value} (h : FlatU d u) : ∃ v, RelV v u ∧ RepV K mg μ H d v := by
  cases d with
  | non => cases h; exact ⟨.non, rfl, .non⟩
  | bl b => cases h; exact ⟨.bl b, rfl, .bl b⟩
  | int i => obtain ⟨t, rfl⟩ := h; exact ⟨.int i, ⟨t, rfl⟩, .int i⟩
  | str x => obtain ⟨t, rfl⟩ := h; exact ⟨.str x, ⟨t, rfl⟩, .str x⟩
  | _ => exact h.elim
def mixV : List Sel → List Value → List Value → List Value
  | [], _, _ => []
  | .arg k :: r, us, ds => us[k]?.getD .none :: mixV r us ds
  | .val _ :: r, us, ds => ds.headD .none :: mixV r us ds.tail
def DflOk : List Sel → List Value → Prop
  | [], _ => True
  | .arg _ :: r, ds => DflOk r ds
  | .val d :: r, ds => (∃ u, ds.head? = some u ∧ FlatU d u) ∧ DflOk r ds.tail
theorem mix_rep {K : PySem.W.Frag} {mg : Str → Option Value} {μ : List Addr} {H : Hp} {vs : List V} {us : List Value} {ds : List D} (r : Vals vs us) (q : RepVs K mg μ H ds vs) : ∀ {sel : List Sel} {dv : List Value} {es : List D}, DflOk sel dv → selD ds sel = some es → ∃ rv, Vals rv (mixV sel us dv) ∧ RepVs K mg μ H es rv
  | [], _, _, _, h => by cases h; exact ⟨[], .nil, .nil⟩
  | .arg i :: sel, dv, es, hd, h => by
    unfold selD at h
    split at h
    · rename_i d es' h1 h2
      cases h
      obtain ⟨rv, e1, e2⟩ := mix_rep r q (sel := sel) (dv := dv) hd h2
      obtain ⟨v, hv, rvd⟩ := q.get h1
      obtain ⟨u, hu, ru⟩ := r.get hv
      refine ⟨v :: rv, ?_, .cons rvd e2⟩
      unfold mixV
      refine .cons ?_ e1
      rw [hu]
      exact ru
    · cases h
  | .val d :: sel, dv, es, hd, h => by
    unfold selD at h
    split at h
    · rename_i es' h2
      cases h
      obtain ⟨⟨u, hu, fu⟩, hd⟩ := hd
      obtain ⟨rv, e1, e2⟩ := mix_rep r q (sel := sel) (dv := dv.tail) hd h2
      obtain ⟨v, ru, rd⟩ := fu.rep (K := K) (mg := mg) (μ := μ) (H := H)
      refine ⟨v :: rv, ?_, .cons rd e2⟩
      unfold mixV
      refine .cons ?_ e1
      rw [show dv.headD .none = u by cases dv <;> simp_all]
      exact ru
    · cases h
/-- a call that leaves some parameters to their defaults dv -/
theorem BindG.dflt {K : PySem.W.Frag} {mg : Str → Option Value} {fd : FuncData} {ps : List Str} {n : Nat} {ks : List Str} {sel : List Sel} (dv : List Value) (hd : DflOk sel dv) (hl : sel.length = ps.length)
    (h : ∀ (M : Model) (hp : Heap), K.In hp → ∀ us ws : List Value, us.length = n → ws.length = ks.length → PySem.W.Looks M hp (bindArgs fd ⟨us, ks.zip ws⟩) (ps.zip (mixV sel (us ++ ws) dv))) : BindG K mg fd ps n ks sel :=
  ⟨fun s us ws X h1 h2 => ⟨_, L2.BindsTo.of_looks fun M => h M s.heap X us ws h1 h2, fun vs μ H ds es r q e => mix_rep r q hd e⟩, hl⟩
/-- a def whose keyword-only parameters have defaults; no others have -/
def FunKAt (K : PySem.W.Frag) (mg : Str → Option Value) (x : Str) (st : Stmt) (kws : List (Str × D)) : Prop :=
  ∃ (f : Addr) (oc : Value) (od : Option Addr) (D : Addr) (doc pm : Value) (an : Option Addr) (cdv ct : Value) (osl : Array (Option Value)), mg x = some (.ref f) ∧
    K.lookup f = some ⟨oc, od, .func (PySem.W.fnOf x x (defArgs st) (defBody st) (defScope st) .none (.ref D) doc pm an cdv ct), osl⟩ ∧ PySem.W.codeIn K cdv x = true ∧ PySem.W.keepIn K (.ref f) = true ∧ ∀ q ∈ kws, ∃ u, PySem.W.nsIn K D q.1 = some (some u) ∧ FlatU q.2 u
section
variable {P : Program} {w : World} {K : PySem.W.Frag} {mg : Str → Option Value} {base : Heap} {x : Str} {st : Stmt} {N ps : List Str} {n k : Nat} {T : Tab} {b : CSs} {shapes : List Shape} {kws : List (Str × D)}
/-- binding of such a def -/
abbrev BdK (K : PySem.W.Frag) (mg : Str → Option Value) (x : Str) (st : Stmt) (ps : List Str) (kws : List (Str × D)) (shapes : List Shape) : Prop := ∀ (D : Addr) (doc pm : Value) (an : Option Addr) (cdv ct : Value), (∀ q ∈ kws, ∃ u, PySem.W.nsIn K D q.1 = some (some u) ∧ FlatU q.2 u) →
  ∀ s ∈ shapes, BindG K mg (PySem.W.fnOf x x (defArgs st) (defBody st) (defScope st) .none (.ref D) doc pm an cdv ct) ps s.1 s.2.1 s.2.2
theorem callee_ofK (F : FunKAt K mg x st kws) (S : FnScope N ps (defScope st)) (hn : N.length = n) (body : Walk P w K mg base N st k T b) (B : BdK K mg x st ps kws shapes) : Callee P w K mg base x (k + 1) (runDef T n b) shapes := by
  obtain ⟨f, oc, od, D, doc, pm, an, cdv, ct, osl, hm, lk, hcd, kp, hk⟩ := F
  exact ⟨f, _, ps, hm, kp, fnG_of lk hcd S hn fun A outer s H hr => body x f cdv A outer s H hr, B D doc pm an cdv ct hk⟩
end
end DL
end
section
set_option Elab.async false
set_option linter.all false
set_option maxRecDepth 100000
set_option maxHeartbeats 2000000
/-! DL, part mz: zip of a tuple and a list. -/
namespace DL
open PySem PySem.Spec PyProof.Rows L2
/-- a tuple's items beside a list's -/
def ItM (K : PySem.W.Frag) (a b : Addr) : It :=
  ⟨fun i H => ∃ (vs us : List V) (v u : V), SqT K H a vs ∧ SqL K H b us ∧ vs[i]? = some v ∧ us[i]? = some u,
    fun i H r H' => ∃ T v u, r = .ref T ∧ H T = none ∧ H' = upd H T (.tup [v, u]) ∧ (∀ vs, SqT K H a vs → vs[i]? = some v) ∧ ∀ us, SqL K H b us → us[i]? = some u,
    fun i H => ∃ vs us : List V, SqT K H a vs ∧ SqL K H b us ∧ min vs.length us.length = i⟩
theorem sepM {z TI TO j1 j2 a b : Addr} (D : ZipApart z TI TO j1 j2 a b) : ZipSep2 z TI TO j1 j2 [j1, a] [j2, b] where
  TIz := D.TIz
  TOz := D.TOz
  TITO := D.TITO
  TIi1 := D.TIi1
  mem1 := List.mem_cons_self
  zf1 := fun m => by rcases List.mem_cons.mp m with e | m; exact D.i1z e.symm; exact D.l1z (List.mem_singleton.mp m).symm
  Tf1 := fun m => by rcases List.mem_cons.mp m with e | m; exact D.TOi1 e; exact D.l1TO (List.mem_singleton.mp m).symm
  TIi2 := D.TIi2
  mem2 := List.mem_cons_self
  zf2 := fun m => by rcases List.mem_cons.mp m with e | m; exact D.i2z e.symm; exact D.l2z (List.mem_singleton.mp m).symm
  Tf2 := fun m => by rcases List.mem_cons.mp m with e | m; exact D.TOi2 e; exact D.l2TO (List.mem_singleton.mp m).symm
  sep1_2 := fun m => by rcases List.mem_cons.mp m with e | m; exact D.i12 e; exact D.l2i1 (List.mem_singleton.mp m).symm
  sep2_1 := fun m => by rcases List.mem_cons.mp m with e | m; exact D.i12 e.symm; exact D.l1i2 (List.mem_singleton.mp m).symm
theorem turnM {P : Program} {w : World} {K : PySem.W.Frag} {elts : List Expr} {kk : Nat} {tpos : Pos} {a b z TI TO j1 j2 : Addr} (D : ZipApart z TI TO j1 j2 a b) :
    Turn P w K (.Tuple elts kk tpos) (ItM K a b) [z, TI, TO, j1, j2] z (fun i h => IsZip h z TI TO .none ∧ IsPair h TI (.ref j1) (.ref j2) ∧ (∃ p q, IsPair h TO p q) ∧ h.IsTupleIter j1 a i ∧ h.IsListIter j2 b i) where
  mem := by simp
  obj := fun i h st c hc => by
    obtain ⟨g1, g2, ⟨p, q, g3⟩, ⟨o1, g4, _, n1⟩, ⟨o2, g5, _, n2⟩⟩ := st
    simp only [List.mem_cons, List.not_mem_nil, or_false] at hc
    rcases hc with rfl | rfl | rfl | rfl | rfl
    · exact ⟨_, g1, fun v y => nomatch y⟩
    · exact ⟨_, g2, fun v y => nomatch y⟩
    · exact ⟨_, g3, fun v y => nomatch y⟩
    · exact ⟨o1, g4, fun v y => by rw [n1] at y; cases y⟩
    · exact ⟨o2, g5, fun v y => by rw [n2] at y; cases y⟩
  keep := fun i h h' st k => by
    obtain ⟨g1, g2, ⟨p, q, g3⟩, g4, g5⟩ := st
    exact ⟨k z (by simp) _ g1, k TI (by simp) _ g2, ⟨p, q, k TO (by simp) _ g3⟩, g4.at fun o y => k j1 (by simp) o y, g5.at fun o y => k j2 (by simp) o y⟩
  item := by
    intro X hP hw hK hc i pins s σ H E I hf st hg
    subst hP hw hK
    obtain ⟨g1, g2, ⟨p0, q0, g3⟩, g4, g5⟩ := st
    obtain ⟨vs, us, v, u, sq1, sq2, hv, hu⟩ := hg
    obtain ⟨its1, rv1, is1, _⟩ := I.tuple sq1
    obtain ⟨its2, rv2, is2, _⟩ := I.list sq2
    obtain ⟨x1, hx1, rx1⟩ := rv1.get hv
    obtain ⟨x2, hx2, rx2⟩ := rv2.get hu
    have lt1 : i < its1.toArray.size := by simpa using (List.getElem?_eq_some_iff.mp hx1).1
    have lt2 : i < its2.toArray.size := by simpa using (List.getElem?_eq_some_iff.mp hx2).1
    have zl : z < s.heap.objs.size := Heap.lt_size g1
    have hd : X.A.in1.handled = none := I.ok.hd hc
    refine wpAny_pyNext_zipD2_item (sepM D) (Draws.tuple hd j1 a D.l1i1 its1.toArray) (Draws.list hd j2 b D.l2i2 its2.toArray) g1 g2 g3 ⟨g4, is1⟩ ⟨g5, is2.isList⟩ lt1 lt2 fun y1 y2 h1 tk e1 e2 z1 TO1 S1 S2 T1 sz1 k1 => ?_
    have ey1 : y1 = x1 := Option.some.inj (e1.symm.trans (by simpa using hx1))
    have ey2 : y2 = x2 := Option.some.inj (e2.symm.trans (by simpa using hx2))
    subst ey1 ey2
    refine ⟨_, rfl, wpAny_letOwnedTupleGo_zip (s := { s with heap := h1, toks := tk }) z1 fun h2 z2 sb => ?_⟩
    have T2 : h2.get? s.heap.objs.size = some { cls := .type "tuple", data := .seq #[y1, y2] } := (sb.2 _ (Nat.ne_of_gt zl)).trans T1
    have nw : ObjOk X.prog X.w (upd H s.heap.objs.size (.tup [v, u])) h2 s.heap.objs.size (.tup [v, u]) :=
      ⟨by show 2 ≤ sizeLine; decide, [y1, y2], .cons rx1 (.cons rx2 .nil), ⟨_, T2, rfl, _, rfl⟩⟩
    have I1 : Inv X pins σ (upd H s.heap.objs.size (.tup [v, u])) { s with heap := h2, toks := tk } :=
      I.turnedNew (t' := tk) (ch := [z, TI, TO, j1, j2]) (fun c o hb y => (sb.2 c (fun e => hb (by simp [e]))).trans (k1 c o (fun e => hb (by simp [e])) (fun e => hb (by simp [e])) (fun e => hb (by simp [e])) (fun e => hb (by simp [e])) y)) hf (Nat.le_refl _) nw
    refine ⟨.ref s.heap.objs.size, _, I1, rfl, ⟨_, v, u, rfl, I.hok.fresh (Nat.le_refl _), rfl, fun l hl => by rw [I.tuple_inj hl sq1]; exact hv, fun l hl => by rw [I.list_inj hl sq2]; exact hu⟩, ⟨z2, ?_, ⟨y1, y2, ?_⟩, ?_, ?_⟩, fun c hcm => ?_⟩
    · exact (sb.2 _ D.TIz).trans (k1 _ _ D.TIz D.TITO D.TIi1 D.TIi2 g2)
    · exact (sb.2 _ D.TOz).trans TO1
    · exact S1.1.at fun o y => (sb.2 _ D.i1z).trans y
    · exact S2.1.at fun o y => (sb.2 _ D.i2z).trans y
    · have lc : c < s.heap.objs.size := by
        simp only [List.mem_cons, List.not_mem_nil, or_false] at hcm
        rcases hcm with rfl | rfl | rfl | rfl | rfl
        · exact zl
        · exact Heap.lt_size g2
        · exact Heap.lt_size g3
        · obtain ⟨_, y, _⟩ := g4; exact Heap.lt_size y
        · obtain ⟨_, y, _⟩ := g5; exact Heap.lt_size y
      rw [upd_ne (Nat.ne_of_lt lc)]
      exact (hf c hcm).1
  done := by
    intro X hP hw hK hc i pins s σ H E I hf st hg
    subst hP hw hK
    obtain ⟨g1, g2, ⟨p0, q0, g3⟩, g4, g5⟩ := st
    obtain ⟨vs, us, sq1, sq2, hend⟩ := hg
    obtain ⟨its1, rv1, is1, _⟩ := I.tuple sq1
    obtain ⟨its2, rv2, is2, _⟩ := I.list sq2
    have n1 : its1.toArray.size = vs.length := by rw [List.size_toArray]; exact rv1.length.symm
    have n2 : its2.toArray.size = us.length := by rw [List.size_toArray]; exact rv2.length.symm
    have hd : X.A.in1.handled = none := I.ok.hd hc
    exact wpAny_pyNext_zipD2_end (sepM D) (Draws.tuple hd j1 a D.l1i1 its1.toArray) (Draws.list hd j2 b D.l2i2 its2.toArray) g1 g2 g3 ⟨g4, is1⟩ ⟨g5, is2.isList⟩ (by omega) (by omega) (by omega) fun h1 tk k1 => ⟨rfl, I.turnedL (t' := tk) (ch := [z, TI, TO, j1, j2]) (fun c o hb y =>
      k1 c o (fun e => hb (by simp [e])) (fun e => hb (by simp [e])) (fun e => hb (by simp [e])) (fun e => hb (by simp [e])) y) hf⟩
  self := fun A i s Q E st h => wpAny_pyIter_zip st.1 h
/-! the making -/
def mzH (h : Heap) (a b : Addr) : Heap :=
  ((((h.push { cls := .type "tuple_iterator", data := .fields #[.ref a, .int 0 0] }).push { cls := .type "list_iterator", data := .fields #[.ref b, .int 0 0] }).push { cls := .type "tuple", data := .seq #[.ref h.objs.size, .ref (h.objs.size + 1)] }).push { cls := .type "tuple", data := .seq #[.none, .none] }).push
    { cls := .type "zip", data := .fields #[.none, .bool false, .bool false, .ref (h.objs.size + 2), .ref (h.objs.size + 3)] }
theorem newM (a b : Addr) (xs ys : Array Value) :
    Meets (Builtin.«zip.__new__» ⟨[.type "zip", .ref a, .ref b], []⟩) (fun _ R s => s.heap.IsTuple a xs ∧ s.heap.IsList b ys ∧ R (.ok (.ret (.ref (s.heap.objs.size + 4)))) { s with heap := mzH s.heap a b }) :=
  .of_wp fun prog w A R s h => by
    obtain ⟨hp, g, d, tk, os⟩ := s
    obtain ⟨q1, q2, h⟩ := h
    have sz := sub_zip
    have t1 : Heap.IsTuple (Shared.heap ⟨hp, g, d, tk, os⟩) a xs := q1
    have t2 : Heap.IsList (Shared.heap ⟨hp.push { cls := .type "tuple_iterator", data := .fields #[.ref a, .int 0 0] }, g, d, tk, os⟩) b ys := Heap.IsList.push q2 _
    wp_walk using wpAny_pyIter_tuple t1, wpAny_pyIter_list t2
    refine ⟨_, rfl, ?_⟩
    have e : ∀ (h : Heap) (o : Obj), (h.push o).objs.size = h.objs.size + 1 := fun h o => Heap.size_push ..
    simp only [e, Nat.add_assoc, Nat.reduceAdd]
    exact h
section
variable {prog : Program} {w : World} {A : Around} {E : Value → Shared → Prop} {s : Shared}
theorem callM {a b : Addr} {xs ys : Array Value} {Q : Value → Shared → Prop} (q1 : s.heap.IsTuple a xs) (q2 : s.heap.IsList b ys)
    (k : ∀ h1, IsZip h1 (s.heap.objs.size + 4) (s.heap.objs.size + 2) (s.heap.objs.size + 3) .none → IsPair h1 (s.heap.objs.size + 2) (.ref s.heap.objs.size) (.ref (s.heap.objs.size + 1)) → IsPair h1 (s.heap.objs.size + 3) .none .none →
      h1.IsTupleIter s.heap.objs.size a 0 → h1.IsListIter (s.heap.objs.size + 1) b 0 → (∀ c o, s.heap.get? c = some o → h1.get? c = some o) → Q (.ref (s.heap.objs.size + 4)) { s with heap := h1 }) :
    wpAny (model prog w) A (call (.type "zip") [.ref a, .ref b]) Q E s := by
  refine callType_new F.called_zip (by decide) (F.typeCall_zip_2 _ _) (F.newCall_zip_2 _ _) (fun o => F.args_object_init_3 o _ _) F.entry_zip_new (newM a b xs ys) ⟨q1, q2, ?_⟩
  generalize hn : s.heap.objs.size = n at *
  generalize h0 : s.heap = H0 at *
  have e : ∀ (h : Heap) (o : Obj), (h.push o).objs.size = h.objs.size + 1 := fun h o => Heap.size_push ..
  obtain ⟨o1, ho1⟩ : ∃ o : Obj, o = { cls := .type "tuple_iterator", data := .fields #[.ref a, .int 0 0] } := ⟨_, rfl⟩
  obtain ⟨o2, ho2⟩ : ∃ o : Obj, o = { cls := .type "list_iterator", data := .fields #[.ref b, .int 0 0] } := ⟨_, rfl⟩
  obtain ⟨o3, ho3⟩ : ∃ o : Obj, o = { cls := .type "tuple", data := .seq #[.ref n, .ref (n + 1)] } := ⟨_, rfl⟩
  obtain ⟨o4, ho4⟩ : ∃ o : Obj, o = { cls := .type "tuple", data := .seq #[.none, .none] } := ⟨_, rfl⟩
  obtain ⟨o5, ho5⟩ : ∃ o : Obj, o = { cls := .type "zip", data := .fields #[.none, .bool false, .bool false, .ref (n + 2), .ref (n + 3)] } := ⟨_, rfl⟩
  have hm : mzH H0 a b = ((((H0.push o1).push o2).push o3).push o4).push o5 := by rw [ho1, ho2, ho3, ho4, ho5, ← hn]; rfl
  have s1 : (H0.push o1).objs.size = n + 1 := by rw [e, hn]
  have s2 : ((H0.push o1).push o2).objs.size = n + 2 := by rw [e, s1]
  have s3 : (((H0.push o1).push o2).push o3).objs.size = n + 3 := by rw [e, s2]
  have s4 : ((((H0.push o1).push o2).push o3).push o4).objs.size = n + 4 := by rw [e, s3]
  have keep : ∀ (h : Heap) (o : Obj) c q, h.get? c = some q → (h.push o).get? c = some q := fun h o c q y => Heap.get?_push_of_some _ y
  have nf1 : o1.isFreed = false := by rw [ho1]; rfl
  have nf2 : o2.isFreed = false := by rw [ho2]; rfl
  have nf3 : o3.isFreed = false := by rw [ho3]; rfl
  have nf4 : o4.isFreed = false := by rw [ho4]; rfl
  have nf5 : o5.isFreed = false := by rw [ho5]; rfl
  have y1 : (H0.push o1).get? n = some o1 := by rw [← hn]; exact Heap.get?_push_size _ nf1
  have y2 : ((H0.push o1).push o2).get? (n + 1) = some o2 := by rw [← s1]; exact Heap.get?_push_size _ nf2
  have y3 : (((H0.push o1).push o2).push o3).get? (n + 2) = some o3 := by rw [← s2]; exact Heap.get?_push_size _ nf3
  have y4 : ((((H0.push o1).push o2).push o3).push o4).get? (n + 3) = some o4 := by rw [← s3]; exact Heap.get?_push_size _ nf4
  have y5 : (((((H0.push o1).push o2).push o3).push o4).push o5).get? (n + 4) = some o5 := by rw [← s4]; exact Heap.get?_push_size _ nf5
  have z5 : (mzH H0 a b).get? (n + 4) = some o5 := by rw [hm]; exact y5
  have z4 : (mzH H0 a b).get? (n + 3) = some o4 := by rw [hm]; exact keep _ _ _ _ y4
  have z3 : (mzH H0 a b).get? (n + 2) = some o3 := by rw [hm]; exact keep _ _ _ _ (keep _ _ _ _ y3)
  have z2 : (mzH H0 a b).get? (n + 1) = some o2 := by rw [hm]; exact keep _ _ _ _ (keep _ _ _ _ (keep _ _ _ _ y2))
  have z1 : (mzH H0 a b).get? n = some o1 := by rw [hm]; exact keep _ _ _ _ (keep _ _ _ _ (keep _ _ _ _ (keep _ _ _ _ y1)))
  subst ho1 ho2 ho3 ho4 ho5
  exact ⟨⟨_, z5, rfl⟩, k _ z5 z3 z4 ⟨_, z1, rfl, rfl⟩ ⟨_, z2, rfl, rfl⟩ fun c o y => by rw [hm]; exact keep _ _ _ _ (keep _ _ _ _ (keep _ _ _ _ (keep _ _ _ _ (keep _ _ _ _ y))))⟩
end
def iM (K : PySem.W.Frag) (ta : TA) : TI := fun σ H R => ta σ H fun vs H1 => ∃ a b xs ys, vs = [.ref a, .ref b] ∧ SqT K H1 a xs ∧ SqL K H1 b ys ∧ R (ItM K a b) H1
theorem pi_M {X : Cx} {e e2 : Expr} {ta : TA} {p pos tpos : Pos} {elts : List Expr} {kk : Nat} (hg : Gl X "zip") (hm : X.mg "zip" = none) (ha : PA X [e, e2] ta)
    (hs : starEach [e, e2] X.env = (false, eval e X.env) :: starEach [e2] X.env) (hpl : (backTo pos (starEach [e2] X.env)).any (·.1) = false) :
    PI X (.Tuple elts kk tpos) (.Call (.Name "zip" p) [e, e2] [] pos) (iM X.K ta) := by
  refine ⟨fun pins s σ H R I h => Call_ (ld_blt I hg hm PyProof.Rows.boot_zip (PyProof.Rows.callWith_type1 (thn (ha.run pos pins s σ H _ I h) fun us s1 ⟨vs, H1, I1, r1, a, b, xs, ys, ex, sq1, sq2, q⟩ => ?_) hs hpl))⟩
  subst ex
  obtain ⟨u1, u2, rfl, ra, rb⟩ := vals2 r1
  cases ra
  cases rb
  have fr : ∀ c, c ∈ [s1.heap.objs.size + 4, s1.heap.objs.size + 2, s1.heap.objs.size + 3, s1.heap.objs.size, s1.heap.objs.size + 1] → FpOk X pins H1 c := fun c hc => by
    have hle : s1.heap.objs.size ≤ c := by
      simp only [List.mem_cons, List.not_mem_nil, or_false] at hc
      omega
    exact I1.fpOk hle (I1.hok.fresh hle)
  obtain ⟨its1, rv1, is1, _⟩ := I1.tuple sq1
  obtain ⟨its2, rv2, is2, _⟩ := I1.list sq2
  obtain ⟨oa, hoa, _⟩ := id is1
  refine callM is1 is2.isList fun h1 z1 TI1 TO1 j1 j2 k => wpAny_pyIter_zip z1 ?_
  have I2 : Inv X pins σ H1 { s1 with heap := h1 } := I1.kept (t' := s1.toks) k
  exact ⟨s1.heap.objs.size + 4, [s1.heap.objs.size + 4, s1.heap.objs.size + 2, s1.heap.objs.size + 3, s1.heap.objs.size, s1.heap.objs.size + 1], _, _, H1, rfl, I2, turnM (PySem.W.ktu_apart s1.heap.objs.size a b (Heap.lt_size hoa) is2.lt), ⟨z1, TI1, ⟨_, _, TO1⟩, j1, j2⟩, fr, q⟩
end DL
end
section
set_option Elab.async false
set_option linter.all false
set_option maxRecDepth 100000
set_option maxHeartbeats 2000000
/-! DL, part gf: ranges asked for, ranges as lists, zip of a tuple and a list. -/
namespace DL
open PySem PySem.Spec PyProof.Rows L2
section
variable {X : Cx} {W : XW} {T : Tab} {pos p p2 : Pos} {a b e : Expr} {ca cb : CE}
theorem cr_rng1 : CallR X (.type "range") (fun vs H Q => ∃ i, vs = [V.int i] ∧ ∀ p, H p = none → Q (.ref p) (upd H p (.rng 0 i))) := by
  intro pins s σ H vs us Q I r h
  obtain ⟨i, rfl, q⟩ := h
  obtain ⟨u, rfl, ru⟩ := vals1 r
  obtain ⟨t, rfl⟩ := ru
  refine call_range_1 ⟨.ref s.heap.objs.size, upd H s.heap.objs.size (.rng 0 i), I.laid (t' := s.toks + 1 + 1) (fun b o e => Heap.get?_push_of_some _ e) (Nat.le_refl _) ?_, rfl, q _ (I.hok.fresh (Nat.le_refl _))⟩
  exact ⟨s.toks, t, s.toks + 1, Heap.get?_push_size _ rfl⟩
theorem inRng_core {σ : L2.St} {H : Hp} {Q : VK} {μ : List Addr} {M : Mem} {env : DL.Env} (rm : RepM X.K X.mg μ M H) (rs : RepS X.K X.mg μ H env σ)
    (h : Wants X.K X.mg W (RepV X.K X.mg) (bnd (evE T ca env) (fun x => bnd (evE T cb env) fun y => inRngD x y) M) μ H Q) :
    tD X.K X.mg W (evE T ca) σ H fun x H1 => tD X.K X.mg W (evE T cb) σ H1 fun y H2 => ∃ n, [y] = [V.int n] ∧ ∀ q, H2 q = none → ∃ i a lo hi, x = V.int i ∧ V.ref q = V.ref a ∧ upd H2 q (.rng 0 n) a = some (.rng lo hi) ∧ Q (.bl (decide (lo ≤ i ∧ i < hi))) (upd H2 q (.rng 0 n)) :=
  tD_bnd rm rs h (f := fun x env => bnd (evE T cb env) fun y => inRngD x y) fun v H1 μ1 M1 d l1 rm1 rs1 rv w =>
    tD_bnd rm1 rs1 w (f := fun y env => inRngD d y) fun v2 H2 μ2 M2 d2 l2 rm2 rs2 rv2 w2 => by
      cases d with
      | int i =>
        cases d2 with
        | int n =>
          cases rv
          cases rv2
          have w2 : Wants X.K X.mg W (RepV X.K X.mg) (some (.ok (.bl (decide (0 ≤ i ∧ i < n))), M2)) μ2 H2 Q := w2
          exact ⟨n, rfl, fun q hq => ⟨i, q, 0, n, rfl, rfl, upd_same, w2.some (Le.free hq) (rm2.free hq) (.bl _)⟩⟩
        | _ => exact (show False from Wants.fail (M := M2) w2).elim
      | _ => exact (show False from Wants.fail (M := M2) w2).elim
theorem ev_inRng {env : DL.Env} : evE T (.inRng ca cb) env = bnd (evE T ca env) fun x => bnd (evE T cb env) fun y => inRngD x y := by rw [evE]
theorem e_inRng (B : Blt X.mg) (ha : DE X W T a ca) (hb : DE X W T b cb) (hg : Gl X "range" := by rfl) (hs : starEach [b] X.env = (false, eval b X.env) :: starEach [] X.env := by rfl) (hpl : (backTo p2 (starEach [] X.env)).any (·.1) = false := by rfl)
    (hm : behindInMarks .In (.Call (.Name "range" p) [b] [] p2) = false := by rfl) : DE X W T (.Compare a [.In] [.Call (.Name "range" p) [b] [] p2] pos) (.inRng ca cb) :=
  pe_imp (pe_cmpR op_in_rng ha (pe_callTy cr_rng1 hg B.range (by decide +kernel) (pa_cons hb pa_nil hs) (by decide +kernel) (by decide +kernel) hs hpl) hm) fun σ H Q ⟨μ, M, env, rm, rs, h⟩ => inRng_core rm rs (by rw [← ev_inRng]; exact h)
theorem t_inRng (B : Blt X.mg) (ha : DE X W T a ca) (hb : DE X W T b cb) (hg : Gl X "range" := by rfl) (hs : starEach [b] X.env = (false, eval b X.env) :: starEach [] X.env := by rfl) (hpl : (backTo p2 (starEach [] X.env)).any (·.1) = false := by rfl)
    (hm : behindInMarks .In (.Call (.Name "range" p) [b] [] p2) = false := by rfl) : DT X W T (.Compare a [.In] [.Call (.Name "range" p) [b] [] p2] pos) (.bl (.inRng ca cb)) :=
  pt_imp (pt_cmpR op_in_rng ha (pe_callTy cr_rng1 hg B.range (by decide +kernel) (pa_cons hb pa_nil hs) (by decide +kernel) (by decide +kernel) hs hpl) hm) fun σ H Q ⟨μ, M, env, rm, rs, h⟩ => by
    have e0 : evT T (.bl (.inRng ca cb)) env = bnd (bnd (evE T ca env) fun x => bnd (evE T cb env) fun y => inRngD x y) asBl := by rw [evT, ev_inRng]
    have h : Wants X.K X.mg W relB (bnd (bnd (evE T ca env) fun x => bnd (evE T cb env) fun y => inRngD x y) asBl M) μ H Q := by rw [← e0]; exact h
    obtain ⟨r, M', e, q⟩ := h.bnd (rel1 := RepV X.K X.mg)
    refine inRng_core (W := W) (Q := fun v H1 => ∃ k, v = .bl k ∧ Q k H1) rm rs ⟨r, M', e, fun μ' H' l rm' => ?_⟩
    have q' := q μ' H' l rm'
    cases r with
    | error x => exact q'
    | ok d =>
      intro v rv
      obtain ⟨μ1, M1, d1, l1, rm1, rv1, w⟩ := q' v rv
      exact asBl_w rm1 rv1 w
theorem rgV_map (n : Int) : rgV 0 n = (List.range n.toNat).map fun (i : Nat) => V.int (i : Int) := by
  unfold rgV
  rw [Int.sub_zero]
  exact List.map_congr_left fun i _ => by rw [Int.zero_add]
theorem rep_nats {K : PySem.W.Frag} {mg : Str → Option Value} {μ : List Addr} {H : Hp} : ∀ l : List Nat, RepVs K mg μ H (l.map fun (i : Nat) => D.int i) (l.map fun (i : Nat) => V.int (i : Int))
  | [] => .nil
  | i :: l => .cons (.int _) (rep_nats l)
theorem e_lrng {k : Nat} (C : Cok X k) (B : Blt X.mg) (hb : DE X W T b cb) (hg : Gl X "list" := by rfl) (hg2 : Gl X "range" := by rfl) (hs : starEach [b] X.env = (false, eval b X.env) :: starEach [] X.env := by rfl)
    (hs2 : starEach [.Call (.Name "range" p) [b] [] p2] X.env = (false, eval (.Call (.Name "range" p) [b] [] p2) X.env) :: starEach [] X.env := by rfl) : DE X W T (.Call (.Name "list" pos) [.Call (.Name "range" p) [b] [] p2] [] p3) (.lrng cb) :=
  pe_imp (pe_listRg C.calm hg B.list (prg_1 hg2 B.range hb hs) hs2) fun σ H Q ⟨μ, M, env, rm, rs, h⟩ => by
    have h : Wants X.K X.mg W (RepV X.K X.mg) (bnd (evE T cb env) (fun x => lrngD x) M) μ H Q := by
      have e : evE T (.lrng cb) env = bnd (evE T cb env) lrngD := by rw [evE]
      rw [← e]; exact h
    exact tD_bnd rm rs h (f := fun x env => lrngD x) fun v H1 μ1 M1 d l1 rm1 rs1 rv w => by
      cases d with
      | int n =>
        cases rv
        obtain ⟨⟨h0, h1⟩, w⟩ := Wants.ite w
        refine ⟨n, rfl, RgOk.of_le (by omega) (by omega) (by omega) (by omega), fun q hq => w.made rm1 hq ⟨_, upd_same, ?_⟩⟩
        rw [rgV_map]
        exact rep_nats _
      | _ => exact (show False from Wants.fail (M := M1) w).elim
theorem walk_zipM {μ : List Addr} {M : Mem} {H : Hp} {a b : Addr} {vs us : List V} {ds es : List D} (rm : RepM X.K X.mg μ M H) (h1 : SqT X.K H a vs) (r1 : RepVs X.K X.mg μ H ds vs) (h2 : H b = some (.lst us)) (hn : b ∉ μ) (r2 : RepVs X.K X.mg μ H es us) :
    WalkOk X.K X.mg (ItM X.K a b) none (List.zipWith (fun d e => D.tup [d, e]) ds es) μ H := by
  intro μ1 M1 H1 l rm1 _
  have q1 := l.sqT rm.sto h1
  have q2 : SqL X.K H1 b us := SqL.of (l.keep _ _ h2 hn)
  have r1 := r1.up l rm
  have r2 := r2.up l rm
  have e1 := r1.length
  have e2 := r2.length
  refine ⟨fun i hi => ⟨vs, us, q1, q2, by rw [List.length_zipWith, e1, e2] at hi; exact hi⟩, fun i d hd => ?_⟩
  rw [List.getElem?_zipWith] at hd
  cases hx : ds[i]? with
  | none => rw [hx] at hd; cases hd
  | some dx =>
    cases hy : es[i]? with
    | none => rw [hx, hy] at hd; cases hd
    | some dy =>
      rw [hx, hy] at hd
      cases hd
      obtain ⟨v, hv, rv⟩ := r1.get hx
      obtain ⟨u, hu, ru⟩ := r2.get hy
      refine ⟨⟨vs, us, v, u, q1, q2, hv, hu⟩, fun x H' y => ?_⟩
      obtain ⟨TT, v', u', ex, hT, eH, hx', hy'⟩ := y
      subst ex
      subst eH
      have z1 := hx' vs q1
      have z2 := hy' us q2
      rw [hv] at z1
      rw [hu] at z2
      cases z1
      cases z2
      exact rep_pair rm1 hT rv ru
theorem i_zipM {elts : List Expr} {kk : Nat} {tpos : Pos} (B : Blt X.mg) (ha : DE X W T a ca) (hb : DE X W T b cb) (hg : Gl X "zip" := by rfl) (hs : starEach [a, b] X.env = (false, eval a X.env) :: starEach [b] X.env := by rfl) (hs2 : starEach [b] X.env = (false, eval b X.env) :: starEach [] X.env := by rfl) (hpl : (backTo pos (starEach [b] X.env)).any (·.1) = false := by rfl) :
    DI X W T (.Tuple elts kk tpos) (.Call (.Name "zip" p) [a, b] [] pos) (.zipM ca cb) :=
  pi_imp (pi_M hg B.zip (pa_cons ha (pa_cons hb pa_nil hs2) hs) hs hpl) fun σ H R ⟨μ, M, env, rm, rs, h⟩ => by
    have h : Wants X.K X.mg W (relI X.K X.mg) (bnd (evE T ca env) (fun x => bnd (evE T cb env) fun y => zipMD x y) M) μ H R := by
      have e : evI T (.zipM ca cb) env = bnd (evE T ca env) fun x => bnd (evE T cb env) fun y => zipMD x y := by rw [evI]
      rw [← e]; exact h
    exact tD_bnd rm rs h (f := fun x env => bnd (evE T cb env) fun y => zipMD x y) fun v H1 μ1 M1 d l1 rm1 rs1 rv w =>
      tD_bnd rm1 rs1 w (f := fun y env => zipMD d y) fun v2 H2 μ2 M2 d2 l2 rm2 rs2 rv2 w2 => by
        have rv := rv.up l2 rm1
        cases d with
        | tup ds =>
          cases d2 with
          | fl es =>
            cases rv with | @tup aa vs _ hq r => ?_
            cases rv2 with | @fl bb us _ hq2 hn2 r2 => ?_
            exact ⟨aa, bb, vs, us, rfl, SqT.of hq, SqL.of hq2, Wants.ret (a := (List.zipWith (fun d e => D.tup [d, e]) ds es, none)) w2 rm2 (walk_zipM rm2 (SqT.of hq) r hq2 hn2 r2)⟩
          | _ => exact (show False from Wants.fail (M := M2) w2).elim
        | _ => exact (show False from Wants.fail (M := M2) w2).elim
end
end DL
end
section
set_option Elab.async false
set_option linter.all false
set_option maxRecDepth 100000
set_option maxHeartbeats 0
namespace K
open PySem DL
def c0_Goods : ClsT := ⟨["space", "pairs"], fun _ => fail, fun _ => none, fun _ => none, fun _ => none, none⟩
def c0_Reach : ClsT := ⟨["many", "stands", "edges"], fun _ => fail, fun _ => none, fun _ => none, fun _ => none, none⟩
def c0_Lane : ClsT := ⟨["parts"], fun _ => fail, fun _ => none, fun _ => none, fun _ => none, none⟩
def c0_Packer : ClsT := ⟨["spec", "reach", "stock", "tracks", "routes"], fun _ => fail, fun _ => none, fun _ => none, fun _ => none, none⟩
def c0_Pairs : ClsT := ⟨["stands", "edges"], fun _ => fail, fun _ => none, fun _ => none, fun _ => none, none⟩
def c0_Shares : ClsT := ⟨["sums", "packer", "space", "mixes", "bulks", "edges", "program", "made"], fun _ => fail, fun _ => none, fun _ => none, fun _ => none, none⟩
abbrev NAMES : List Str := ["Goods", "Reach", "Lane", "Packer", "Pairs", "Shares"]
def base : Str → Option ClsT := fun (c : Str) => if c = "Goods" then some c0_Goods else (fun (c : Str) => if c = "Reach" then some c0_Reach else (fun (c : Str) => if c = "Lane" then some c0_Lane else (fun (c : Str) => if c = "Packer" then some c0_Packer else (fun (c : Str) => if c = "Pairs" then some c0_Pairs else (fun (c : Str) => if c = "Shares" then some c0_Shares else (fun _ => none) c) c) c) c) c) c
/-! is_integer -/
def b_is_integer : CSs := .cons (.rt (.andV (.isi (.var 0) (.bty "int")) (.notV (.isi (.var 0) (.bty "bool")))))
    (.nil)
def t_is_integer : Tab := ⟨fun _ _ => fail, base, 0⟩
def f_is_integer : FM := runDef t_is_integer 1 b_is_integer
/-! is_name -/
def e_is_name_1 : CE := .orV (.cmp .inO (.var 1) (.con (.str "abcdefghijklmnopqrstuvwxyz"))) (.cmp .inO (.var 1) (.con (.str "0123456789")))
def b_is_name : CSs := .cons (.cond (.or (.nt (.val (.isi (.var 0) (.bty "str")))) (.or (.nt (.bl (.chain .le .le (.con (.int 1)) (.bcall .len (.cons (.var 0) (.nil))) (.con (.int 8))))) (.bl (.cmp .notIn (.ix (.var 0) (.con (.int 0))) (.con (.str "abcdefghijklmnopqrstuvwxyz")))))) (.cons (.rt (.con (.bl false)))
    (.nil)) (.nil))
    (.cons (.rt (.frz (.bcall .all (.cons (.comp (.of (.var 0)) (.nm 1) (.yes) e_is_name_1 [1]) (.nil)))))
    (.nil))
def t_is_name : Tab := ⟨fun _ _ => fail, base, 0⟩
def f_is_name : FM := runDef t_is_name 2 b_is_name
/-! is_kind -/
def b_is_kind : CSs := .cons (.cond (.or (.nt (.val (.isi (.var 0) (.bty "tuple")))) (.or (.bl (.cmp .ne (.bcall .len (.cons (.var 0) (.nil))) (.con (.int 2)))) (.nt (.val (.frz (.own 1 (.cons (.ix (.var 0) (.con (.int 0))) (.nil)) (.nil) [.arg 0])))))) (.cons (.rt (.con (.bl false)))
    (.nil)) (.nil))
    (.cons (.rt (.andV (.frz (.own 0 (.cons (.ix (.var 0) (.con (.int 1))) (.nil)) (.nil) [.arg 0])) (.chain .le .le (.con (.int 1)) (.ix (.var 0) (.con (.int 1))) (.var 1))))
    (.nil))
def t_is_kind : Tab := ⟨fun i => match i with | 0 => f_is_integer | 1 => f_is_name | _ => fun _ => fail, base, 0⟩
def f_is_kind : FM := runDef t_is_kind 2 b_is_kind
@[simp] theorem tf_is_kind_is_integer : t_is_kind.fn 0 = f_is_integer := nr0 rfl
@[simp] theorem tf_is_kind_is_name : t_is_kind.fn 1 = f_is_name := nr0 rfl
/-! check_kinds -/
def l_check_kinds_1 : CSs := .cons (.cond (.or (.bl (.cmp .eq (.var 2) (.con (.int 6)))) (.nt (.val (.frz (.own 5 (.cons (.var 3) (.cons (.var 1) (.nil))) (.nil) [.arg 0, .arg 1]))))) (.cons (.stuck)
    (.nil)) (.nil))
    (.cons (.cond (.an (.bl (.cmp .gt (.var 2) (.con (.int 0)))) (.bl (.cmp .ge (.ix (.ix (.var 0) (.bin .sub (.var 2) (.con (.int 1)))) (.con (.int 0))) (.ix (.var 3) (.con (.int 0)))))) (.cons (.stuck)
    (.nil)) (.nil))
    (.nil))
def b_check_kinds : CSs := .cons (.cond (.or (.nt (.val (.isi (.var 0) (.bty "tuple")))) (.bl (.cmp .eq (.bcall .len (.cons (.var 0) (.nil))) (.con (.int 0))))) (.cons (.stuck)
    (.nil)) (.nil))
    (.cons (.forS (.tup (.cons (.nm 2) (.cons (.nm 3) (.nil)))) (.enum (.var 0)) l_check_kinds_1)
    (.nil))
def t_check_kinds : Tab := ⟨fun i => match i with | 5 => f_is_kind | _ => fun _ => fail, base, 0⟩
def f_check_kinds : FM := runDef t_check_kinds 4 b_check_kinds
@[simp] theorem tf_check_kinds_is_kind : t_check_kinds.fn 5 = f_is_kind := nr0 rfl
/-! __init__ -/
def b_Goods_ddinitdd : CSs := .cons (.cond (.or (.nt (.val (.frz (.own 0 (.cons (.var 1) (.nil)) (.nil) [.arg 0])))) (.nt (.bl (.chain .le .le (.con (.int 2)) (.var 1) (.con (.int 60)))))) (.cons (.stuck)
    (.nil)) (.nil))
    (.cons (.ex (.frz (.own 6 (.cons (.var 2) (.cons (.var 1) (.nil))) (.nil) [.arg 0, .arg 1])))
    (.cons (.asg (.tup (.cons (.att (.var 0) "space") (.cons (.att (.var 0) "pairs") (.nil)))) (.tup (.cons (.var 1) (.cons (.var 2) (.nil)))))
    (.nil)))
def t_Goods_ddinitdd : Tab := ⟨fun i => match i with | 6 => f_check_kinds | 0 => f_is_integer | _ => fun _ => fail, base, 0⟩
def f_Goods_ddinitdd : FM := runDef t_Goods_ddinitdd 3 b_Goods_ddinitdd
@[simp] theorem tf_Goods_ddinitdd_check_kinds : t_Goods_ddinitdd.fn 6 = f_check_kinds := nr0 rfl
@[simp] theorem tf_Goods_ddinitdd_is_integer : t_Goods_ddinitdd.fn 0 = f_is_integer := nr0 rfl
/-! names -/
def e_Goods_names_1 : CE := .var 2
def b_Goods_names : CSs := .cons (.rt (.frz (.bcall .tuple (.cons (.comp (.of (.attr (.var 0) "pairs")) (.tup (.cons (.nm 2) (.cons (.nm 1) (.nil)))) (.yes) e_Goods_names_1 [2, 1]) (.nil)))))
    (.nil)
def t_Goods_names : Tab := ⟨fun _ _ => fail, base, 0⟩
def f_Goods_names : FM := runDef t_Goods_names 3 b_Goods_names
/-! sizes -/
def e_Goods_sizes_1 : CE := .var 1
def b_Goods_sizes : CSs := .cons (.rt (.frz (.bcall .tuple (.cons (.comp (.of (.attr (.var 0) "pairs")) (.tup (.cons (.nm 2) (.cons (.nm 1) (.nil)))) (.yes) e_Goods_sizes_1 [2, 1]) (.nil)))))
    (.nil)
def t_Goods_sizes : Tab := ⟨fun _ _ => fail, base, 0⟩
def f_Goods_sizes : FM := runDef t_Goods_sizes 3 b_Goods_sizes
/-! check_goods -/
def b_check_goods : CSs := .cons (.cond (.nt (.val (.isi (.var 0) (.glo "Goods")))) (.cons (.stuck)
    (.nil)) (.nil))
    (.nil)
def t_check_goods : Tab := ⟨fun _ _ => fail, base, 0⟩
def f_check_goods : FM := runDef t_check_goods 1 b_check_goods
/-! check_row -/
def l_check_row_1 : CSs := .cons (.cond (.or (.bl (.cmp .eq (.var 3) (.con (.int 2000)))) (.or (.nt (.val (.isi (.var 4) (.bty "str")))) (.bl (.cmp .notIn (.var 4) (.var 2))))) (.cons (.stuck)
    (.nil)) (.nil))
    (.nil)
def b_check_row : CSs := .cons (.cond (.nt (.val (.isi (.var 0) (.bty "tuple")))) (.cons (.stuck)
    (.nil)) (.nil))
    (.cons (.asg (.nm 2) (.frz (.attr (.var 1) "names")))
    (.cons (.forS (.tup (.cons (.nm 3) (.cons (.nm 4) (.nil)))) (.enum (.var 0)) l_check_row_1)
    (.nil)))
def c_check_row_Goods : ClsT := ⟨["space", "pairs"], fun _ => fail, fun _ => none, fun m => if m = "names" then some f_Goods_names else none, fun _ => none, none⟩
def t_check_row : Tab := ⟨fun _ _ => fail, fun (c : Str) => if c = "Goods" then some c_check_row_Goods else (base) c, 0⟩
def f_check_row : FM := runDef t_check_row 5 b_check_row
@[simp] theorem tc_check_row_Goods : t_check_row.cls "Goods" = some c_check_row_Goods := by show (if ("Goods" : Str) = "Goods" then some c_check_row_Goods else (base "Goods")) = _; rw [if_pos rfl]
/-! room -/
def b_Goods_room : CSs := .cons (.rt (.attr (.var 0) "space"))
    (.nil)
def t_Goods_room : Tab := ⟨fun _ _ => fail, base, 0⟩
def f_Goods_room : FM := runDef t_Goods_room 1 b_Goods_room
/-! room_of -/
def b_room_of : CSs := .cons (.cond (.bl (.cmp .isO (.var 0) (.con .non))) (.cons (.rt (.frz (.attr (.var 1) "room")))
    (.nil)) (.nil))
    (.cons (.cond (.or (.nt (.val (.frz (.own 0 (.cons (.var 0) (.nil)) (.nil) [.arg 0])))) (.nt (.bl (.chain .le .le (.frz (.bcall .max (.cons (.frz (.attr (.var 1) "sizes")) (.nil)))) (.var 0) (.con (.int 60)))))) (.cons (.stuck)
    (.nil)) (.nil))
    (.cons (.rt (.var 0))
    (.nil)))
def c_room_of_Goods : ClsT := ⟨["space", "pairs"], fun _ => fail, fun _ => none, fun m => if m = "room" then some f_Goods_room else if m = "sizes" then some f_Goods_sizes else none, fun _ => none, none⟩
def t_room_of : Tab := ⟨fun i => match i with | 0 => f_is_integer | _ => fun _ => fail, fun (c : Str) => if c = "Goods" then some c_room_of_Goods else (base) c, 0⟩
def f_room_of : FM := runDef t_room_of 2 b_room_of
@[simp] theorem tf_room_of_is_integer : t_room_of.fn 0 = f_is_integer := nr0 rfl
@[simp] theorem tc_room_of_Goods : t_room_of.cls "Goods" = some c_room_of_Goods := by show (if ("Goods" : Str) = "Goods" then some c_room_of_Goods else (base "Goods")) = _; rw [if_pos rfl]
/-! checked_room -/
def b_checked_room : CSs := .cons (.ex (.frz (.own 18 (.cons (.var 0) (.nil)) (.nil) [.arg 0])))
    (.cons (.ex (.frz (.own 20 (.cons (.var 1) (.cons (.var 0) (.nil))) (.nil) [.arg 0, .arg 1])))
    (.cons (.asg (.nm 3) (.frz (.own 19 (.cons (.var 2) (.cons (.var 0) (.nil))) (.nil) [.arg 0, .arg 1])))
    (.cons (.cond (.bl (.cmp .gt (.bcall .len (.cons (.var 1) (.nil))) (.con (.int 14)))) (.cons (.stuck)
    (.nil)) (.nil))
    (.cons (.rt (.var 3))
    (.nil)))))
def t_checked_room : Tab := ⟨fun i => match i with | 18 => f_check_goods | 20 => f_check_row | 19 => f_room_of | _ => fun _ => fail, base, 0⟩
def f_checked_room : FM := runDef t_checked_room 4 b_checked_room
@[simp] theorem tf_checked_room_check_goods : t_checked_room.fn 18 = f_check_goods := nr0 rfl
@[simp] theorem tf_checked_room_check_row : t_checked_room.fn 20 = f_check_row := nr0 rfl
@[simp] theorem tf_checked_room_room_of : t_checked_room.fn 19 = f_room_of := nr0 rfl
/-! counts_of -/
def e_counts_of_1 : CE := .cnt (.var 1) (.var 2)
def b_counts_of : CSs := .cons (.rt (.frz (.bcall .tuple (.cons (.comp (.of (.frz (.attr (.var 0) "names"))) (.nm 2) (.yes) e_counts_of_1 [2]) (.nil)))))
    (.nil)
def c_counts_of_Goods : ClsT := ⟨["space", "pairs"], fun _ => fail, fun _ => none, fun m => if m = "names" then some f_Goods_names else none, fun _ => none, none⟩
def t_counts_of : Tab := ⟨fun _ _ => fail, fun (c : Str) => if c = "Goods" then some c_counts_of_Goods else (base) c, 0⟩
def f_counts_of : FM := runDef t_counts_of 3 b_counts_of
@[simp] theorem tc_counts_of_Goods : t_counts_of.cls "Goods" = some c_counts_of_Goods := by show (if ("Goods" : Str) = "Goods" then some c_counts_of_Goods else (base "Goods")) = _; rw [if_pos rfl]
/-! less_one -/
def b_less_one : CSs := .cons (.rt (.tupS (.star (.slice (.var 0) (.no) (.yes (.var 1))) (.cons (.bin .sub (.ix (.var 0) (.var 1)) (.con (.int 1))) (.star (.slice (.var 0) (.yes (.bin .add (.var 1) (.con (.int 1)))) (.no)) (.nil))))))
    (.nil)
def t_less_one : Tab := ⟨fun _ _ => fail, base, 0⟩
def f_less_one : FM := runDef t_less_one 2 b_less_one
/-! counts_up_to -/
def e_counts_up_to_1 : CE := .tupS (.star (.var 4) (.cons (.var 3) (.nil)))
def l_counts_up_to_2 : CSs := .cons (.asg (.nm 1) (.frz (.comp2 (.of (.var 1)) (.nm 4) (.yes) (.rng (.bin .add (.var 2) (.con (.int 1)))) (.nm 3) (.yes) e_counts_up_to_1 [4, 3] [3])))
    (.nil)
def b_counts_up_to : CSs := .cons (.asg (.nm 1) (.frz (.lst (.cons (.tup (.nil)) (.nil)))))
    (.cons (.forS (.nm 2) (.of (.var 0)) l_counts_up_to_2)
    (.cons (.rt (.var 1))
    (.nil)))
def t_counts_up_to : Tab := ⟨fun _ _ => fail, base, 0⟩
def f_counts_up_to : FM := runDef t_counts_up_to 5 b_counts_up_to
/-! put_into_last -/
def b_put_into_last : CSs := .cons (.asg (.tup (.cons (.nm 3) (.cons (.nm 4) (.nil)))) (.var 0))
    (.cons (.rt (.ite (.bl (.cmp .le (.bin .add (.var 4) (.var 1)) (.var 2))) (.tup (.cons (.var 3) (.cons (.bin .add (.var 4) (.var 1)) (.nil)))) (.tup (.cons (.bin .add (.var 3) (.con (.int 1))) (.cons (.var 1) (.nil))))))
    (.nil))
def t_put_into_last : Tab := ⟨fun _ _ => fail, base, 0⟩
def f_put_into_last : FM := runDef t_put_into_last 5 b_put_into_last
/-! packings_of -/
def l_packings_of_1 : CSs := .cons (.cond (.bl (.cmp .gt (.ix (.var 4) (.var 6)) (.con (.int 0)))) (.cons (.asg (.nm 8) (.frz (.own 23 (.cons (.frz (.slice (.dget (.var 3) (.frz (.own 22 (.cons (.var 4) (.cons (.var 6) (.nil))) (.nil) [.arg 0, .arg 1]))) (.no) (.yes (.con (.int 2))))) (.cons (.var 7) (.cons (.var 2) (.nil)))) (.nil) [.arg 0, .arg 1, .arg 2])))
    (.cons (.cond (.or (.bl (.cmp .isO (.var 5) (.con .non))) (.bl (.cmp .lt (.var 8) (.slice (.var 5) (.no) (.yes (.con (.int 2))))))) (.cons (.asg (.nm 5) (.tupS (.star (.var 8) (.cons (.var 6) (.nil)))))
    (.nil)) (.nil))
    (.nil))) (.nil))
    (.nil)
def l_packings_of_2 : CSs := .cons (.asg (.nm 5) (.con .non))
    (.cons (.forS (.tup (.cons (.nm 6) (.cons (.nm 7) (.nil)))) (.enum (.var 0)) l_packings_of_1)
    (.cons (.asg (.dsub (.var 3) (.var 4)) (.ite (.bl (.cmp .isO (.var 5) (.con .non))) (.tup (.cons (.con (.int 0)) (.cons (.var 2) (.cons (.con .non) (.nil))))) (.var 5)))
    (.nil)))
def b_packings_of : CSs := .cons (.asg (.nm 3) (.dnew))
    (.cons (.forS (.nm 4) (.of (.frz (.own 21 (.cons (.var 1) (.nil)) (.nil) [.arg 0]))) l_packings_of_2)
    (.cons (.rt (.var 3))
    (.nil)))
def t_packings_of : Tab := ⟨fun i => match i with | 21 => f_counts_up_to | 22 => f_less_one | 23 => f_put_into_last | _ => fun _ => fail, base, 0⟩
def f_packings_of : FM := runDef t_packings_of 9 b_packings_of
@[simp] theorem tf_packings_of_counts_up_to : t_packings_of.fn 21 = f_counts_up_to := nr0 rfl
@[simp] theorem tf_packings_of_less_one : t_packings_of.fn 22 = f_less_one := nr0 rfl
@[simp] theorem tf_packings_of_put_into_last : t_packings_of.fn 23 = f_put_into_last := nr0 rfl
/-! best_packing -/
def l_best_packing_1 : CSs := .cons (.asg (.nm 7) (.ix (.dget (.var 5) (.var 4)) (.con (.int 2))))
    (.cons (.ex (.bmeth .append (.var 6) (.cons (.var 7) (.nil))))
    (.cons (.asg (.nm 4) (.frz (.own 22 (.cons (.var 4) (.cons (.var 7) (.nil))) (.nil) [.arg 0, .arg 1])))
    (.nil)))
def e_best_packing_2 : CE := .var 13
def e_best_packing_3 : CE := .comp (.enum (.var 1)) (.tup (.cons (.nm 13) (.cons (.nm 12) (.nil)))) (.bl (.cmp .eq (.var 12) (.var 11))) e_best_packing_2 [13, 12]
def l_best_packing_4 : CSs := .cons (.asg (.nm 10) (.bin .add (.var 10) (.ix (.frz (.attr (.var 0) "sizes")) (.var 7))))
    (.cons (.cond (.bl (.cmp .gt (.var 10) (.var 3))) (.cons (.ex (.bmeth .append (.var 9) (.cons (.lst (.nil)) (.nil))))
    (.cons (.asg (.nm 10) (.ix (.frz (.attr (.var 0) "sizes")) (.var 7)))
    (.nil))) (.nil))
    (.cons (.ex (.bmeth .append (.ix (.var 9) (.neg (.con (.int 1)))) (.cons (.bmeth .pop (.ix (.var 8) (.var 7)) .nil) (.nil))))
    (.nil)))
def e_best_packing_5 : CE := .frz (.bcall .tuple (.cons (.bcall .sorted (.cons (.var 14) (.nil))) (.nil)))
def b_best_packing : CSs := .cons (.asg (.tup (.cons (.nm 3) (.cons (.nm 4) (.nil)))) (.tup (.cons (.frz (.own 25 (.cons (.var 0) (.cons (.var 1) (.cons (.var 2) (.nil)))) (.nil) [.arg 0, .arg 1, .arg 2])) (.cons (.frz (.own 26 (.cons (.var 0) (.cons (.var 1) (.nil))) (.nil) [.arg 0, .arg 1])) (.nil)))))
    (.cons (.asg (.tup (.cons (.nm 5) (.cons (.nm 6) (.nil)))) (.tup (.cons (.own 24 (.cons (.frz (.attr (.var 0) "sizes")) (.cons (.var 4) (.cons (.var 3) (.nil)))) (.nil) [.arg 0, .arg 1, .arg 2]) (.cons (.lst (.nil)) (.nil)))))
    (.cons (.whileS (.bl (.cmp .isNot (.ix (.dget (.var 5) (.var 4)) (.con (.int 2))) (.con .non))) l_best_packing_1)
    (.cons (.asg (.nm 8) (.comp (.of (.frz (.attr (.var 0) "names"))) (.nm 11) (.yes) e_best_packing_3 [11]))
    (.cons (.asg (.tup (.cons (.nm 9) (.cons (.nm 10) (.nil)))) (.tup (.cons (.lst (.nil)) (.cons (.var 3) (.nil)))))
    (.cons (.forS (.nm 7) (.of (.frz (.revS (.var 6)))) l_best_packing_4)
    (.cons (.rt (.frz (.bcall .tuple (.cons (.comp (.of (.var 9)) (.nm 14) (.yes) e_best_packing_5 [14]) (.nil)))))
    (.nil)))))))
def c_best_packing_Goods : ClsT := ⟨["space", "pairs"], fun _ => fail, fun _ => none, fun m => if m = "names" then some f_Goods_names else if m = "sizes" then some f_Goods_sizes else none, fun _ => none, none⟩
def t_best_packing : Tab := ⟨fun i => match i with | 25 => f_checked_room | 26 => f_counts_of | 22 => f_less_one | 24 => f_packings_of | _ => fun _ => fail, fun (c : Str) => if c = "Goods" then some c_best_packing_Goods else (base) c, 20⟩
def f_best_packing : FM := runDef t_best_packing 15 b_best_packing
@[simp] theorem tf_best_packing_checked_room : t_best_packing.fn 25 = f_checked_room := nr0 rfl
@[simp] theorem tf_best_packing_counts_of : t_best_packing.fn 26 = f_counts_of := nr0 rfl
@[simp] theorem tf_best_packing_less_one : t_best_packing.fn 22 = f_less_one := nr0 rfl
@[simp] theorem tf_best_packing_packings_of : t_best_packing.fn 24 = f_packings_of := nr0 rfl
@[simp] theorem tc_best_packing_Goods : t_best_packing.cls "Goods" = some c_best_packing_Goods := by show (if ("Goods" : Str) = "Goods" then some c_best_packing_Goods else (base "Goods")) = _; rw [if_pos rfl]
/-! least_boxes -/
def b_least_boxes : CSs := .cons (.asg (.tup (.cons (.nm 3) (.cons (.nm 4) (.nil)))) (.tup (.cons (.frz (.own 25 (.cons (.var 0) (.cons (.var 1) (.cons (.var 2) (.nil)))) (.nil) [.arg 0, .arg 1, .arg 2])) (.cons (.frz (.own 26 (.cons (.var 0) (.cons (.var 1) (.nil))) (.nil) [.arg 0, .arg 1])) (.nil)))))
    (.cons (.rt (.ix (.frz (.dget (.own 24 (.cons (.frz (.attr (.var 0) "sizes")) (.cons (.var 4) (.cons (.var 3) (.nil)))) (.nil) [.arg 0, .arg 1, .arg 2]) (.var 4))) (.con (.int 0))))
    (.nil))
def c_least_boxes_Goods : ClsT := ⟨["space", "pairs"], fun _ => fail, fun _ => none, fun m => if m = "sizes" then some f_Goods_sizes else none, fun _ => none, none⟩
def t_least_boxes : Tab := ⟨fun i => match i with | 25 => f_checked_room | 26 => f_counts_of | 24 => f_packings_of | _ => fun _ => fail, fun (c : Str) => if c = "Goods" then some c_least_boxes_Goods else (base) c, 0⟩
def f_least_boxes : FM := runDef t_least_boxes 5 b_least_boxes
@[simp] theorem tf_least_boxes_checked_room : t_least_boxes.fn 25 = f_checked_room := nr0 rfl
@[simp] theorem tf_least_boxes_counts_of : t_least_boxes.fn 26 = f_counts_of := nr0 rfl
@[simp] theorem tf_least_boxes_packings_of : t_least_boxes.fn 24 = f_packings_of := nr0 rfl
@[simp] theorem tc_least_boxes_Goods : t_least_boxes.cls "Goods" = some c_least_boxes_Goods := by show (if ("Goods" : Str) = "Goods" then some c_least_boxes_Goods else (base "Goods")) = _; rw [if_pos rfl]
end K
end
section
set_option Elab.async false
set_option linter.all false
set_option maxRecDepth 100000
set_option maxHeartbeats 0
namespace K
open PySem DL
/-! _law_cell -/
def l_w_cell_1 : CSs := .cons (.asg (.nm 2) (.bin .mod (.bcall .int (.cons (.bin .add (.bin .mul (.var 2) (.con (.int 61417))) (.bcall .int (.cons (.var 3) (.nil)))) (.nil))) (.con (.int 2147483579))))
    (.nil)
def b_w_cell : CSs := .cons (.cond (.bl (.cmp .lt (.var 1) (.bcall .len (.cons (.var 0) (.nil))))) (.cons (.rt (.bcall .int (.cons (.ix (.var 0) (.var 1)) (.nil))))
    (.nil)) (.nil))
    (.cons (.asg (.nm 2) (.bin .add (.bin .add (.con (.int 8123)) (.bin .mul (.bin .mul (.con (.int 60013)) (.var 1)) (.var 1))) (.bin .mul (.con (.int 41)) (.var 1))))
    (.cons (.forS (.nm 3) (.of (.frz (.slice (.var 0) (.no) (.yes (.con (.int 4)))))) l_w_cell_1)
    (.cons (.rt (.bin .mod (.bcall .int (.cons (.bin .add (.bin .mul (.var 2) (.var 2)) (.bin .mul (.con (.int 5)) (.var 1))) (.nil))) (.con (.int 2147483563))))
    (.nil))))
def t_w_cell : Tab := ⟨fun _ _ => fail, base, 0⟩
def f_w_cell : FM := runDef t_w_cell 4 b_w_cell
/-! _law_pool -/
def b_w_pool : CSs := .cons (.asg (.nm 1) (.ite (.or (.bl (.cmp .lt (.var 0) (.con (.int 0)))) (.bl (.cmp .ge (.var 0) (.bin .pow (.con (.int 10)) (.con (.int 18)))))) (.bcall .abs (.cons (.var 0) (.nil))) (.con (.int 0))))
    (.cons (.rt (.lst (.cons (.bin .mod (.bcall .int (.cons (.var 0) (.nil))) (.con (.int 2147483629))) (.cons (.var 1) (.cons (.con (.int 0)) (.nil))))))
    (.nil))
def t_w_pool : Tab := ⟨fun _ _ => fail, base, 0⟩
def f_w_pool : FM := runDef t_w_pool 2 b_w_pool
/-! _law_draw -/
def b_w_draw : CSs := .cons (.asg (.sub (.var 0) (.con (.int 2))) (.bin .add (.ix (.var 0) (.con (.int 2))) (.con (.int 1))))
    (.cons (.asg (.nm 2) (.bin .mod (.bcall .int (.cons (.bin .add (.bin .add (.bin .mul (.ix (.var 0) (.con (.int 0))) (.con (.int 48271))) (.bin .mul (.ix (.var 0) (.con (.int 2))) (.con (.int 104729)))) (.con (.int 7))) (.nil))) (.con (.int 2147483587))))
    (.cons (.asg (.sub (.var 0) (.con (.int 0))) (.bin .mod (.bcall .int (.cons (.bin .add (.bin .mul (.var 2) (.var 2)) (.bin .mul (.con (.int 30011)) (.ix (.var 0) (.con (.int 2))))) (.nil))) (.con (.int 2147483549))))
    (.cons (.cond (.bl (.cmp .gt (.ix (.var 0) (.con (.int 1))) (.con (.int 0)))) (.cons (.asg (.nm 3) (.bin .mod (.bcall .int (.cons (.ix (.var 0) (.con (.int 1))) (.nil))) (.var 1)))
    (.cons (.asg (.sub (.var 0) (.con (.int 1))) (.bin .fdiv (.ix (.var 0) (.con (.int 1))) (.var 1)))
    (.cons (.rt (.var 3))
    (.nil)))) (.nil))
    (.cons (.rt (.bin .mod (.bcall .int (.cons (.bin .fdiv (.ix (.var 0) (.con (.int 0))) (.con (.int 64))) (.nil))) (.var 1)))
    (.nil)))))
def t_w_draw : Tab := ⟨fun _ _ => fail, base, 0⟩
def f_w_draw : FM := runDef t_w_draw 4 b_w_draw
/-! _law_states -/
def e_w_states_1 : CE := .bin .add (.var 4) (.tup (.cons (.var 5) (.nil)))
def l_w_states_2 : CSs := .cons (.asg (.nm 3) (.frz (.bin .add (.var 3) (.comp (.rng (.bin .add (.var 2) (.con (.int 1)))) (.nm 5) (.yes) e_w_states_1 [5]))))
    (.nil)
def l_w_states_3 : CSs := .cons (.asg (.nm 3) (.frz (.lst (.nil))))
    (.cons (.forS (.nm 4) (.of (.var 1)) l_w_states_2)
    (.cons (.asg (.nm 1) (.var 3))
    (.nil)))
def b_w_states : CSs := .cons (.asg (.nm 1) (.frz (.lst (.cons (.tup (.nil)) (.nil)))))
    (.cons (.forS (.nm 2) (.of (.var 0)) l_w_states_3)
    (.cons (.rt (.var 1))
    (.nil)))
def t_w_states : Tab := ⟨fun _ _ => fail, base, 0⟩
def f_w_states : FM := runDef t_w_states 6 b_w_states
/-! _law_least -/
def e_w_least_1 : CE := .bin .mul (.var 9) (.var 10)
def l_w_least_2 : CSs := .cons (.cond (.bl (.chain .lt .le (.con (.int 0)) (.frz (.bcall .sum (.cons (.comp (.zipM (.var 4) (.var 0)) (.tup (.cons (.nm 9) (.cons (.nm 10) (.nil)))) (.yes) e_w_least_1 [9, 10]) (.nil)))) (.var 2))) (.cons (.ex (.bmeth .append (.var 3) (.cons (.var 4) (.nil))))
    (.nil)) (.nil))
    (.nil)
def e_w_least_3 : CE := .cmp .le (.var 9) (.var 11)
def e_w_least_4 : CE := .bin .sub (.var 11) (.var 9)
def l_w_least_5 : CSs := .cons (.cond (.val (.frz (.bcall .all (.cons (.comp (.zip (.var 7) (.var 4)) (.tup (.cons (.nm 9) (.cons (.nm 11) (.nil)))) (.yes) e_w_least_3 [9, 11]) (.nil))))) (.cons (.asg (.nm 8) (.bin .add (.dget (.var 5) (.frz (.bcall .tuple (.cons (.comp (.zip (.var 7) (.var 4)) (.tup (.cons (.nm 9) (.cons (.nm 11) (.nil)))) (.yes) e_w_least_4 [9, 11]) (.nil))))) (.con (.int 1))))
    (.cons (.asg (.nm 6) (.ite (.bl (.cmp .eq (.var 6) (.con (.int 0)))) (.var 8) (.bcall .min (.cons (.var 6) (.cons (.var 8) (.nil))))))
    (.nil))) (.nil))
    (.nil)
def l_w_least_6 : CSs := .cons (.asg (.nm 6) (.con (.int 0)))
    (.cons (.forS (.nm 7) (.of (.var 3)) l_w_least_5)
    (.cons (.asg (.dsub (.var 5) (.var 4)) (.var 6))
    (.nil)))
def b_w_least : CSs := .cons (.asg (.nm 3) (.lst (.nil)))
    (.cons (.forS (.nm 4) (.of (.frz (.own 1007 (.cons (.var 1) (.nil)) (.nil) [.arg 0]))) l_w_least_2)
    (.cons (.asg (.nm 5) (.dnew))
    (.cons (.forS (.nm 4) (.of (.frz (.own 1007 (.cons (.var 1) (.nil)) (.nil) [.arg 0]))) l_w_least_6)
    (.cons (.rt (.dget (.var 5) (.bcall .tuple (.cons (.var 1) (.nil)))))
    (.nil)))))
def t_w_least : Tab := ⟨fun i => match i with | 1007 => f_w_states | _ => fun _ => fail, base, 0⟩
def f_w_least : FM := runDef t_w_least 12 b_w_least
@[simp] theorem tf_w_least_w_states : t_w_least.fn 1007 = f_w_states := nr0 rfl
/-! _law_other_room -/
def b_w_other_room : CSs := .cons (.asg (.nm 3) (.bcall .max (.cons (.var 2) (.nil))))
    (.cons (.asg (.nm 4) (.frz (.lst (.cons (.con .non) (.cons (.con .non) (.cons (.var 1) (.cons (.var 3) (.cons (.frz (.bcall .min (.cons (.bin .add (.var 3) (.frz (.own 1002 (.cons (.var 0) (.cons (.con (.int 4)) (.nil))) (.nil) [.arg 0, .arg 1]))) (.cons (.con (.int 60)) (.nil))))) (.cons (.bin .add (.var 3) (.frz (.own 1002 (.cons (.var 0) (.cons (.bin .sub (.con (.int 61)) (.var 3)) (.nil))) (.nil) [.arg 0, .arg 1]))) (.cons (.con (.int 60)) (.nil)))))))))))
    (.cons (.rt (.ix (.var 4) (.frz (.own 1002 (.cons (.var 0) (.cons (.con (.int 7)) (.nil))) (.nil) [.arg 0, .arg 1]))))
    (.nil)))
def t_w_other_room : Tab := ⟨fun i => match i with | 1002 => f_w_draw | _ => fun _ => fail, base, 0⟩
def f_w_other_room : FM := runDef t_w_other_room 5 b_w_other_room
@[simp] theorem tf_w_other_room_w_draw : t_w_other_room.fn 1002 = f_w_draw := nr0 rfl
/-! _law_packed_right -/
def e_w_packed_right_1 : CE := .ix (.var 1) (.var 6)
def e_w_packed_right_2 : CE := .var 6
def l_w_packed_right_3 : CSs := .cons (.cond (.or (.nt (.val (.isi (.var 5) (.bty "tuple")))) (.or (.bl (.cmp .eq (.var 5) (.tup (.nil)))) (.bl (.cmp .ne (.bcall .repr (.cons (.var 5) (.nil))) (.frz (.bcall .repr (.cons (.frz (.bcall .tuple (.cons (.bcall .sorted (.cons (.var 5) (.nil))) (.nil)))) (.nil)))))))) (.cons (.rt (.con (.bl false)))
    (.nil)) (.nil))
    (.cons (.asg (.nm 4) (.frz (.bin .add (.var 4) (.bcall .list (.cons (.var 5) (.nil))))))
    (.cons (.cond (.or (.bl (.cmp .ne (.var 4) (.comp (.of (.var 4)) (.nm 6) (.bl (.inRng (.var 6) (.bcall .len (.cons (.var 1) (.nil))))) e_w_packed_right_2 [6]))) (.bl (.cmp .gt (.frz (.bcall .sum (.cons (.comp (.of (.var 5)) (.nm 6) (.yes) e_w_packed_right_1 [6]) (.nil)))) (.var 2)))) (.cons (.rt (.con (.bl false)))
    (.nil)) (.nil))
    (.nil)))
def b_w_packed_right : CSs := .cons (.cond (.or (.nt (.val (.isi (.var 0) (.bty "tuple")))) (.bl (.cmp .ne (.bcall .len (.cons (.var 0) (.nil))) (.var 3)))) (.cons (.rt (.con (.bl false)))
    (.nil)) (.nil))
    (.cons (.asg (.nm 4) (.frz (.lst (.nil))))
    (.cons (.forS (.nm 5) (.of (.var 0)) l_w_packed_right_3)
    (.cons (.rt (.cmp .eq (.frz (.bcall .repr (.cons (.bcall .sorted (.cons (.var 4) (.nil))) (.nil)))) (.frz (.bcall .repr (.cons (.lrng (.bcall .len (.cons (.var 1) (.nil)))) (.nil))))))
    (.nil))))
def t_w_packed_right : Tab := ⟨fun _ _ => fail, base, 0⟩
def f_w_packed_right : FM := runDef t_w_packed_right 7 b_w_packed_right
/-! _law_word -/
def l_w_word_1 : CSs := .cons (.asg (.nm 3) (.bin .add (.var 3) (.ix (.var 2) (.frz (.own 1002 (.cons (.var 0) (.cons (.con (.int 36)) (.nil))) (.nil) [.arg 0, .arg 1])))))
    (.nil)
def b_w_word : CSs := .cons (.asg (.nm 1) (.frz (.lst (.cons (.con (.str "room")) (.cons (.con (.str "lane")) (.cons (.con (.str "in")) (.cons (.con (.str "take")) (.cons (.con (.str "shut")) (.cons (.con (.str "mark")) (.cons (.con (.str "first")) (.cons (.con (.str "last")) (.cons (.con (.str "fullest")) (.cons (.con (.str "emptiest")) (.nil))))))))))))))
    (.cons (.cond (.bl (.cmp .eq (.frz (.own 1002 (.cons (.var 0) (.cons (.con (.int 6)) (.nil))) (.nil) [.arg 0, .arg 1])) (.con (.int 0)))) (.cons (.rt (.ix (.var 1) (.frz (.own 1002 (.cons (.var 0) (.cons (.con (.int 10)) (.nil))) (.nil) [.arg 0, .arg 1]))))
    (.nil)) (.nil))
    (.cons (.asg (.nm 2) (.con (.str "abcdefghijklmnopqrstuvwxyz0123456789")))
    (.cons (.asg (.nm 3) (.ix (.var 2) (.frz (.own 1002 (.cons (.var 0) (.cons (.con (.int 26)) (.nil))) (.nil) [.arg 0, .arg 1]))))
    (.cons (.forS (.nm 4) (.rng (.frz (.own 1002 (.cons (.var 0) (.cons (.con (.int 8)) (.nil))) (.nil) [.arg 0, .arg 1]))) l_w_word_1)
    (.cons (.rt (.var 3))
    (.nil))))))
def t_w_word : Tab := ⟨fun i => match i with | 1002 => f_w_draw | _ => fun _ => fail, base, 0⟩
def f_w_word : FM := runDef t_w_word 5 b_w_word
@[simp] theorem tf_w_word_w_draw : t_w_word.fn 1002 = f_w_draw := nr0 rfl
/-! _law_tags -/
def l_w_tags_1 : CSs := .cons (.cond (.bl (.cmp .inO (.var 4) (.var 2))) (.cons (.asg (.nm 4) (.bin .add (.slice (.var 4) (.no) (.yes (.con (.int 7)))) (.var 5)))
    (.nil)) (.nil))
    (.nil)
def l_w_tags_2 : CSs := .cons (.asg (.nm 4) (.frz (.own 1003 (.cons (.var 0) (.nil)) (.nil) [.arg 0])))
    (.cons (.forS (.nm 5) (.of (.con (.str "abcdefg"))) l_w_tags_1)
    (.cons (.ex (.bmeth .append (.var 2) (.cons (.var 4) (.nil))))
    (.nil)))
def b_w_tags : CSs := .cons (.asg (.nm 2) (.lst (.nil)))
    (.cons (.forS (.nm 3) (.rng (.var 1)) l_w_tags_2)
    (.cons (.rt (.bcall .sorted (.cons (.var 2) (.nil))))
    (.nil)))
def t_w_tags : Tab := ⟨fun i => match i with | 1003 => f_w_word | _ => fun _ => fail, base, 0⟩
def f_w_tags : FM := runDef t_w_tags 6 b_w_tags
@[simp] theorem tf_w_tags_w_word : t_w_tags.fn 1003 = f_w_word := nr0 rfl
/-! _law_shape -/
def e_w_shape_1 : CE := .tup (.cons (.var 4) (.cons (.bin .add (.con (.int 1)) (.frz (.own 1002 (.cons (.var 0) (.cons (.var 3) (.nil))) (.nil) [.arg 0, .arg 1]))) (.nil)))
def b_w_shape : CSs := .cons (.asg (.nm 1) (.bin .add (.con (.int 2)) (.frz (.own 1002 (.cons (.var 0) (.cons (.con (.int 59)) (.nil))) (.nil) [.arg 0, .arg 1]))))
    (.cons (.asg (.nm 2) (.frz (.own 1004 (.cons (.var 0) (.cons (.bin .add (.con (.int 1)) (.frz (.own 1002 (.cons (.var 0) (.cons (.con (.int 6)) (.nil))) (.nil) [.arg 0, .arg 1]))) (.nil))) (.nil) [.arg 0, .arg 1])))
    (.cons (.asg (.nm 3) (.frz (.ix (.lst (.cons (.var 1) (.cons (.bin .add (.con (.int 1)) (.bin .fdiv (.var 1) (.con (.int 3)))) (.cons (.con (.int 2)) (.nil))))) (.frz (.own 1002 (.cons (.var 0) (.cons (.con (.int 3)) (.nil))) (.nil) [.arg 0, .arg 1])))))
    (.cons (.rt (.tup (.cons (.var 1) (.cons (.frz (.bcall .tuple (.cons (.comp (.of (.var 2)) (.nm 4) (.yes) e_w_shape_1 [4]) (.nil)))) (.nil)))))
    (.nil))))
def t_w_shape : Tab := ⟨fun i => match i with | 1002 => f_w_draw | 1004 => f_w_tags | _ => fun _ => fail, base, 0⟩
def f_w_shape : FM := runDef t_w_shape 5 b_w_shape
@[simp] theorem tf_w_shape_w_draw : t_w_shape.fn 1002 = f_w_draw := nr0 rfl
@[simp] theorem tf_w_shape_w_tags : t_w_shape.fn 1004 = f_w_tags := nr0 rfl
/-! _law_right -/
def e_w_right_1 : CE := .ix (.var 13) (.con (.int 1))
def e_w_right_2 : CE := .frz (.own 1002 (.cons (.var 0) (.cons (.bcall .len (.cons (.var 2) (.nil))) (.nil))) (.nil) [.arg 0, .arg 1])
def e_w_right_3 : CE := .ix (.ix (.var 2) (.var 15)) (.con (.int 0))
def e_w_right_4 : CE := .bmeth .count (.var 6) (.cons (.var 14) (.nil))
def e_w_right_5 : CE := .ix (.var 4) (.var 15)
def l_w_right_6 : CSs := .cons (.asg (.nm 6) (.frz (.comp (.rng (.frz (.own 1002 (.cons (.var 0) (.cons (.con (.int 15)) (.nil))) (.nil) [.arg 0, .arg 1]))) (.nm 14) (.yes) e_w_right_2 [14])))
    (.cons (.asg (.nm 7) (.frz (.own 1006 (.cons (.var 0) (.cons (.var 1) (.cons (.var 4) (.nil)))) (.nil) [.arg 0, .arg 1, .arg 2])))
    (.cons (.asg (.tup (.cons (.nm 8) (.cons (.nm 9) (.nil)))) (.tup (.cons (.ite (.bl (.cmp .isO (.var 7) (.con .non))) (.var 1) (.var 7)) (.cons (.frz (.ptC (.cons (.comp (.of (.var 6)) (.nm 15) (.yes) e_w_right_3 [15]) (.nil)))) (.nil)))))
    (.cons (.asg (.nm 10) (.frz (.own 1008 (.cons (.var 4) (.cons (.frz (.comp (.rng (.bcall .len (.cons (.var 2) (.nil)))) (.nm 14) (.yes) e_w_right_4 [14])) (.cons (.var 8) (.nil)))) (.nil) [.arg 0, .arg 1, .arg 2])))
    (.cons (.asg (.nm 11) (.frz (.comp (.of (.var 6)) (.nm 15) (.yes) e_w_right_5 [15])))
    (.cons (.cond (.bl (.cmp .ne (.frz (.bcall .repr (.cons (.frz (.own 27 (.cons (.var 3) (.cons (.var 9) (.nil))) (.cons (.var 7) (.nil)) [.arg 0, .arg 1, .arg 2])) (.nil)))) (.bcall .repr (.cons (.var 10) (.nil))))) (.cons (.rt (.con (.bl false)))
    (.nil)) (.nil))
    (.cons (.asg (.nm 12) (.frz (.own 28 (.cons (.var 3) (.cons (.var 9) (.nil))) (.cons (.var 7) (.nil)) [.arg 0, .arg 1, .arg 2])))
    (.cons (.cond (.or (.nt (.val (.frz (.own 1009 (.cons (.var 12) (.cons (.var 11) (.cons (.var 8) (.cons (.var 10) (.nil))))) (.nil) [.arg 0, .arg 1, .arg 2, .arg 3])))) (.bl (.cmp .ne (.frz (.own 28 (.nil) (.cons (.var 7) (.cons (.var 3) (.cons (.var 9) (.nil)))) [.arg 1, .arg 2, .arg 0])) (.var 12)))) (.cons (.rt (.con (.bl false)))
    (.nil)) (.nil))
    (.cons (.cond (.an (.bl (.cmp .isO (.var 7) (.con .non))) (.bl (.cmp .ne (.frz (.own 28 (.cons (.var 3) (.cons (.var 9) (.nil))) (.nil) [.arg 0, .arg 1, .val (.non)])) (.var 12)))) (.cons (.rt (.con (.bl false)))
    (.nil)) (.nil))
    (.nil)))))))))
def b_w_right : CSs := .cons (.asg (.tup (.cons (.nm 1) (.cons (.nm 2) (.nil)))) (.frz (.own 1005 (.cons (.var 0) (.nil)) (.nil) [.arg 0])))
    (.cons (.asg (.nm 2) (.frz (.slice (.var 2) (.no) (.yes (.con (.int 3))))))
    (.cons (.asg (.tup (.cons (.nm 3) (.cons (.nm 4) (.nil)))) (.tup (.cons (.frz (.make "Goods" (.cons (.var 1) (.cons (.var 2) (.nil))) (.nil) [.arg 0, .arg 1])) (.cons (.frz (.comp (.of (.var 2)) (.nm 13) (.yes) e_w_right_1 [13])) (.nil)))))
    (.cons (.forS (.nm 5) (.rng (.con (.int 2))) l_w_right_6)
    (.cons (.rt (.cmp .eq (.frz (.bcall .repr (.cons (.frz (.own 28 (.cons (.var 3) (.cons (.ptD (.nil)) (.nil))) (.nil) [.arg 0, .arg 1, .val (.non)])) (.nil)))) (.con (.str "()"))))
    (.nil)))))
def c_w_right_Goods : ClsT := ⟨["space", "pairs"], f_Goods_ddinitdd, fun _ => none, fun _ => none, fun _ => none, none⟩
def t_w_right : Tab := ⟨fun i => match i with | 1002 => f_w_draw | 1008 => f_w_least | 1006 => f_w_other_room | 1009 => f_w_packed_right | 1005 => f_w_shape | 28 => f_best_packing | 27 => f_least_boxes | _ => fun _ => fail, fun (c : Str) => if c = "Goods" then some c_w_right_Goods else (base) c, 0⟩
def f_w_right : FM := runDef t_w_right 16 b_w_right
@[simp] theorem tf_w_right_w_draw : t_w_right.fn 1002 = f_w_draw := nr0 rfl
@[simp] theorem tf_w_right_w_least : t_w_right.fn 1008 = f_w_least := nr0 rfl
@[simp] theorem tf_w_right_w_other_room : t_w_right.fn 1006 = f_w_other_room := nr0 rfl
@[simp] theorem tf_w_right_w_packed_right : t_w_right.fn 1009 = f_w_packed_right := nr0 rfl
@[simp] theorem tf_w_right_w_shape : t_w_right.fn 1005 = f_w_shape := nr0 rfl
@[simp] theorem tf_w_right_best_packing : t_w_right.fn 28 = f_best_packing := nr0 rfl
@[simp] theorem tf_w_right_least_boxes : t_w_right.fn 27 = f_least_boxes := nr0 rfl
@[simp] theorem tc_w_right_Goods : t_w_right.cls "Goods" = some c_w_right_Goods := by show (if ("Goods" : Str) = "Goods" then some c_w_right_Goods else (base "Goods")) = _; rw [if_pos rfl]
/-! law -/
def l_law_1 : CSs := .cons (.cond (.nt (.val (.frz (.own 1010 (.cons (.own 1001 (.cons (.frz (.own 1000 (.cons (.var 0) (.cons (.var 1) (.nil))) (.nil) [.arg 0, .arg 1])) (.nil)) (.nil) [.arg 0]) (.nil)) (.nil) [.arg 0])))) (.cons (.rt (.con (.bl false)))
    (.nil)) (.nil))
    (.nil)
def b_law : CSs := .cons (.forS (.nm 1) (.rng (.bcall .max (.cons (.con (.int 2)) (.cons (.bcall .min (.cons (.bcall .len (.cons (.var 0) (.nil))) (.cons (.con (.int 5)) (.nil)))) (.nil))))) l_law_1)
    (.cons (.rt (.con (.bl true)))
    (.nil))
def t_law : Tab := ⟨fun i => match i with | 1000 => f_w_cell | 1001 => f_w_pool | 1010 => f_w_right | _ => fun _ => fail, base, 0⟩
def f_law : FM := runDef t_law 2 b_law
@[simp] theorem tf_law_w_cell : t_law.fn 1000 = f_w_cell := nr0 rfl
@[simp] theorem tf_law_w_pool : t_law.fn 1001 = f_w_pool := nr0 rfl
@[simp] theorem tf_law_w_right : t_law.fn 1010 = f_w_right := nr0 rfl
end K
end
section
set_option Elab.async false
set_option linter.all false
set_option maxRecDepth 100000
set_option maxHeartbeats 0
namespace K
open PySem PySem.Spec PyProof.Rows L2 DL
theorem base_names : NamesIn base NAMES := names_if (by decide +kernel) (names_if (by decide +kernel) (names_if (by decide +kernel) (names_if (by decide +kernel) (names_if (by decide +kernel) (names_if (by decide +kernel) (names_nil))))))
def top (i : Nat) : Stmt := PySem.Challenge.pw_shutboxes_k19_best_packings_that_fit.main.body.getD i (.Pass ⟨0, 0, 0, 0⟩)
/-- what the top has left -/
structure Txt (K : PySem.W.Frag) (mg : Str → Option Value) : Prop where
  blt : Blt mg
  c_MOST_ROOM : ∃ t, mg "MOST_ROOM" = some (.int 60 t)
  c_MOST_KINDS : ∃ t, mg "MOST_KINDS" = some (.int 6 t)
  c_MOST_ITEMS : ∃ t, mg "MOST_ITEMS" = some (.int 2000 t)
  c_MOST_TRIED : ∃ t, mg "MOST_TRIED" = some (.int 14 t)
  c_LETTERS : ∃ t, mg "LETTERS" = some (.str "abcdefghijklmnopqrstuvwxyz" t)
  c_DIGITS : ∃ t, mg "DIGITS" = some (.str "0123456789" t)
  c_MOST_SIGNS : ∃ t, mg "MOST_SIGNS" = some (.int 8 t)
  f_w_cell : FunAt K mg "_law_cell" (top 39)
  f_w_pool : FunAt K mg "_law_pool" (top 40)
  f_is_integer : FunAt K mg "is_integer" (top 18)
  f_is_name : FunAt K mg "is_name" (top 19)
  f_is_kind : FunAt K mg "is_kind" (top 22)
  f_check_kinds : FunAt K mg "check_kinds" (top 23)
  f_w_draw : FunAt K mg "_law_draw" (top 41)
  f_w_states : FunAt K mg "_law_states" (top 46)
  f_w_least : FunAt K mg "_law_least" (top 47)
  f_w_other_room : FunAt K mg "_law_other_room" (top 45)
  f_w_packed_right : FunAt K mg "_law_packed_right" (top 48)
  f_w_word : FunAt K mg "_law_word" (top 42)
  f_w_tags : FunAt K mg "_law_tags" (top 43)
  f_w_shape : FunAt K mg "_law_shape" (top 44)
  f_check_goods : FunAt K mg "check_goods" (top 26)
  f_check_row : FunAt K mg "check_row" (top 28)
  f_room_of : FunAt K mg "room_of" (top 27)
  f_checked_room : FunAt K mg "checked_room" (top 34)
  f_counts_of : FunAt K mg "counts_of" (top 35)
  f_less_one : FunAt K mg "less_one" (top 31)
  f_counts_up_to : FunAt K mg "counts_up_to" (top 30)
  f_put_into_last : FunAt K mg "put_into_last" (top 32)
  f_packings_of : FunAt K mg "packings_of" (top 33)
  f_best_packing : FunKAt K mg "best_packing" (top 37) [("room", .non)]
  f_least_boxes : FunKAt K mg "least_boxes" (top 36) [("room", .non)]
  f_w_right : FunAt K mg "_law_right" (top 49)
  f_law : FunAt K mg "law" (top 50)
  z_Reach : mg "Reach" = none
  z_Lane : mg "Lane" = none
  z_Packer : mg "Packer" = none
  z_Pairs : mg "Pairs" = none
  z_Shares : mg "Shares" = none
  k_Goods : ClassAt K mg "Goods" ["space", "pairs"] ["bool", "int", "str", "tuple"]
  isi_Goods : ∀ C, mg "Goods" = some (.ref C) → IsiAt K C
  m_Goods_ddinitdd : InitAt K mg "Goods" "Goods.__init__" (inClass (top 25) 0)
  m_Goods_names : PropAt K mg "Goods" "names" "Goods.names" (inClass (top 25) 4)
  m_Goods_sizes : PropAt K mg "Goods" "sizes" "Goods.sizes" (inClass (top 25) 5)
  m_Goods_room : PropAt K mg "Goods" "room" "Goods.room" (inClass (top 25) 2)
theorem Txt.at_Goods {K : PySem.W.Frag} {mg : Str → Option Value} (L : Txt K mg) : ∃ C, mg "Goods" = some (.ref C) := let ⟨C, h, _⟩ := L.k_Goods; ⟨C, h⟩
theorem insB_bool {K : PySem.W.Frag} {mg : Str → Option Value} (L : Txt K mg) : InsB K mg NAMES "bool" :=
  List.forall_mem_cons.mpr ⟨insB_at L.k_Goods (by decide), List.forall_mem_cons.mpr ⟨absent_at L.z_Reach, List.forall_mem_cons.mpr ⟨absent_at L.z_Lane, List.forall_mem_cons.mpr ⟨absent_at L.z_Packer, List.forall_mem_cons.mpr ⟨absent_at L.z_Pairs, List.forall_mem_cons.mpr ⟨absent_at L.z_Shares, fun _ h => nomatch h⟩⟩⟩⟩⟩⟩
theorem insB_int {K : PySem.W.Frag} {mg : Str → Option Value} (L : Txt K mg) : InsB K mg NAMES "int" :=
  List.forall_mem_cons.mpr ⟨insB_at L.k_Goods (by decide), List.forall_mem_cons.mpr ⟨absent_at L.z_Reach, List.forall_mem_cons.mpr ⟨absent_at L.z_Lane, List.forall_mem_cons.mpr ⟨absent_at L.z_Packer, List.forall_mem_cons.mpr ⟨absent_at L.z_Pairs, List.forall_mem_cons.mpr ⟨absent_at L.z_Shares, fun _ h => nomatch h⟩⟩⟩⟩⟩⟩
theorem insB_str {K : PySem.W.Frag} {mg : Str → Option Value} (L : Txt K mg) : InsB K mg NAMES "str" :=
  List.forall_mem_cons.mpr ⟨insB_at L.k_Goods (by decide), List.forall_mem_cons.mpr ⟨absent_at L.z_Reach, List.forall_mem_cons.mpr ⟨absent_at L.z_Lane, List.forall_mem_cons.mpr ⟨absent_at L.z_Packer, List.forall_mem_cons.mpr ⟨absent_at L.z_Pairs, List.forall_mem_cons.mpr ⟨absent_at L.z_Shares, fun _ h => nomatch h⟩⟩⟩⟩⟩⟩
theorem insB_tuple {K : PySem.W.Frag} {mg : Str → Option Value} (L : Txt K mg) : InsB K mg NAMES "tuple" :=
  List.forall_mem_cons.mpr ⟨insB_at L.k_Goods (by decide), List.forall_mem_cons.mpr ⟨absent_at L.z_Reach, List.forall_mem_cons.mpr ⟨absent_at L.z_Lane, List.forall_mem_cons.mpr ⟨absent_at L.z_Packer, List.forall_mem_cons.mpr ⟨absent_at L.z_Pairs, List.forall_mem_cons.mpr ⟨absent_at L.z_Shares, fun _ h => nomatch h⟩⟩⟩⟩⟩⟩
theorem insC_Goods {K : PySem.W.Frag} {mg : Str → Option Value} (L : Txt K mg) : InsC K mg NAMES "Goods" :=
  List.forall_mem_cons.mpr ⟨insC_self L.k_Goods L.isi_Goods, List.forall_mem_cons.mpr ⟨absent_at L.z_Reach, List.forall_mem_cons.mpr ⟨absent_at L.z_Lane, List.forall_mem_cons.mpr ⟨absent_at L.z_Packer, List.forall_mem_cons.mpr ⟨absent_at L.z_Pairs, List.forall_mem_cons.mpr ⟨absent_at L.z_Shares, fun _ h => nomatch h⟩⟩⟩⟩⟩⟩
theorem aob_names {X : Cx} (L : Txt X.K X.mg) : AttrAll X base "names" :=
  attr_if (attrC_fld L.k_Goods rfl rfl) (attr_if (attrC_absent L.z_Reach) (attr_if (attrC_absent L.z_Lane) (attr_if (attrC_absent L.z_Packer) (attr_if (attrC_absent L.z_Pairs) (attr_if (attrC_absent L.z_Shares) (attr_nil))))))
theorem aob_pairs {X : Cx} (L : Txt X.K X.mg) : AttrAll X base "pairs" :=
  attr_if (attrC_fld L.k_Goods rfl rfl) (attr_if (attrC_absent L.z_Reach) (attr_if (attrC_absent L.z_Lane) (attr_if (attrC_absent L.z_Packer) (attr_if (attrC_absent L.z_Pairs) (attr_if (attrC_absent L.z_Shares) (attr_nil))))))
theorem aob_room {X : Cx} (L : Txt X.K X.mg) : AttrAll X base "room" :=
  attr_if (attrC_fld L.k_Goods rfl rfl) (attr_if (attrC_absent L.z_Reach) (attr_if (attrC_absent L.z_Lane) (attr_if (attrC_absent L.z_Packer) (attr_if (attrC_absent L.z_Pairs) (attr_if (attrC_absent L.z_Shares) (attr_nil))))))
theorem aob_sizes {X : Cx} (L : Txt X.K X.mg) : AttrAll X base "sizes" :=
  attr_if (attrC_fld L.k_Goods rfl rfl) (attr_if (attrC_absent L.z_Reach) (attr_if (attrC_absent L.z_Lane) (attr_if (attrC_absent L.z_Packer) (attr_if (attrC_absent L.z_Pairs) (attr_if (attrC_absent L.z_Shares) (attr_nil))))))
theorem aob_space {X : Cx} (L : Txt X.K X.mg) : AttrAll X base "space" :=
  attr_if (attrC_fld L.k_Goods rfl rfl) (attr_if (attrC_absent L.z_Reach) (attr_if (attrC_absent L.z_Lane) (attr_if (attrC_absent L.z_Packer) (attr_if (attrC_absent L.z_Pairs) (attr_if (attrC_absent L.z_Shares) (attr_nil))))))
theorem sob_pairs {X : Cx} (L : Txt X.K X.mg) : SetAll X base "pairs" :=
  set_if (setC_fld L.k_Goods rfl) (set_if (setC_absent L.z_Reach) (set_if (setC_absent L.z_Lane) (set_if (setC_absent L.z_Packer) (set_if (setC_absent L.z_Pairs) (set_if (setC_absent L.z_Shares) (set_nil))))))
theorem sob_space {X : Cx} (L : Txt X.K X.mg) : SetAll X base "space" :=
  set_if (setC_fld L.k_Goods rfl) (set_if (setC_absent L.z_Reach) (set_if (setC_absent L.z_Lane) (set_if (setC_absent L.z_Packer) (set_if (setC_absent L.z_Pairs) (set_if (setC_absent L.z_Shares) (set_nil))))))
/-! _law_cell -/
abbrev N_w_cell : List Str := ["_law_cells", "_law_k", "_law_mixed", "_law_cell_here"]
theorem sc_w_cell : FnScope N_w_cell ["_law_cells", "_law_k"] (defScope (top 39)) := ⟨rfl, rfl, rfl, by decide +kernel, rfl, by decide +kernel, by decide +kernel⟩
theorem wk_w_cell {P : Program} {w : World} {K : PySem.W.Frag} {mg : Str → Option Value} {base' : Heap} (L : Txt K mg) : Walk P w K mg base' N_w_cell (top 39) 0 t_w_cell b_w_cell := by
  intro qual f cdv A outer s H hr
  have C : Cok (cxOf L2.CX0 P w K mg base' N_w_cell qual (defScope (top 39)) f cdv A outer s H fun _ _ _ => False).nox 0 := ⟨rfl, sc_w_cell.nd, hr⟩
  exact dss_cons (ds_if (t_cmp C .lt (e_v 1) (e_len C L.blt (as_cons (e_v 0) (as_nil)))) (dss_cons (ds_rt (e_intc C L.blt (as_cons (e_ix (e_v 0) (e_v 1)) (as_nil))))
    (dss_nil)) (dss_nil))
    (dss_cons (s_asg (g_nm C 2) (e_bin .add (e_bin .add (e_int) (e_bin .mul (e_bin .mul (e_int) (e_v 1)) (e_v 1))) (e_bin .mul (e_int) (e_v 1))))
    (dss_cons (s_for C PassesOwn.never (g_nm C 3) (i_of (e_frz (e_slice (e_v 0) (o_no) (o_yes (e_int))))) (dss_cons (s_asg (g_nm C 2) (e_bin .mod (e_intc C L.blt (as_cons (e_bin .add (e_bin .mul (e_v 2) (e_int)) (e_intc C L.blt (as_cons (e_v 3) (as_nil)))) (as_nil))) (e_int)))
    (dss_nil)))
    (dss_cons (ds_rt (e_bin .mod (e_intc C L.blt (as_cons (e_bin .add (e_bin .mul (e_v 2) (e_v 2)) (e_bin .mul (e_int) (e_v 1))) (as_nil))) (e_int)))
    (dss_nil))))
theorem ok_w_cell {P : Program} {w : World} {K : PySem.W.Frag} {mg : Str → Option Value} {base' : Heap} (L : Txt K mg) : Callee P w K mg base' "_law_cell" 1 f_w_cell [(2, [], [.arg 0, .arg 1])] :=
  callee_of L.f_w_cell sc_w_cell rfl (wk_w_cell L) (fun qual kV doc pm an cdv ct => List.forall_mem_cons.mpr ⟨BindG.args [0, 1] rfl fun us ws h1 h2 => match us, ws, h1, h2 with | [a0, a1], [], _, _ => rfl, fun _ h => nomatch h⟩)
/-! _law_pool -/
abbrev N_w_pool : List Str := ["_law_cell_here", "_law_digits"]
theorem sc_w_pool : FnScope N_w_pool ["_law_cell_here"] (defScope (top 40)) := ⟨rfl, rfl, rfl, by decide +kernel, rfl, by decide +kernel, by decide +kernel⟩
theorem wk_w_pool {P : Program} {w : World} {K : PySem.W.Frag} {mg : Str → Option Value} {base' : Heap} (L : Txt K mg) : Walk P w K mg base' N_w_pool (top 40) 0 t_w_pool b_w_pool := by
  intro qual f cdv A outer s H hr
  have C : Cok (cxOf L2.CX0 P w K mg base' N_w_pool qual (defScope (top 40)) f cdv A outer s H fun _ _ _ => False).nox 0 := ⟨rfl, sc_w_pool.nd, hr⟩
  exact dss_cons (s_asg (g_nm C 1) (e_ite (t_bool (w_or (t_cmp C .lt (e_v 0) (e_int)) (w_or1 (t_cmp C .ge (e_v 0) (e_bin .pow (e_int) (e_int)))))) (e_abs C L.blt (as_cons (e_v 0) (as_nil))) (e_int)))
    (dss_cons (ds_rt (e_lst (as_cons (e_bin .mod (e_intc C L.blt (as_cons (e_v 0) (as_nil))) (e_int)) (as_cons (e_v 1) (as_cons (e_int) (as_nil))))))
    (dss_nil))
theorem ok_w_pool {P : Program} {w : World} {K : PySem.W.Frag} {mg : Str → Option Value} {base' : Heap} (L : Txt K mg) : Callee P w K mg base' "_law_pool" 1 f_w_pool [(1, [], [.arg 0])] :=
  callee_of L.f_w_pool sc_w_pool rfl (wk_w_pool L) (fun qual kV doc pm an cdv ct => List.forall_mem_cons.mpr ⟨BindG.args [0] rfl fun us ws h1 h2 => match us, ws, h1, h2 with | [a0], [], _, _ => rfl, fun _ h => nomatch h⟩)
/-! is_integer -/
abbrev N_is_integer : List Str := ["value"]
theorem sc_is_integer : FnScope N_is_integer ["value"] (defScope (top 18)) := ⟨rfl, rfl, rfl, by decide +kernel, rfl, by decide +kernel, by decide +kernel⟩
theorem nm_is_integer : NamesIn t_is_integer.cls NAMES := base_names
theorem is_is_integer_bool {X : Cx} (L : Txt X.K X.mg) : IsiB X t_is_integer "bool" := isiB_of nm_is_integer (insB_bool L) (by decide +kernel) (by decide +kernel) (by decide +kernel) (by decide +kernel) (by decide +kernel) (by decide +kernel)
theorem is_is_integer_int {X : Cx} (L : Txt X.K X.mg) : IsiB X t_is_integer "int" := isiB_of nm_is_integer (insB_int L) (by decide +kernel) (by decide +kernel) (by decide +kernel) (by decide +kernel) (by decide +kernel) (by decide +kernel)
theorem wk_is_integer {P : Program} {w : World} {K : PySem.W.Frag} {mg : Str → Option Value} {base' : Heap} (L : Txt K mg) : Walk P w K mg base' N_is_integer (top 18) 0 t_is_integer b_is_integer := by
  intro qual f cdv A outer s H hr
  have C : Cok (cxOf L2.CX0 P w K mg base' N_is_integer qual (defScope (top 18)) f cdv A outer s H fun _ _ _ => False).nox 0 := ⟨rfl, sc_is_integer.nd, hr⟩
  exact dss_cons (ds_rt (e_and (e_isiB L.blt (is_is_integer_int L) L.blt.int (e_v 0)) (e_and1 (e_not (e_isiB L.blt (is_is_integer_bool L) L.blt.bool (e_v 0))))))
    (dss_nil)
theorem ok_is_integer {P : Program} {w : World} {K : PySem.W.Frag} {mg : Str → Option Value} {base' : Heap} (L : Txt K mg) : Callee P w K mg base' "is_integer" 1 f_is_integer [(1, [], [.arg 0])] :=
  callee_of L.f_is_integer sc_is_integer rfl (wk_is_integer L) (fun qual kV doc pm an cdv ct => List.forall_mem_cons.mpr ⟨BindG.args [0] rfl fun us ws h1 h2 => match us, ws, h1, h2 with | [a0], [], _, _ => rfl, fun _ h => nomatch h⟩)
/-! is_name -/
abbrev N_is_name : List Str := ["value", "sign"]
theorem sc_is_name : FnScope N_is_name ["value"] (defScope (top 19)) := ⟨rfl, rfl, rfl, by decide +kernel, rfl, by decide +kernel, by decide +kernel⟩
theorem nm_is_name : NamesIn t_is_name.cls NAMES := base_names
theorem is_is_name_str {X : Cx} (L : Txt X.K X.mg) : IsiB X t_is_name "str" := isiB_of nm_is_name (insB_str L) (by decide +kernel) (by decide +kernel) (by decide +kernel) (by decide +kernel) (by decide +kernel) (by decide +kernel)
theorem wk_is_name {P : Program} {w : World} {K : PySem.W.Frag} {mg : Str → Option Value} {base' : Heap} (L : Txt K mg) : Walk P w K mg base' N_is_name (top 19) 0 t_is_name b_is_name := by
  intro qual f cdv A outer s H hr
  have C : Cok (cxOf L2.CX0 P w K mg base' N_is_name qual (defScope (top 19)) f cdv A outer s H fun _ _ _ => False).nox 0 := ⟨rfl, sc_is_name.nd, hr⟩
  exact dss_cons (ds_if (t_bool (w_or (t_not (t_val (e_isiB L.blt (is_is_name_str L) L.blt.str (e_v 0)))) (w_or (t_not (t_chain C .le .le (e_int) (e_len C L.blt (as_cons (e_v 0) (as_nil))) (e_gint L.c_MOST_SIGNS))) (w_or1 (t_cmp C .notIn (e_ix (e_v 0) (e_int)) (e_gstr L.c_LETTERS)))))) (dss_cons (ds_rt (e_bl))
    (dss_nil)) (dss_nil))
    (dss_cons (ds_rt (e_frz (e_all C L.blt (as_cons (e_comp [("sign", 1)] C (i_of (e_v 0)) (blkOk_by (N := N_is_name) (sc := defScope (top 19)) (by decide +kernel)) (fun _ _ _ _ _ => g_nm (C).blk 1) (fun _ _ _ _ _ => dts_nil) (fun _ _ _ _ _ => e_or (e_cmp (C).blk .inO (e_v 1) (e_gstr L.c_LETTERS)) (e_or1 (e_cmp (C).blk .inO (e_v 1) (e_gstr L.c_DIGITS))))) (as_nil)))))
    (dss_nil))
theorem ok_is_name {P : Program} {w : World} {K : PySem.W.Frag} {mg : Str → Option Value} {base' : Heap} (L : Txt K mg) : Callee P w K mg base' "is_name" 1 f_is_name [(1, [], [.arg 0])] :=
  callee_of L.f_is_name sc_is_name rfl (wk_is_name L) (fun qual kV doc pm an cdv ct => List.forall_mem_cons.mpr ⟨BindG.args [0] rfl fun us ws h1 h2 => match us, ws, h1, h2 with | [a0], [], _, _ => rfl, fun _ h => nomatch h⟩)
/-! is_kind -/
abbrev N_is_kind : List Str := ["value", "room"]
theorem sc_is_kind : FnScope N_is_kind ["value", "room"] (defScope (top 22)) := ⟨rfl, rfl, rfl, by decide +kernel, rfl, by decide +kernel, by decide +kernel⟩
theorem nm_is_kind : NamesIn t_is_kind.cls NAMES := base_names
theorem is_is_kind_tuple {X : Cx} (L : Txt X.K X.mg) : IsiB X t_is_kind "tuple" := isiB_of nm_is_kind (insB_tuple L) (by decide +kernel) (by decide +kernel) (by decide +kernel) (by decide +kernel) (by decide +kernel) (by decide +kernel)
theorem wk_is_kind {P : Program} {w : World} {K : PySem.W.Frag} {mg : Str → Option Value} {base' : Heap} (L : Txt K mg) : Walk P w K mg base' N_is_kind (top 22) 1 t_is_kind b_is_kind := by
  intro qual f cdv A outer s H hr
  have C : Cok (cxOf L2.CX0 P w K mg base' N_is_kind qual (defScope (top 22)) f cdv A outer s H fun _ _ _ => False).nox 1 := ⟨rfl, sc_is_kind.nd, hr⟩
  exact dss_cons (ds_if (t_bool (w_or (t_not (t_val (e_isiB L.blt (is_is_kind_tuple L) L.blt.tuple (e_v 0)))) (w_or (t_cmp C .ne (e_len C L.blt (as_cons (e_v 0) (as_nil))) (e_int)) (w_or1 (t_not (t_val (e_frz (e_own 1 (ok_is_name L) (.head _) C (as_cons (e_ix (e_v 0) (e_int)) (as_nil)) (k_nil))))))))) (dss_cons (ds_rt (e_bl))
    (dss_nil)) (dss_nil))
    (dss_cons (ds_rt (e_and (e_frz (e_own 0 (ok_is_integer L) (.head _) C (as_cons (e_ix (e_v 0) (e_int)) (as_nil)) (k_nil))) (e_and1 (e_chain C .le .le (e_int) (e_ix (e_v 0) (e_int)) (e_v 1)))))
    (dss_nil))
theorem ok_is_kind {P : Program} {w : World} {K : PySem.W.Frag} {mg : Str → Option Value} {base' : Heap} (L : Txt K mg) : Callee P w K mg base' "is_kind" 2 f_is_kind [(2, [], [.arg 0, .arg 1])] :=
  callee_of L.f_is_kind sc_is_kind rfl (wk_is_kind L) (fun qual kV doc pm an cdv ct => List.forall_mem_cons.mpr ⟨BindG.args [0, 1] rfl fun us ws h1 h2 => match us, ws, h1, h2 with | [a0, a1], [], _, _ => rfl, fun _ h => nomatch h⟩)
/-! check_kinds -/
abbrev N_check_kinds : List Str := ["kinds", "room", "index", "kind"]
theorem sc_check_kinds : FnScope N_check_kinds ["kinds", "room"] (defScope (top 23)) := ⟨rfl, rfl, rfl, by decide +kernel, rfl, by decide +kernel, by decide +kernel⟩
theorem nm_check_kinds : NamesIn t_check_kinds.cls NAMES := base_names
theorem is_check_kinds_tuple {X : Cx} (L : Txt X.K X.mg) : IsiB X t_check_kinds "tuple" := isiB_of nm_check_kinds (insB_tuple L) (by decide +kernel) (by decide +kernel) (by decide +kernel) (by decide +kernel) (by decide +kernel) (by decide +kernel)
theorem wk_check_kinds {P : Program} {w : World} {K : PySem.W.Frag} {mg : Str → Option Value} {base' : Heap} (L : Txt K mg) : Walk P w K mg base' N_check_kinds (top 23) 2 t_check_kinds b_check_kinds := by
  intro qual f cdv A outer s H hr
  have C : Cok (cxOf L2.CX0 P w K mg base' N_check_kinds qual (defScope (top 23)) f cdv A outer s H fun _ _ _ => False).nox 2 := ⟨rfl, sc_check_kinds.nd, hr⟩
  exact dss_cons (ds_if (t_bool (w_or (t_not (t_val (e_isiB L.blt (is_check_kinds_tuple L) L.blt.tuple (e_v 0)))) (w_or1 (t_cmp C .eq (e_len C L.blt (as_cons (e_v 0) (as_nil))) (e_int))))) (dss_cons (ds_stuck)
    (dss_nil)) (dss_nil))
    (dss_cons (s_for C PassesOwn.never (g_tup C (gs_cons (g_nm C 2) (gs_cons (g_nm C 3) (gs_nil)))) (i_enum L.blt (e_v 0)) (dss_cons (ds_if (t_bool (w_or (t_cmp C .eq (e_v 2) (e_gint L.c_MOST_KINDS)) (w_or1 (t_not (t_val (e_frz (e_own 5 (ok_is_kind L) (.head _) C (as_cons (e_v 3) (as_cons (e_v 1) (as_nil))) (k_nil)))))))) (dss_cons (ds_stuck)
    (dss_nil)) (dss_nil))
    (dss_cons (ds_if (t_bool (w_and (t_cmp C .gt (e_v 2) (e_int)) (w_and1 (t_cmp C .ge (e_ix (e_ix (e_v 0) (e_bin .sub (e_v 2) (e_int))) (e_int)) (e_ix (e_v 3) (e_int)))))) (dss_cons (ds_stuck)
    (dss_nil)) (dss_nil))
    (dss_nil))))
    (dss_nil))
theorem ok_check_kinds {P : Program} {w : World} {K : PySem.W.Frag} {mg : Str → Option Value} {base' : Heap} (L : Txt K mg) : Callee P w K mg base' "check_kinds" 3 f_check_kinds [(2, [], [.arg 0, .arg 1])] :=
  callee_of L.f_check_kinds sc_check_kinds rfl (wk_check_kinds L) (fun qual kV doc pm an cdv ct => List.forall_mem_cons.mpr ⟨BindG.args [0, 1] rfl fun us ws h1 h2 => match us, ws, h1, h2 with | [a0, a1], [], _, _ => rfl, fun _ h => nomatch h⟩)
/-! __init__ -/
abbrev N_Goods_ddinitdd : List Str := ["self", "room", "kinds"]
theorem sc_Goods_ddinitdd : FnScope N_Goods_ddinitdd ["self", "room", "kinds"] (defScope (inClass (top 25) 0)) := ⟨rfl, rfl, rfl, by decide +kernel, rfl, by decide +kernel, by decide +kernel⟩
theorem so_Goods_ddinitdd_pairs {X : Cx} (L : Txt X.K X.mg) : SetOk X t_Goods_ddinitdd "pairs" :=
  sob_pairs L
theorem so_Goods_ddinitdd_space {X : Cx} (L : Txt X.K X.mg) : SetOk X t_Goods_ddinitdd "space" :=
  sob_space L
theorem wk_Goods_ddinitdd {P : Program} {w : World} {K : PySem.W.Frag} {mg : Str → Option Value} {base' : Heap} (L : Txt K mg) : Walk P w K mg base' N_Goods_ddinitdd (inClass (top 25) 0) 3 t_Goods_ddinitdd b_Goods_ddinitdd := by
  intro qual f cdv A outer s H hr
  have C : Cok (cxOf L2.CX0 P w K mg base' N_Goods_ddinitdd qual (defScope (inClass (top 25) 0)) f cdv A outer s H fun _ _ _ => False).nox 3 := ⟨rfl, sc_Goods_ddinitdd.nd, hr⟩
  exact dss_cons (ds_if (t_bool (w_or (t_not (t_val (e_frz (e_own 0 (ok_is_integer L) (.head _) C (as_cons (e_v 1) (as_nil)) (k_nil))))) (w_or1 (t_not (t_chain C .le .le (e_int) (e_v 1) (e_gint L.c_MOST_ROOM)))))) (dss_cons (ds_stuck)
    (dss_nil)) (dss_nil))
    (dss_cons (s_ex (e_frz (e_own 6 (ok_check_kinds L) (.head _) C (as_cons (e_v 2) (as_cons (e_v 1) (as_nil))) (k_nil))))
    (dss_cons (s_asg (g_tup C (gs_cons (g_att (so_Goods_ddinitdd_space L) (e_v 0)) (gs_cons (g_att (so_Goods_ddinitdd_pairs L) (e_v 0)) (gs_nil)))) (e_tup (as_cons (e_v 1) (as_cons (e_v 2) (as_nil)))))
    (dss_nil)))
theorem ok_Goods_ddinitdd {P : Program} {w : World} {K : PySem.W.Frag} {mg : Str → Option Value} {base' : Heap} (L : Txt K mg) : Maker P w K mg base' "Goods" 4 f_Goods_ddinitdd [(2, [], [.arg 0, .arg 1])] :=
  maker_of L.m_Goods_ddinitdd sc_Goods_ddinitdd rfl (wk_Goods_ddinitdd L) (fun qual kV doc pm an cdv ct => List.forall_mem_cons.mpr ⟨BindG.args [0, 1, 2] rfl fun us ws h1 h2 => match us, ws, h1, h2 with | [a0, a1, a2], [], _, _ => rfl, fun _ h => nomatch h⟩)
/-! _law_draw -/
abbrev N_w_draw : List Str := ["_law_pool_here", "_law_many", "_law_mixed", "_law_digit"]
theorem sc_w_draw : FnScope N_w_draw ["_law_pool_here", "_law_many"] (defScope (top 41)) := ⟨rfl, rfl, rfl, by decide +kernel, rfl, by decide +kernel, by decide +kernel⟩
theorem wk_w_draw {P : Program} {w : World} {K : PySem.W.Frag} {mg : Str → Option Value} {base' : Heap} (L : Txt K mg) : Walk P w K mg base' N_w_draw (top 41) 0 t_w_draw b_w_draw := by
  intro qual f cdv A outer s H hr
  have C : Cok (cxOf L2.CX0 P w K mg base' N_w_draw qual (defScope (top 41)) f cdv A outer s H fun _ _ _ => False).nox 0 := ⟨rfl, sc_w_draw.nd, hr⟩
  exact dss_cons (s_asg (g_sub (e_v 0) (e_int)) (e_bin .add (e_ix (e_v 0) (e_int)) (e_int)))
    (dss_cons (s_asg (g_nm C 2) (e_bin .mod (e_intc C L.blt (as_cons (e_bin .add (e_bin .add (e_bin .mul (e_ix (e_v 0) (e_int)) (e_int)) (e_bin .mul (e_ix (e_v 0) (e_int)) (e_int))) (e_int)) (as_nil))) (e_int)))
    (dss_cons (s_asg (g_sub (e_v 0) (e_int)) (e_bin .mod (e_intc C L.blt (as_cons (e_bin .add (e_bin .mul (e_v 2) (e_v 2)) (e_bin .mul (e_int) (e_ix (e_v 0) (e_int)))) (as_nil))) (e_int)))
    (dss_cons (ds_if (t_cmp C .gt (e_ix (e_v 0) (e_int)) (e_int)) (dss_cons (s_asg (g_nm C 3) (e_bin .mod (e_intc C L.blt (as_cons (e_ix (e_v 0) (e_int)) (as_nil))) (e_v 1)))
    (dss_cons (s_asg (g_sub (e_v 0) (e_int)) (e_bin .fdiv (e_ix (e_v 0) (e_int)) (e_v 1)))
    (dss_cons (ds_rt (e_v 3))
    (dss_nil)))) (dss_nil))
    (dss_cons (ds_rt (e_bin .mod (e_intc C L.blt (as_cons (e_bin .fdiv (e_ix (e_v 0) (e_int)) (e_int)) (as_nil))) (e_v 1)))
    (dss_nil)))))
theorem ok_w_draw {P : Program} {w : World} {K : PySem.W.Frag} {mg : Str → Option Value} {base' : Heap} (L : Txt K mg) : Callee P w K mg base' "_law_draw" 1 f_w_draw [(2, [], [.arg 0, .arg 1])] :=
  callee_of L.f_w_draw sc_w_draw rfl (wk_w_draw L) (fun qual kV doc pm an cdv ct => List.forall_mem_cons.mpr ⟨BindG.args [0, 1] rfl fun us ws h1 h2 => match us, ws, h1, h2 with | [a0, a1], [], _, _ => rfl, fun _ h => nomatch h⟩)
/-! _law_states -/
abbrev N_w_states : List Str := ["_law_counts", "_law_found", "_law_many", "_law_longer", "_law_head", "_law_k"]
theorem sc_w_states : FnScope N_w_states ["_law_counts"] (defScope (top 46)) := ⟨rfl, rfl, rfl, by decide +kernel, rfl, by decide +kernel, by decide +kernel⟩
theorem wk_w_states {P : Program} {w : World} {K : PySem.W.Frag} {mg : Str → Option Value} {base' : Heap} (L : Txt K mg) : Walk P w K mg base' N_w_states (top 46) 0 t_w_states b_w_states := by
  intro qual f cdv A outer s H hr
  have C : Cok (cxOf L2.CX0 P w K mg base' N_w_states qual (defScope (top 46)) f cdv A outer s H fun _ _ _ => False).nox 0 := ⟨rfl, sc_w_states.nd, hr⟩
  exact dss_cons (s_asg (g_nm C 1) (e_frz (e_lst (as_cons (e_tup (as_nil)) (as_nil)))))
    (dss_cons (s_for C PassesOwn.never (g_nm C 2) (i_of (e_v 0)) (dss_cons (s_asg (g_nm C 3) (e_frz (e_lst (as_nil))))
    (dss_cons (s_for C PassesOwn.never (g_nm C 4) (i_of (e_v 1)) (dss_cons (s_asg (g_nm C 3) (e_frz (e_bin .add (e_v 3) (e_comp [("_law_k", 5)] C (i_rng L.blt (e_bin .add (e_v 2) (e_int))) (blkOk_by (N := N_w_states) (sc := defScope (top 46)) (by decide +kernel)) (fun _ _ _ _ _ => g_nm (C).blk 5) (fun _ _ _ _ _ => dts_nil) (fun _ _ _ _ _ => e_bin .add (e_v 4) (e_tup (as_cons (e_v 5) (as_nil))))))))
    (dss_nil)))
    (dss_cons (s_asg (g_nm C 1) (e_v 3))
    (dss_nil)))))
    (dss_cons (ds_rt (e_v 1))
    (dss_nil)))
theorem ok_w_states {P : Program} {w : World} {K : PySem.W.Frag} {mg : Str → Option Value} {base' : Heap} (L : Txt K mg) : Callee P w K mg base' "_law_states" 1 f_w_states [(1, [], [.arg 0])] :=
  callee_of L.f_w_states sc_w_states rfl (wk_w_states L) (fun qual kV doc pm an cdv ct => List.forall_mem_cons.mpr ⟨BindG.args [0] rfl fun us ws h1 h2 => match us, ws, h1, h2 with | [a0], [], _, _ => rfl, fun _ h => nomatch h⟩)
/-! _law_least -/
abbrev N_w_least : List Str := ["_law_bulks", "_law_counts", "_law_wide", "_law_sets", "_law_state", "_law_best", "_law_low", "_law_part", "_law_rest_here", "_law_many", "_law_bulk", "_law_have"]
theorem sc_w_least : FnScope N_w_least ["_law_bulks", "_law_counts", "_law_wide"] (defScope (top 47)) := ⟨rfl, rfl, rfl, by decide +kernel, rfl, by decide +kernel, by decide +kernel⟩
theorem wk_w_least {P : Program} {w : World} {K : PySem.W.Frag} {mg : Str → Option Value} {base' : Heap} (L : Txt K mg) : Walk P w K mg base' N_w_least (top 47) 1 t_w_least b_w_least := by
  intro qual f cdv A outer s H hr
  have C : Cok (cxOf L2.CX0 P w K mg base' N_w_least qual (defScope (top 47)) f cdv A outer s H fun _ _ _ => False).nox 1 := ⟨rfl, sc_w_least.nd, hr⟩
  exact dss_cons (s_asg (g_nm C 3) (e_lst (as_nil)))
    (dss_cons (s_for C PassesOwn.never (g_nm C 4) (i_of (e_frz (e_own 1007 (ok_w_states L) (.head _) C (as_cons (e_v 1) (as_nil)) (k_nil)))) (dss_cons (ds_if (t_chain C .lt .le (e_int) (e_frz (e_sum C L.blt (as_cons (e_comp [("_law_many", 9), ("_law_bulk", 10)] C (i_zipM L.blt (e_v 4) (e_v 0)) (blkOk_by (N := N_w_least) (sc := defScope (top 47)) (by decide +kernel)) (fun _ _ _ _ _ => g_tup (C).blk (gs_cons (g_nm (C).blk 9) (gs_cons (g_nm (C).blk 10) (gs_nil)))) (fun _ _ _ _ _ => dts_nil) (fun _ _ _ _ _ => e_bin .mul (e_v 9) (e_v 10))) (as_nil)))) (e_v 2)) (dss_cons (s_ex (e_append (e_v 3) (as_cons (e_v 4) (as_nil))))
    (dss_nil)) (dss_nil))
    (dss_nil)))
    (dss_cons (s_asg (g_nm C 5) (e_dnew))
    (dss_cons (s_for C PassesOwn.never (g_nm C 4) (i_of (e_frz (e_own 1007 (ok_w_states L) (.head _) C (as_cons (e_v 1) (as_nil)) (k_nil)))) (dss_cons (s_asg (g_nm C 6) (e_int))
    (dss_cons (s_for C PassesOwn.never (g_nm C 7) (i_of (e_v 3)) (dss_cons (ds_if (t_val (e_frz (e_all C L.blt (as_cons (e_comp [("_law_many", 9), ("_law_have", 11)] C (i_zip L.blt (e_v 7) (e_v 4)) (blkOk_by (N := N_w_least) (sc := defScope (top 47)) (by decide +kernel)) (fun _ _ _ _ _ => g_tup (C).blk (gs_cons (g_nm (C).blk 9) (gs_cons (g_nm (C).blk 11) (gs_nil)))) (fun _ _ _ _ _ => dts_nil) (fun _ _ _ _ _ => e_cmp (C).blk .le (e_v 9) (e_v 11))) (as_nil))))) (dss_cons (s_asg (g_nm C 8) (e_bin .add (e_dget C.sur.room (e_v 5) (e_frz (e_tuplec C L.blt (as_cons (e_comp [("_law_many", 9), ("_law_have", 11)] C (i_zip L.blt (e_v 7) (e_v 4)) (blkOk_by (N := N_w_least) (sc := defScope (top 47)) (by decide +kernel)) (fun _ _ _ _ _ => g_tup (C).blk (gs_cons (g_nm (C).blk 9) (gs_cons (g_nm (C).blk 11) (gs_nil)))) (fun _ _ _ _ _ => dts_nil) (fun _ _ _ _ _ => e_bin .sub (e_v 11) (e_v 9))) (as_nil))))) (e_int)))
    (dss_cons (s_asg (g_nm C 6) (e_ite (t_cmp C .eq (e_v 6) (e_int)) (e_v 8) (e_min C L.blt (as_cons (e_v 6) (as_cons (e_v 8) (as_nil))))))
    (dss_nil))) (dss_nil))
    (dss_nil)))
    (dss_cons (s_asg (g_dsub C.sur.room (e_v 5) (e_v 4)) (e_v 6))
    (dss_nil)))))
    (dss_cons (ds_rt (e_dget C.sur.room (e_v 5) (e_tuplec C L.blt (as_cons (e_v 1) (as_nil)))))
    (dss_nil)))))
theorem ok_w_least {P : Program} {w : World} {K : PySem.W.Frag} {mg : Str → Option Value} {base' : Heap} (L : Txt K mg) : Callee P w K mg base' "_law_least" 2 f_w_least [(3, [], [.arg 0, .arg 1, .arg 2])] :=
  callee_of L.f_w_least sc_w_least rfl (wk_w_least L) (fun qual kV doc pm an cdv ct => List.forall_mem_cons.mpr ⟨BindG.args [0, 1, 2] rfl fun us ws h1 h2 => match us, ws, h1, h2 with | [a0, a1, a2], [], _, _ => rfl, fun _ h => nomatch h⟩)
/-! _law_other_room -/
abbrev N_w_other_room : List Str := ["_law_pool_here", "_law_wide", "_law_bulks", "_law_low", "_law_some"]
theorem sc_w_other_room : FnScope N_w_other_room ["_law_pool_here", "_law_wide", "_law_bulks"] (defScope (top 45)) := ⟨rfl, rfl, rfl, by decide +kernel, rfl, by decide +kernel, by decide +kernel⟩
theorem wk_w_other_room {P : Program} {w : World} {K : PySem.W.Frag} {mg : Str → Option Value} {base' : Heap} (L : Txt K mg) : Walk P w K mg base' N_w_other_room (top 45) 1 t_w_other_room b_w_other_room := by
  intro qual f cdv A outer s H hr
  have C : Cok (cxOf L2.CX0 P w K mg base' N_w_other_room qual (defScope (top 45)) f cdv A outer s H fun _ _ _ => False).nox 1 := ⟨rfl, sc_w_other_room.nd, hr⟩
  exact dss_cons (s_asg (g_nm C 3) (e_max C L.blt (as_cons (e_v 2) (as_nil))))
    (dss_cons (s_asg (g_nm C 4) (e_frz (e_lst (as_cons (e_non) (as_cons (e_non) (as_cons (e_v 1) (as_cons (e_v 3) (as_cons (e_frz (e_min C L.blt (as_cons (e_bin .add (e_v 3) (e_frz (e_own 1002 (ok_w_draw L) (.head _) C (as_cons (e_v 0) (as_cons (e_int) (as_nil))) (k_nil)))) (as_cons (e_int) (as_nil))))) (as_cons (e_bin .add (e_v 3) (e_frz (e_own 1002 (ok_w_draw L) (.head _) C (as_cons (e_v 0) (as_cons (e_bin .sub (e_int) (e_v 3)) (as_nil))) (k_nil)))) (as_cons (e_int) (as_nil)))))))))))
    (dss_cons (ds_rt (e_ix (e_v 4) (e_frz (e_own 1002 (ok_w_draw L) (.head _) C (as_cons (e_v 0) (as_cons (e_int) (as_nil))) (k_nil)))))
    (dss_nil)))
theorem ok_w_other_room {P : Program} {w : World} {K : PySem.W.Frag} {mg : Str → Option Value} {base' : Heap} (L : Txt K mg) : Callee P w K mg base' "_law_other_room" 2 f_w_other_room [(3, [], [.arg 0, .arg 1, .arg 2])] :=
  callee_of L.f_w_other_room sc_w_other_room rfl (wk_w_other_room L) (fun qual kV doc pm an cdv ct => List.forall_mem_cons.mpr ⟨BindG.args [0, 1, 2] rfl fun us ws h1 h2 => match us, ws, h1, h2 with | [a0, a1, a2], [], _, _ => rfl, fun _ h => nomatch h⟩)
/-! _law_packed_right -/
abbrev N_w_packed_right : List Str := ["_law_told", "_law_bulks", "_law_wide", "_law_many", "_law_found", "_law_part", "_law_at"]
theorem sc_w_packed_right : FnScope N_w_packed_right ["_law_told", "_law_bulks", "_law_wide", "_law_many"] (defScope (top 48)) := ⟨rfl, rfl, rfl, by decide +kernel, rfl, by decide +kernel, by decide +kernel⟩
theorem nm_w_packed_right : NamesIn t_w_packed_right.cls NAMES := base_names
theorem is_w_packed_right_tuple {X : Cx} (L : Txt X.K X.mg) : IsiB X t_w_packed_right "tuple" := isiB_of nm_w_packed_right (insB_tuple L) (by decide +kernel) (by decide +kernel) (by decide +kernel) (by decide +kernel) (by decide +kernel) (by decide +kernel)
theorem wk_w_packed_right {P : Program} {w : World} {K : PySem.W.Frag} {mg : Str → Option Value} {base' : Heap} (L : Txt K mg) : Walk P w K mg base' N_w_packed_right (top 48) 0 t_w_packed_right b_w_packed_right := by
  intro qual f cdv A outer s H hr
  have C : Cok (cxOf L2.CX0 P w K mg base' N_w_packed_right qual (defScope (top 48)) f cdv A outer s H fun _ _ _ => False).nox 0 := ⟨rfl, sc_w_packed_right.nd, hr⟩
  exact dss_cons (ds_if (t_bool (w_or (t_not (t_val (e_isiB L.blt (is_w_packed_right_tuple L) L.blt.tuple (e_v 0)))) (w_or1 (t_cmp C .ne (e_len C L.blt (as_cons (e_v 0) (as_nil))) (e_v 3))))) (dss_cons (ds_rt (e_bl))
    (dss_nil)) (dss_nil))
    (dss_cons (s_asg (g_nm C 4) (e_frz (e_lst (as_nil))))
    (dss_cons (s_for C PassesOwn.never (g_nm C 5) (i_of (e_v 0)) (dss_cons (ds_if (t_bool (w_or (t_not (t_val (e_isiB L.blt (is_w_packed_right_tuple L) L.blt.tuple (e_v 5)))) (w_or (t_cmp C .eq (e_v 5) (e_tup (as_nil))) (w_or1 (t_cmp C .ne (e_repr C L.blt (as_cons (e_v 5) (as_nil))) (e_frz (e_repr C L.blt (as_cons (e_frz (e_tuplec C L.blt (as_cons (e_sorted C L.blt (as_cons (e_v 5) (as_nil))) (as_nil)))) (as_nil))))))))) (dss_cons (ds_rt (e_bl))
    (dss_nil)) (dss_nil))
    (dss_cons (s_asg (g_nm C 4) (e_frz (e_bin .add (e_v 4) (e_listc C L.blt (as_cons (e_v 5) (as_nil))))))
    (dss_cons (ds_if (t_bool (w_or (t_cmp C .ne (e_v 4) (e_comp [("_law_at", 6)] C (i_of (e_v 4)) (blkOk_by (N := N_w_packed_right) (sc := defScope (top 48)) (by decide +kernel)) (fun _ _ _ _ _ => g_nm (C).blk 6) (fun _ _ _ _ _ => dts_one (t_inRng L.blt (e_v 6) (e_len (C).blk L.blt (as_cons (e_v 1) (as_nil))))) (fun _ _ _ _ _ => e_v 6))) (w_or1 (t_cmp C .gt (e_frz (e_sum C L.blt (as_cons (e_comp [("_law_at", 6)] C (i_of (e_v 5)) (blkOk_by (N := N_w_packed_right) (sc := defScope (top 48)) (by decide +kernel)) (fun _ _ _ _ _ => g_nm (C).blk 6) (fun _ _ _ _ _ => dts_nil) (fun _ _ _ _ _ => e_ix (e_v 1) (e_v 6))) (as_nil)))) (e_v 2))))) (dss_cons (ds_rt (e_bl))
    (dss_nil)) (dss_nil))
    (dss_nil)))))
    (dss_cons (ds_rt (e_cmp C .eq (e_frz (e_repr C L.blt (as_cons (e_sorted C L.blt (as_cons (e_v 4) (as_nil))) (as_nil)))) (e_frz (e_repr C L.blt (as_cons (e_lrng C L.blt (e_len C L.blt (as_cons (e_v 1) (as_nil)))) (as_nil))))))
    (dss_nil))))
theorem ok_w_packed_right {P : Program} {w : World} {K : PySem.W.Frag} {mg : Str → Option Value} {base' : Heap} (L : Txt K mg) : Callee P w K mg base' "_law_packed_right" 1 f_w_packed_right [(4, [], [.arg 0, .arg 1, .arg 2, .arg 3])] :=
  callee_of L.f_w_packed_right sc_w_packed_right rfl (wk_w_packed_right L) (fun qual kV doc pm an cdv ct => List.forall_mem_cons.mpr ⟨BindG.args [0, 1, 2, 3] rfl fun us ws h1 h2 => match us, ws, h1, h2 with | [a0, a1, a2, a3], [], _, _ => rfl, fun _ h => nomatch h⟩)
/-! _law_word -/
abbrev N_w_word : List Str := ["_law_pool_here", "_law_some", "_law_signs", "_law_word_here", "_law_k"]
theorem sc_w_word : FnScope N_w_word ["_law_pool_here"] (defScope (top 42)) := ⟨rfl, rfl, rfl, by decide +kernel, rfl, by decide +kernel, by decide +kernel⟩
theorem wk_w_word {P : Program} {w : World} {K : PySem.W.Frag} {mg : Str → Option Value} {base' : Heap} (L : Txt K mg) : Walk P w K mg base' N_w_word (top 42) 1 t_w_word b_w_word := by
  intro qual f cdv A outer s H hr
  have C : Cok (cxOf L2.CX0 P w K mg base' N_w_word qual (defScope (top 42)) f cdv A outer s H fun _ _ _ => False).nox 1 := ⟨rfl, sc_w_word.nd, hr⟩
  exact dss_cons (s_asg (g_nm C 1) (e_frz (e_lst (as_cons (e_str) (as_cons (e_str) (as_cons (e_str) (as_cons (e_str) (as_cons (e_str) (as_cons (e_str) (as_cons (e_str) (as_cons (e_str) (as_cons (e_str) (as_cons (e_str) (as_nil))))))))))))))
    (dss_cons (ds_if (t_cmp C .eq (e_frz (e_own 1002 (ok_w_draw L) (.head _) C (as_cons (e_v 0) (as_cons (e_int) (as_nil))) (k_nil))) (e_int)) (dss_cons (ds_rt (e_ix (e_v 1) (e_frz (e_own 1002 (ok_w_draw L) (.head _) C (as_cons (e_v 0) (as_cons (e_int) (as_nil))) (k_nil)))))
    (dss_nil)) (dss_nil))
    (dss_cons (s_asg (g_nm C 2) (e_str))
    (dss_cons (s_asg (g_nm C 3) (e_ix (e_v 2) (e_frz (e_own 1002 (ok_w_draw L) (.head _) C (as_cons (e_v 0) (as_cons (e_int) (as_nil))) (k_nil)))))
    (dss_cons (s_for C PassesOwn.never (g_nm C 4) (i_rng L.blt (e_frz (e_own 1002 (ok_w_draw L) (.head _) C (as_cons (e_v 0) (as_cons (e_int) (as_nil))) (k_nil)))) (dss_cons (s_asg (g_nm C 3) (e_bin .add (e_v 3) (e_ix (e_v 2) (e_frz (e_own 1002 (ok_w_draw L) (.head _) C (as_cons (e_v 0) (as_cons (e_int) (as_nil))) (k_nil))))))
    (dss_nil)))
    (dss_cons (ds_rt (e_v 3))
    (dss_nil))))))
theorem ok_w_word {P : Program} {w : World} {K : PySem.W.Frag} {mg : Str → Option Value} {base' : Heap} (L : Txt K mg) : Callee P w K mg base' "_law_word" 2 f_w_word [(1, [], [.arg 0])] :=
  callee_of L.f_w_word sc_w_word rfl (wk_w_word L) (fun qual kV doc pm an cdv ct => List.forall_mem_cons.mpr ⟨BindG.args [0] rfl fun us ws h1 h2 => match us, ws, h1, h2 with | [a0], [], _, _ => rfl, fun _ h => nomatch h⟩)
/-! _law_tags -/
abbrev N_w_tags : List Str := ["_law_pool_here", "_law_many", "_law_found", "_law_k", "_law_word_here", "_law_sign"]
theorem sc_w_tags : FnScope N_w_tags ["_law_pool_here", "_law_many"] (defScope (top 43)) := ⟨rfl, rfl, rfl, by decide +kernel, rfl, by decide +kernel, by decide +kernel⟩
theorem wk_w_tags {P : Program} {w : World} {K : PySem.W.Frag} {mg : Str → Option Value} {base' : Heap} (L : Txt K mg) : Walk P w K mg base' N_w_tags (top 43) 2 t_w_tags b_w_tags := by
  intro qual f cdv A outer s H hr
  have C : Cok (cxOf L2.CX0 P w K mg base' N_w_tags qual (defScope (top 43)) f cdv A outer s H fun _ _ _ => False).nox 2 := ⟨rfl, sc_w_tags.nd, hr⟩
  exact dss_cons (s_asg (g_nm C 2) (e_lst (as_nil)))
    (dss_cons (s_for C PassesOwn.never (g_nm C 3) (i_rng L.blt (e_v 1)) (dss_cons (s_asg (g_nm C 4) (e_frz (e_own 1003 (ok_w_word L) (.head _) C (as_cons (e_v 0) (as_nil)) (k_nil))))
    (dss_cons (s_for C PassesOwn.never (g_nm C 5) (i_of (e_str)) (dss_cons (ds_if (t_cmp C .inO (e_v 4) (e_v 2)) (dss_cons (s_asg (g_nm C 4) (e_bin .add (e_slice (e_v 4) (o_no) (o_yes (e_int))) (e_v 5)))
    (dss_nil)) (dss_nil))
    (dss_nil)))
    (dss_cons (s_ex (e_append (e_v 2) (as_cons (e_v 4) (as_nil))))
    (dss_nil)))))
    (dss_cons (ds_rt (e_sorted C L.blt (as_cons (e_v 2) (as_nil))))
    (dss_nil)))
theorem ok_w_tags {P : Program} {w : World} {K : PySem.W.Frag} {mg : Str → Option Value} {base' : Heap} (L : Txt K mg) : Callee P w K mg base' "_law_tags" 3 f_w_tags [(2, [], [.arg 0, .arg 1])] :=
  callee_of L.f_w_tags sc_w_tags rfl (wk_w_tags L) (fun qual kV doc pm an cdv ct => List.forall_mem_cons.mpr ⟨BindG.args [0, 1] rfl fun us ws h1 h2 => match us, ws, h1, h2 with | [a0, a1], [], _, _ => rfl, fun _ h => nomatch h⟩)
/-! _law_shape -/
abbrev N_w_shape : List Str := ["_law_pool_here", "_law_wide", "_law_tags_here", "_law_top", "_law_tag"]
theorem sc_w_shape : FnScope N_w_shape ["_law_pool_here"] (defScope (top 44)) := ⟨rfl, rfl, rfl, by decide +kernel, rfl, by decide +kernel, by decide +kernel⟩
theorem wk_w_shape {P : Program} {w : World} {K : PySem.W.Frag} {mg : Str → Option Value} {base' : Heap} (L : Txt K mg) : Walk P w K mg base' N_w_shape (top 44) 3 t_w_shape b_w_shape := by
  intro qual f cdv A outer s H hr
  have C : Cok (cxOf L2.CX0 P w K mg base' N_w_shape qual (defScope (top 44)) f cdv A outer s H fun _ _ _ => False).nox 3 := ⟨rfl, sc_w_shape.nd, hr⟩
  exact dss_cons (s_asg (g_nm C 1) (e_bin .add (e_int) (e_frz (e_own 1002 (ok_w_draw L) (.head _) C (as_cons (e_v 0) (as_cons (e_int) (as_nil))) (k_nil)))))
    (dss_cons (s_asg (g_nm C 2) (e_frz (e_own 1004 (ok_w_tags L) (.head _) C (as_cons (e_v 0) (as_cons (e_bin .add (e_int) (e_frz (e_own 1002 (ok_w_draw L) (.head _) C (as_cons (e_v 0) (as_cons (e_int) (as_nil))) (k_nil)))) (as_nil))) (k_nil))))
    (dss_cons (s_asg (g_nm C 3) (e_frz (e_ix (e_lst (as_cons (e_v 1) (as_cons (e_bin .add (e_int) (e_bin .fdiv (e_v 1) (e_int))) (as_cons (e_int) (as_nil))))) (e_frz (e_own 1002 (ok_w_draw L) (.head _) C (as_cons (e_v 0) (as_cons (e_int) (as_nil))) (k_nil))))))
    (dss_cons (ds_rt (e_tup (as_cons (e_v 1) (as_cons (e_frz (e_tuplec C L.blt (as_cons (e_comp [("_law_tag", 4)] C (i_of (e_v 2)) (blkOk_by (N := N_w_shape) (sc := defScope (top 44)) (by decide +kernel)) (fun _ _ _ _ _ => g_nm (C).blk 4) (fun _ _ _ _ _ => dts_nil) (fun _ _ _ _ _ => e_tup (as_cons (e_v 4) (as_cons (e_bin .add (e_int) (e_frz (e_own 1002 (ok_w_draw L) (.head _) (C).blk (as_cons (e_v 0) (as_cons (e_v 3) (as_nil))) (k_nil)))) (as_nil))))) (as_nil)))) (as_nil)))))
    (dss_nil))))
theorem ok_w_shape {P : Program} {w : World} {K : PySem.W.Frag} {mg : Str → Option Value} {base' : Heap} (L : Txt K mg) : Callee P w K mg base' "_law_shape" 4 f_w_shape [(1, [], [.arg 0])] :=
  callee_of L.f_w_shape sc_w_shape rfl (wk_w_shape L) (fun qual kV doc pm an cdv ct => List.forall_mem_cons.mpr ⟨BindG.args [0] rfl fun us ws h1 h2 => match us, ws, h1, h2 with | [a0], [], _, _ => rfl, fun _ h => nomatch h⟩)
/-! names -/
abbrev N_Goods_names : List Str := ["self", "size", "name"]
theorem sc_Goods_names : FnScope N_Goods_names ["self"] (defScope (inClass (top 25) 4)) := ⟨rfl, rfl, rfl, by decide +kernel, rfl, by decide +kernel, by decide +kernel⟩
theorem ao_Goods_names_pairs {X : Cx} {j : Nat} (L : Txt X.K X.mg) (C : Cok X j) : AttrOk X t_Goods_names "pairs" :=
  aob_pairs L
theorem wk_Goods_names {P : Program} {w : World} {K : PySem.W.Frag} {mg : Str → Option Value} {base' : Heap} (L : Txt K mg) : Walk P w K mg base' N_Goods_names (inClass (top 25) 4) 0 t_Goods_names b_Goods_names := by
  intro qual f cdv A outer s H hr
  have C : Cok (cxOf L2.CX0 P w K mg base' N_Goods_names qual (defScope (inClass (top 25) 4)) f cdv A outer s H fun _ _ _ => False).nox 0 := ⟨rfl, sc_Goods_names.nd, hr⟩
  exact dss_cons (ds_rt (e_frz (e_tuplec C L.blt (as_cons (e_comp [("name", 2), ("size", 1)] C (i_of (e_attr (ao_Goods_names_pairs L C) (e_v 0))) (blkOk_by (N := N_Goods_names) (sc := defScope (inClass (top 25) 4)) (by decide +kernel)) (fun _ _ _ _ _ => g_tup (C).blk (gs_cons (g_nm (C).blk 2) (gs_cons (g_nm (C).blk 1) (gs_nil)))) (fun _ _ _ _ _ => dts_nil) (fun _ _ _ _ _ => e_v 2)) (as_nil)))))
    (dss_nil)
theorem ok_Goods_names {P : Program} {w : World} {K : PySem.W.Frag} {mg : Str → Option Value} {base' : Heap} (L : Txt K mg) : Propo P w K mg base' "Goods" "names" 1 f_Goods_names [(0, [], [])] :=
  propo_of L.m_Goods_names sc_Goods_names rfl (wk_Goods_names L) (fun qual kV doc pm an cdv ct => List.forall_mem_cons.mpr ⟨BindG.args [0] rfl fun us ws h1 h2 => match us, ws, h1, h2 with | [a0], [], _, _ => rfl, fun _ h => nomatch h⟩)
/-! sizes -/
abbrev N_Goods_sizes : List Str := ["self", "size", "name"]
theorem sc_Goods_sizes : FnScope N_Goods_sizes ["self"] (defScope (inClass (top 25) 5)) := ⟨rfl, rfl, rfl, by decide +kernel, rfl, by decide +kernel, by decide +kernel⟩
theorem ao_Goods_sizes_pairs {X : Cx} {j : Nat} (L : Txt X.K X.mg) (C : Cok X j) : AttrOk X t_Goods_sizes "pairs" :=
  aob_pairs L
theorem wk_Goods_sizes {P : Program} {w : World} {K : PySem.W.Frag} {mg : Str → Option Value} {base' : Heap} (L : Txt K mg) : Walk P w K mg base' N_Goods_sizes (inClass (top 25) 5) 0 t_Goods_sizes b_Goods_sizes := by
  intro qual f cdv A outer s H hr
  have C : Cok (cxOf L2.CX0 P w K mg base' N_Goods_sizes qual (defScope (inClass (top 25) 5)) f cdv A outer s H fun _ _ _ => False).nox 0 := ⟨rfl, sc_Goods_sizes.nd, hr⟩
  exact dss_cons (ds_rt (e_frz (e_tuplec C L.blt (as_cons (e_comp [("name", 2), ("size", 1)] C (i_of (e_attr (ao_Goods_sizes_pairs L C) (e_v 0))) (blkOk_by (N := N_Goods_sizes) (sc := defScope (inClass (top 25) 5)) (by decide +kernel)) (fun _ _ _ _ _ => g_tup (C).blk (gs_cons (g_nm (C).blk 2) (gs_cons (g_nm (C).blk 1) (gs_nil)))) (fun _ _ _ _ _ => dts_nil) (fun _ _ _ _ _ => e_v 1)) (as_nil)))))
    (dss_nil)
theorem ok_Goods_sizes {P : Program} {w : World} {K : PySem.W.Frag} {mg : Str → Option Value} {base' : Heap} (L : Txt K mg) : Propo P w K mg base' "Goods" "sizes" 1 f_Goods_sizes [(0, [], [])] :=
  propo_of L.m_Goods_sizes sc_Goods_sizes rfl (wk_Goods_sizes L) (fun qual kV doc pm an cdv ct => List.forall_mem_cons.mpr ⟨BindG.args [0] rfl fun us ws h1 h2 => match us, ws, h1, h2 with | [a0], [], _, _ => rfl, fun _ h => nomatch h⟩)
/-! check_goods -/
abbrev N_check_goods : List Str := ["goods"]
theorem sc_check_goods : FnScope N_check_goods ["goods"] (defScope (top 26)) := ⟨rfl, rfl, rfl, by decide +kernel, rfl, by decide +kernel, by decide +kernel⟩
theorem nm_check_goods : NamesIn t_check_goods.cls NAMES := base_names
theorem is_check_goods_Goods {X : Cx} (L : Txt X.K X.mg) : ∃ C, IsiC X t_check_goods "Goods" C := isiC_of nm_check_goods (Txt.at_Goods L) (insC_Goods L) L.isi_Goods
theorem wk_check_goods {P : Program} {w : World} {K : PySem.W.Frag} {mg : Str → Option Value} {base' : Heap} (L : Txt K mg) : Walk P w K mg base' N_check_goods (top 26) 0 t_check_goods b_check_goods := by
  intro qual f cdv A outer s H hr
  have C : Cok (cxOf L2.CX0 P w K mg base' N_check_goods qual (defScope (top 26)) f cdv A outer s H fun _ _ _ => False).nox 0 := ⟨rfl, sc_check_goods.nd, hr⟩
  exact dss_cons (ds_if (t_not (t_val (e_isiC2 L.blt (is_check_goods_Goods L) (e_v 0)))) (dss_cons (ds_stuck)
    (dss_nil)) (dss_nil))
    (dss_nil)
theorem ok_check_goods {P : Program} {w : World} {K : PySem.W.Frag} {mg : Str → Option Value} {base' : Heap} (L : Txt K mg) : Callee P w K mg base' "check_goods" 1 f_check_goods [(1, [], [.arg 0])] :=
  callee_of L.f_check_goods sc_check_goods rfl (wk_check_goods L) (fun qual kV doc pm an cdv ct => List.forall_mem_cons.mpr ⟨BindG.args [0] rfl fun us ws h1 h2 => match us, ws, h1, h2 with | [a0], [], _, _ => rfl, fun _ h => nomatch h⟩)
/-! check_row -/
abbrev N_check_row : List Str := ["row", "goods", "names", "index", "name"]
theorem sc_check_row : FnScope N_check_row ["row", "goods"] (defScope (top 28)) := ⟨rfl, rfl, rfl, by decide +kernel, rfl, by decide +kernel, by decide +kernel⟩
theorem nm_check_row : NamesIn t_check_row.cls NAMES := names_if (by decide +kernel) (base_names)
theorem ct_check_row_Goods : t_check_row.cls "Goods" = some c_check_row_Goods := tc_check_row_Goods
theorem ao_check_row_names {X : Cx} {j : Nat} (L : Txt X.K X.mg) (C : Cok X j) (hj : 2 ≤ j := by decide) : AttrOk X t_check_row "names" :=
  attr_if (attrC_prop L.k_Goods (ok_Goods_names (P := X.prog) (w := X.w) (base' := X.base) L) (.head _) (by show (if ("names" : Str) = "names" then some f_Goods_names else (none : Option FM)) = _; rw [if_pos rfl]) (C.sur.mono hj)) (aob_names L)
theorem is_check_row_str {X : Cx} (L : Txt X.K X.mg) : IsiB X t_check_row "str" := isiB_of nm_check_row (insB_str L) (by decide +kernel) (by decide +kernel) (by decide +kernel) (by decide +kernel) (by decide +kernel) (by decide +kernel)
theorem is_check_row_tuple {X : Cx} (L : Txt X.K X.mg) : IsiB X t_check_row "tuple" := isiB_of nm_check_row (insB_tuple L) (by decide +kernel) (by decide +kernel) (by decide +kernel) (by decide +kernel) (by decide +kernel) (by decide +kernel)
theorem wk_check_row {P : Program} {w : World} {K : PySem.W.Frag} {mg : Str → Option Value} {base' : Heap} (L : Txt K mg) : Walk P w K mg base' N_check_row (top 28) 2 t_check_row b_check_row := by
  intro qual f cdv A outer s H hr
  have C : Cok (cxOf L2.CX0 P w K mg base' N_check_row qual (defScope (top 28)) f cdv A outer s H fun _ _ _ => False).nox 2 := ⟨rfl, sc_check_row.nd, hr⟩
  exact dss_cons (ds_if (t_not (t_val (e_isiB L.blt (is_check_row_tuple L) L.blt.tuple (e_v 0)))) (dss_cons (ds_stuck)
    (dss_nil)) (dss_nil))
    (dss_cons (s_asg (g_nm C 2) (e_frz (e_attr (ao_check_row_names L C) (e_v 1))))
    (dss_cons (s_for C PassesOwn.never (g_tup C (gs_cons (g_nm C 3) (gs_cons (g_nm C 4) (gs_nil)))) (i_enum L.blt (e_v 0)) (dss_cons (ds_if (t_bool (w_or (t_cmp C .eq (e_v 3) (e_gint L.c_MOST_ITEMS)) (w_or (t_not (t_val (e_isiB L.blt (is_check_row_str L) L.blt.str (e_v 4)))) (w_or1 (t_cmp C .notIn (e_v 4) (e_v 2)))))) (dss_cons (ds_stuck)
    (dss_nil)) (dss_nil))
    (dss_nil)))
    (dss_nil)))
theorem ok_check_row {P : Program} {w : World} {K : PySem.W.Frag} {mg : Str → Option Value} {base' : Heap} (L : Txt K mg) : Callee P w K mg base' "check_row" 3 f_check_row [(2, [], [.arg 0, .arg 1])] :=
  callee_of L.f_check_row sc_check_row rfl (wk_check_row L) (fun qual kV doc pm an cdv ct => List.forall_mem_cons.mpr ⟨BindG.args [0, 1] rfl fun us ws h1 h2 => match us, ws, h1, h2 with | [a0, a1], [], _, _ => rfl, fun _ h => nomatch h⟩)
/-! room -/
abbrev N_Goods_room : List Str := ["self"]
theorem sc_Goods_room : FnScope N_Goods_room ["self"] (defScope (inClass (top 25) 2)) := ⟨rfl, rfl, rfl, by decide +kernel, rfl, by decide +kernel, by decide +kernel⟩
theorem ao_Goods_room_space {X : Cx} {j : Nat} (L : Txt X.K X.mg) (C : Cok X j) : AttrOk X t_Goods_room "space" :=
  aob_space L
theorem wk_Goods_room {P : Program} {w : World} {K : PySem.W.Frag} {mg : Str → Option Value} {base' : Heap} (L : Txt K mg) : Walk P w K mg base' N_Goods_room (inClass (top 25) 2) 0 t_Goods_room b_Goods_room := by
  intro qual f cdv A outer s H hr
  have C : Cok (cxOf L2.CX0 P w K mg base' N_Goods_room qual (defScope (inClass (top 25) 2)) f cdv A outer s H fun _ _ _ => False).nox 0 := ⟨rfl, sc_Goods_room.nd, hr⟩
  exact dss_cons (ds_rt (e_attr (ao_Goods_room_space L C) (e_v 0)))
    (dss_nil)
theorem ok_Goods_room {P : Program} {w : World} {K : PySem.W.Frag} {mg : Str → Option Value} {base' : Heap} (L : Txt K mg) : Propo P w K mg base' "Goods" "room" 1 f_Goods_room [(0, [], [])] :=
  propo_of L.m_Goods_room sc_Goods_room rfl (wk_Goods_room L) (fun qual kV doc pm an cdv ct => List.forall_mem_cons.mpr ⟨BindG.args [0] rfl fun us ws h1 h2 => match us, ws, h1, h2 with | [a0], [], _, _ => rfl, fun _ h => nomatch h⟩)
/-! room_of -/
abbrev N_room_of : List Str := ["room", "goods"]
theorem sc_room_of : FnScope N_room_of ["room", "goods"] (defScope (top 27)) := ⟨rfl, rfl, rfl, by decide +kernel, rfl, by decide +kernel, by decide +kernel⟩
theorem ct_room_of_Goods : t_room_of.cls "Goods" = some c_room_of_Goods := tc_room_of_Goods
theorem ao_room_of_room {X : Cx} {j : Nat} (L : Txt X.K X.mg) (C : Cok X j) (hj : 2 ≤ j := by decide) : AttrOk X t_room_of "room" :=
  attr_if (attrC_prop L.k_Goods (ok_Goods_room (P := X.prog) (w := X.w) (base' := X.base) L) (.head _) (by show (if ("room" : Str) = "room" then some f_Goods_room else if ("room" : Str) = "sizes" then some f_Goods_sizes else (none : Option FM)) = _; rw [if_pos rfl]) (C.sur.mono hj)) (aob_room L)
theorem ao_room_of_sizes {X : Cx} {j : Nat} (L : Txt X.K X.mg) (C : Cok X j) (hj : 2 ≤ j := by decide) : AttrOk X t_room_of "sizes" :=
  attr_if (attrC_prop L.k_Goods (ok_Goods_sizes (P := X.prog) (w := X.w) (base' := X.base) L) (.head _) (by show (if ("sizes" : Str) = "room" then some f_Goods_room else if ("sizes" : Str) = "sizes" then some f_Goods_sizes else (none : Option FM)) = _; rw [if_neg (by decide +kernel)]; rw [if_pos rfl]) (C.sur.mono hj)) (aob_sizes L)
theorem wk_room_of {P : Program} {w : World} {K : PySem.W.Frag} {mg : Str → Option Value} {base' : Heap} (L : Txt K mg) : Walk P w K mg base' N_room_of (top 27) 2 t_room_of b_room_of := by
  intro qual f cdv A outer s H hr
  have C : Cok (cxOf L2.CX0 P w K mg base' N_room_of qual (defScope (top 27)) f cdv A outer s H fun _ _ _ => False).nox 2 := ⟨rfl, sc_room_of.nd, hr⟩
  exact dss_cons (ds_if (t_cmp C .isO (e_v 0) (e_non)) (dss_cons (ds_rt (e_frz (e_attr (ao_room_of_room L C) (e_v 1))))
    (dss_nil)) (dss_nil))
    (dss_cons (ds_if (t_bool (w_or (t_not (t_val (e_frz (e_own 0 (ok_is_integer L) (.head _) C (as_cons (e_v 0) (as_nil)) (k_nil))))) (w_or1 (t_not (t_chain C .le .le (e_frz (e_max C L.blt (as_cons (e_frz (e_attr (ao_room_of_sizes L C) (e_v 1))) (as_nil)))) (e_v 0) (e_gint L.c_MOST_ROOM)))))) (dss_cons (ds_stuck)
    (dss_nil)) (dss_nil))
    (dss_cons (ds_rt (e_v 0))
    (dss_nil)))
theorem ok_room_of {P : Program} {w : World} {K : PySem.W.Frag} {mg : Str → Option Value} {base' : Heap} (L : Txt K mg) : Callee P w K mg base' "room_of" 3 f_room_of [(2, [], [.arg 0, .arg 1])] :=
  callee_of L.f_room_of sc_room_of rfl (wk_room_of L) (fun qual kV doc pm an cdv ct => List.forall_mem_cons.mpr ⟨BindG.args [0, 1] rfl fun us ws h1 h2 => match us, ws, h1, h2 with | [a0, a1], [], _, _ => rfl, fun _ h => nomatch h⟩)
/-! checked_room -/
abbrev N_checked_room : List Str := ["goods", "row", "room", "size"]
theorem sc_checked_room : FnScope N_checked_room ["goods", "row", "room"] (defScope (top 34)) := ⟨rfl, rfl, rfl, by decide +kernel, rfl, by decide +kernel, by decide +kernel⟩
theorem wk_checked_room {P : Program} {w : World} {K : PySem.W.Frag} {mg : Str → Option Value} {base' : Heap} (L : Txt K mg) : Walk P w K mg base' N_checked_room (top 34) 3 t_checked_room b_checked_room := by
  intro qual f cdv A outer s H hr
  have C : Cok (cxOf L2.CX0 P w K mg base' N_checked_room qual (defScope (top 34)) f cdv A outer s H fun _ _ _ => False).nox 3 := ⟨rfl, sc_checked_room.nd, hr⟩
  exact dss_cons (s_ex (e_frz (e_own 18 (ok_check_goods L) (.head _) C (as_cons (e_v 0) (as_nil)) (k_nil))))
    (dss_cons (s_ex (e_frz (e_own 20 (ok_check_row L) (.head _) C (as_cons (e_v 1) (as_cons (e_v 0) (as_nil))) (k_nil))))
    (dss_cons (s_asg (g_nm C 3) (e_frz (e_own 19 (ok_room_of L) (.head _) C (as_cons (e_v 2) (as_cons (e_v 0) (as_nil))) (k_nil))))
    (dss_cons (ds_if (t_cmp C .gt (e_len C L.blt (as_cons (e_v 1) (as_nil))) (e_gint L.c_MOST_TRIED)) (dss_cons (ds_stuck)
    (dss_nil)) (dss_nil))
    (dss_cons (ds_rt (e_v 3))
    (dss_nil)))))
theorem ok_checked_room {P : Program} {w : World} {K : PySem.W.Frag} {mg : Str → Option Value} {base' : Heap} (L : Txt K mg) : Callee P w K mg base' "checked_room" 4 f_checked_room [(3, [], [.arg 0, .arg 1, .arg 2])] :=
  callee_of L.f_checked_room sc_checked_room rfl (wk_checked_room L) (fun qual kV doc pm an cdv ct => List.forall_mem_cons.mpr ⟨BindG.args [0, 1, 2] rfl fun us ws h1 h2 => match us, ws, h1, h2 with | [a0, a1, a2], [], _, _ => rfl, fun _ h => nomatch h⟩)
/-! counts_of -/
abbrev N_counts_of : List Str := ["goods", "row", "name"]
theorem sc_counts_of : FnScope N_counts_of ["goods", "row"] (defScope (top 35)) := ⟨rfl, rfl, rfl, by decide +kernel, rfl, by decide +kernel, by decide +kernel⟩
theorem ct_counts_of_Goods : t_counts_of.cls "Goods" = some c_counts_of_Goods := tc_counts_of_Goods
theorem ao_counts_of_names {X : Cx} {j : Nat} (L : Txt X.K X.mg) (C : Cok X j) (hj : 2 ≤ j := by decide) : AttrOk X t_counts_of "names" :=
  attr_if (attrC_prop L.k_Goods (ok_Goods_names (P := X.prog) (w := X.w) (base' := X.base) L) (.head _) (by show (if ("names" : Str) = "names" then some f_Goods_names else (none : Option FM)) = _; rw [if_pos rfl]) (C.sur.mono hj)) (aob_names L)
theorem wk_counts_of {P : Program} {w : World} {K : PySem.W.Frag} {mg : Str → Option Value} {base' : Heap} (L : Txt K mg) : Walk P w K mg base' N_counts_of (top 35) 2 t_counts_of b_counts_of := by
  intro qual f cdv A outer s H hr
  have C : Cok (cxOf L2.CX0 P w K mg base' N_counts_of qual (defScope (top 35)) f cdv A outer s H fun _ _ _ => False).nox 2 := ⟨rfl, sc_counts_of.nd, hr⟩
  exact dss_cons (ds_rt (e_frz (e_tuplec C L.blt (as_cons (e_comp [("name", 2)] C (i_of (e_frz (e_attr (ao_counts_of_names L C) (e_v 0)))) (blkOk_by (N := N_counts_of) (sc := defScope (top 35)) (by decide +kernel)) (fun _ _ _ _ _ => g_nm (C).blk 2) (fun _ _ _ _ _ => dts_nil) (fun _ _ _ _ _ => e_cnt (e_v 1) (e_v 2))) (as_nil)))))
    (dss_nil)
theorem ok_counts_of {P : Program} {w : World} {K : PySem.W.Frag} {mg : Str → Option Value} {base' : Heap} (L : Txt K mg) : Callee P w K mg base' "counts_of" 3 f_counts_of [(2, [], [.arg 0, .arg 1])] :=
  callee_of L.f_counts_of sc_counts_of rfl (wk_counts_of L) (fun qual kV doc pm an cdv ct => List.forall_mem_cons.mpr ⟨BindG.args [0, 1] rfl fun us ws h1 h2 => match us, ws, h1, h2 with | [a0, a1], [], _, _ => rfl, fun _ h => nomatch h⟩)
/-! less_one -/
abbrev N_less_one : List Str := ["counts", "kind"]
theorem sc_less_one : FnScope N_less_one ["counts", "kind"] (defScope (top 31)) := ⟨rfl, rfl, rfl, by decide +kernel, rfl, by decide +kernel, by decide +kernel⟩
theorem wk_less_one {P : Program} {w : World} {K : PySem.W.Frag} {mg : Str → Option Value} {base' : Heap} (L : Txt K mg) : Walk P w K mg base' N_less_one (top 31) 0 t_less_one b_less_one := by
  intro qual f cdv A outer s H hr
  have C : Cok (cxOf L2.CX0 P w K mg base' N_less_one qual (defScope (top 31)) f cdv A outer s H fun _ _ _ => False).nox 0 := ⟨rfl, sc_less_one.nd, hr⟩
  exact dss_cons (ds_rt (e_tupS (st_star (e_slice (e_v 0) (o_no) (o_yes (e_v 1))) (st_cons (e_bin .sub (e_ix (e_v 0) (e_v 1)) (e_int)) (st_star (e_slice (e_v 0) (o_yes (e_bin .add (e_v 1) (e_int))) (o_no)) (st_nil))))))
    (dss_nil)
theorem ok_less_one {P : Program} {w : World} {K : PySem.W.Frag} {mg : Str → Option Value} {base' : Heap} (L : Txt K mg) : Callee P w K mg base' "less_one" 1 f_less_one [(2, [], [.arg 0, .arg 1])] :=
  callee_of L.f_less_one sc_less_one rfl (wk_less_one L) (fun qual kV doc pm an cdv ct => List.forall_mem_cons.mpr ⟨BindG.args [0, 1] rfl fun us ws h1 h2 => match us, ws, h1, h2 with | [a0, a1], [], _, _ => rfl, fun _ h => nomatch h⟩)
/-! counts_up_to -/
abbrev N_counts_up_to : List Str := ["counts", "found", "many", "last", "head"]
theorem sc_counts_up_to : FnScope N_counts_up_to ["counts"] (defScope (top 30)) := ⟨rfl, rfl, rfl, by decide +kernel, rfl, by decide +kernel, by decide +kernel⟩
theorem wk_counts_up_to {P : Program} {w : World} {K : PySem.W.Frag} {mg : Str → Option Value} {base' : Heap} (L : Txt K mg) : Walk P w K mg base' N_counts_up_to (top 30) 0 t_counts_up_to b_counts_up_to := by
  intro qual f cdv A outer s H hr
  have C : Cok (cxOf L2.CX0 P w K mg base' N_counts_up_to qual (defScope (top 30)) f cdv A outer s H fun _ _ _ => False).nox 0 := ⟨rfl, sc_counts_up_to.nd, hr⟩
  exact dss_cons (s_asg (g_nm C 1) (e_frz (e_lst (as_cons (e_tup (as_nil)) (as_nil)))))
    (dss_cons (s_for C PassesOwn.never (g_nm C 2) (i_of (e_v 0)) (dss_cons (s_frz (s_setLc2 [("head", 4), ("last", 3)] [3] C (i_of (e_v 1)) (blkOk_by (N := N_counts_up_to) (sc := defScope (top 30)) (by decide +kernel)) (fun _ _ _ _ _ => g_nm (C).blk 4) (fun _ _ _ _ _ => dts_nil) (fun _ _ _ _ _ => i_rng L.blt (e_bin .add (e_v 2) (e_int))) (fun _ _ _ _ _ => g_nm (C).blk 3) (fun _ _ _ _ _ => dts_nil) (fun _ _ _ _ _ => e_tupS (st_star (e_v 4) (st_cons (e_v 3) (st_nil)))) (sw_true rfl rfl rfl (by decide +kernel))))
    (dss_nil)))
    (dss_cons (ds_rt (e_v 1))
    (dss_nil)))
theorem ok_counts_up_to {P : Program} {w : World} {K : PySem.W.Frag} {mg : Str → Option Value} {base' : Heap} (L : Txt K mg) : Callee P w K mg base' "counts_up_to" 1 f_counts_up_to [(1, [], [.arg 0])] :=
  callee_of L.f_counts_up_to sc_counts_up_to rfl (wk_counts_up_to L) (fun qual kV doc pm an cdv ct => List.forall_mem_cons.mpr ⟨BindG.args [0] rfl fun us ws h1 h2 => match us, ws, h1, h2 with | [a0], [], _, _ => rfl, fun _ h => nomatch h⟩)
/-! put_into_last -/
abbrev N_put_into_last : List Str := ["packed", "size", "room", "many", "fill"]
theorem sc_put_into_last : FnScope N_put_into_last ["packed", "size", "room"] (defScope (top 32)) := ⟨rfl, rfl, rfl, by decide +kernel, rfl, by decide +kernel, by decide +kernel⟩
theorem wk_put_into_last {P : Program} {w : World} {K : PySem.W.Frag} {mg : Str → Option Value} {base' : Heap} (L : Txt K mg) : Walk P w K mg base' N_put_into_last (top 32) 0 t_put_into_last b_put_into_last := by
  intro qual f cdv A outer s H hr
  have C : Cok (cxOf L2.CX0 P w K mg base' N_put_into_last qual (defScope (top 32)) f cdv A outer s H fun _ _ _ => False).nox 0 := ⟨rfl, sc_put_into_last.nd, hr⟩
  exact dss_cons (s_asg (g_tup C (gs_cons (g_nm C 3) (gs_cons (g_nm C 4) (gs_nil)))) (e_v 0))
    (dss_cons (ds_rt (e_ite (t_cmp C .le (e_bin .add (e_v 4) (e_v 1)) (e_v 2)) (e_tup (as_cons (e_v 3) (as_cons (e_bin .add (e_v 4) (e_v 1)) (as_nil)))) (e_tup (as_cons (e_bin .add (e_v 3) (e_int)) (as_cons (e_v 1) (as_nil))))))
    (dss_nil))
theorem ok_put_into_last {P : Program} {w : World} {K : PySem.W.Frag} {mg : Str → Option Value} {base' : Heap} (L : Txt K mg) : Callee P w K mg base' "put_into_last" 1 f_put_into_last [(3, [], [.arg 0, .arg 1, .arg 2])] :=
  callee_of L.f_put_into_last sc_put_into_last rfl (wk_put_into_last L) (fun qual kV doc pm an cdv ct => List.forall_mem_cons.mpr ⟨BindG.args [0, 1, 2] rfl fun us ws h1 h2 => match us, ws, h1, h2 with | [a0, a1, a2], [], _, _ => rfl, fun _ h => nomatch h⟩)
/-! packings_of -/
abbrev N_packings_of : List Str := ["sizes", "counts", "room", "found", "state", "best", "kind", "size", "packed"]
theorem sc_packings_of : FnScope N_packings_of ["sizes", "counts", "room"] (defScope (top 33)) := ⟨rfl, rfl, rfl, by decide +kernel, rfl, by decide +kernel, by decide +kernel⟩
theorem wk_packings_of {P : Program} {w : World} {K : PySem.W.Frag} {mg : Str → Option Value} {base' : Heap} (L : Txt K mg) : Walk P w K mg base' N_packings_of (top 33) 1 t_packings_of b_packings_of := by
  intro qual f cdv A outer s H hr
  have C : Cok (cxOf L2.CX0 P w K mg base' N_packings_of qual (defScope (top 33)) f cdv A outer s H fun _ _ _ => False).nox 1 := ⟨rfl, sc_packings_of.nd, hr⟩
  exact dss_cons (s_asg (g_nm C 3) (e_dnew))
    (dss_cons (s_for C PassesOwn.never (g_nm C 4) (i_of (e_frz (e_own 21 (ok_counts_up_to L) (.head _) C (as_cons (e_v 1) (as_nil)) (k_nil)))) (dss_cons (s_asg (g_nm C 5) (e_non))
    (dss_cons (s_for C PassesOwn.never (g_tup C (gs_cons (g_nm C 6) (gs_cons (g_nm C 7) (gs_nil)))) (i_enum L.blt (e_v 0)) (dss_cons (ds_if (t_cmp C .gt (e_ix (e_v 4) (e_v 6)) (e_int)) (dss_cons (s_asg (g_nm C 8) (e_frz (e_own 23 (ok_put_into_last L) (.head _) C (as_cons (e_frz (e_slice (e_dget C.sur.room (e_v 3) (e_frz (e_own 22 (ok_less_one L) (.head _) C (as_cons (e_v 4) (as_cons (e_v 6) (as_nil))) (k_nil)))) (o_no) (o_yes (e_int)))) (as_cons (e_v 7) (as_cons (e_v 2) (as_nil)))) (k_nil))))
    (dss_cons (ds_if (t_bool (w_or (t_cmp C .isO (e_v 5) (e_non)) (w_or1 (t_cmp C .lt (e_v 8) (e_slice (e_v 5) (o_no) (o_yes (e_int))))))) (dss_cons (s_asg (g_nm C 5) (e_tupS (st_star (e_v 8) (st_cons (e_v 6) (st_nil)))))
    (dss_nil)) (dss_nil))
    (dss_nil))) (dss_nil))
    (dss_nil)))
    (dss_cons (s_asg (g_dsub C.sur.room (e_v 3) (e_v 4)) (e_ite (t_cmp C .isO (e_v 5) (e_non)) (e_tup (as_cons (e_int) (as_cons (e_v 2) (as_cons (e_non) (as_nil))))) (e_v 5)))
    (dss_nil)))))
    (dss_cons (ds_rt (e_v 3))
    (dss_nil)))
theorem ok_packings_of {P : Program} {w : World} {K : PySem.W.Frag} {mg : Str → Option Value} {base' : Heap} (L : Txt K mg) : Callee P w K mg base' "packings_of" 2 f_packings_of [(3, [], [.arg 0, .arg 1, .arg 2])] :=
  callee_of L.f_packings_of sc_packings_of rfl (wk_packings_of L) (fun qual kV doc pm an cdv ct => List.forall_mem_cons.mpr ⟨BindG.args [0, 1, 2] rfl fun us ws h1 h2 => match us, ws, h1, h2 with | [a0, a1, a2], [], _, _ => rfl, fun _ h => nomatch h⟩)
/-! best_packing -/
abbrev N_best_packing : List Str := ["goods", "row", "room", "size", "state", "found", "order", "kind", "waiting", "packed", "fill", "title", "name", "index", "items"]
theorem sc_best_packing : FnScope N_best_packing ["goods", "row", "room"] (defScope (top 37)) := ⟨rfl, rfl, rfl, by decide +kernel, rfl, by decide +kernel, by decide +kernel⟩
theorem ct_best_packing_Goods : t_best_packing.cls "Goods" = some c_best_packing_Goods := tc_best_packing_Goods
theorem ao_best_packing_names {X : Cx} {j : Nat} (L : Txt X.K X.mg) (C : Cok X j) (hj : 2 ≤ j := by decide) : AttrOk X t_best_packing "names" :=
  attr_if (attrC_prop L.k_Goods (ok_Goods_names (P := X.prog) (w := X.w) (base' := X.base) L) (.head _) (by show (if ("names" : Str) = "names" then some f_Goods_names else if ("names" : Str) = "sizes" then some f_Goods_sizes else (none : Option FM)) = _; rw [if_pos rfl]) (C.sur.mono hj)) (aob_names L)
theorem ao_best_packing_sizes {X : Cx} {j : Nat} (L : Txt X.K X.mg) (C : Cok X j) (hj : 2 ≤ j := by decide) : AttrOk X t_best_packing "sizes" :=
  attr_if (attrC_prop L.k_Goods (ok_Goods_sizes (P := X.prog) (w := X.w) (base' := X.base) L) (.head _) (by show (if ("sizes" : Str) = "names" then some f_Goods_names else if ("sizes" : Str) = "sizes" then some f_Goods_sizes else (none : Option FM)) = _; rw [if_neg (by decide +kernel)]; rw [if_pos rfl]) (C.sur.mono hj)) (aob_sizes L)
theorem wk_best_packing {P : Program} {w : World} {K : PySem.W.Frag} {mg : Str → Option Value} {base' : Heap} (L : Txt K mg) : Walk P w K mg base' N_best_packing (top 37) 4 t_best_packing b_best_packing := by
  intro qual f cdv A outer s H hr
  have C : Cok (cxOf L2.CX0 P w K mg base' N_best_packing qual (defScope (top 37)) f cdv A outer s H fun _ _ _ => False).nox 4 := ⟨rfl, sc_best_packing.nd, hr⟩
  exact dss_cons (s_par C 3 4 (as_cons (e_frz (e_own 25 (ok_checked_room L) (.head _) C (as_cons (e_v 0) (as_cons (e_v 1) (as_cons (e_v 2) (as_nil)))) (k_nil))) (as_cons (e_frz (e_own 26 (ok_counts_of L) (.head _) C (as_cons (e_v 0) (as_cons (e_v 1) (as_nil))) (k_nil))) (as_nil))))
    (dss_cons (s_par C 5 6 (as_cons (e_own 24 (ok_packings_of L) (.head _) C (as_cons (e_frz (e_attr (ao_best_packing_sizes L C) (e_v 0))) (as_cons (e_v 4) (as_cons (e_v 3) (as_nil)))) (k_nil)) (as_cons (e_lst (as_nil)) (as_nil))))
    (dss_cons (s_while PassesOwn.never (t_cmp C .isNot (e_ix (e_dget C.sur.room (e_v 5) (e_v 4)) (e_int)) (e_non)) (dss_cons (s_asg (g_nm C 7) (e_ix (e_dget C.sur.room (e_v 5) (e_v 4)) (e_int)))
    (dss_cons (s_ex (e_append (e_v 6) (as_cons (e_v 7) (as_nil))))
    (dss_cons (s_asg (g_nm C 4) (e_frz (e_own 22 (ok_less_one L) (.head _) C (as_cons (e_v 4) (as_cons (e_v 7) (as_nil))) (k_nil))))
    (dss_nil)))))
    (dss_cons (s_setLc [("title", 11)] C (i_of (e_frz (e_attr (ao_best_packing_names L C) (e_v 0)))) (blkOk_by (N := N_best_packing) (sc := defScope (top 37)) (by decide +kernel)) (fun _ _ _ _ _ => g_nm (C).blk 11) (fun _ _ _ _ _ => dts_nil) (fun _ _ _ _ _ => e_comp [("index", 13), ("name", 12)] (C).blk (i_enum L.blt (e_v 1)) (blkOk_by (N := N_best_packing) (by exact rfl)) (fun _ _ _ _ _ => g_tup ((C).blk).blk (gs_cons (g_nm ((C).blk).blk 13) (gs_cons (g_nm ((C).blk).blk 12) (gs_nil)))) (fun _ _ _ _ _ => dts_one (t_cmp ((C).blk).blk .eq (e_v 12) (e_v 11))) (fun _ _ _ _ _ => e_v 13)) (sw_true rfl rfl rfl (by decide +kernel)))
    (dss_cons (s_par C 9 10 (as_cons (e_lst (as_nil)) (as_cons (e_v 3) (as_nil))))
    (dss_cons (s_for C PassesOwn.never (g_nm C 7) (i_of (e_frz (e_revS (e_v 6)))) (dss_cons (s_asg (g_nm C 10) (e_bin .add (e_v 10) (e_ix (e_frz (e_attr (ao_best_packing_sizes L C) (e_v 0))) (e_v 7))))
    (dss_cons (ds_if (t_cmp C .gt (e_v 10) (e_v 3)) (dss_cons (s_ex (e_append (e_v 9) (as_cons (e_lst (as_nil)) (as_nil))))
    (dss_cons (s_asg (g_nm C 10) (e_ix (e_frz (e_attr (ao_best_packing_sizes L C) (e_v 0))) (e_v 7)))
    (dss_nil))) (dss_nil))
    (dss_cons (s_ex (e_append (e_ix (e_v 9) (e_neg (e_int))) (as_cons (e_pop0 (e_ix (e_v 8) (e_v 7))) (as_nil))))
    (dss_nil)))))
    (dss_cons (ds_rt (e_frz (e_tuplec C L.blt (as_cons (e_comp [("items", 14)] C (i_of (e_v 9)) (blkOk_by (N := N_best_packing) (sc := defScope (top 37)) (by decide +kernel)) (fun _ _ _ _ _ => g_nm (C).blk 14) (fun _ _ _ _ _ => dts_nil) (fun _ _ _ _ _ => e_frz (e_tuplec (C).blk L.blt (as_cons (e_sorted (C).blk L.blt (as_cons (e_v 14) (as_nil))) (as_nil))))) (as_nil)))))
    (dss_nil)))))))
theorem ok_best_packing {P : Program} {w : World} {K : PySem.W.Frag} {mg : Str → Option Value} {base' : Heap} (L : Txt K mg) : Callee P w K mg base' "best_packing" 5 f_best_packing [(2, ["room"], [.arg 0, .arg 1, .arg 2]), (0, ["room", "goods", "row"], [.arg 1, .arg 2, .arg 0]), (2, [], [.arg 0, .arg 1, .val (.non)])] :=
  callee_ofK L.f_best_packing sc_best_packing rfl (wk_best_packing L) (fun D doc pm an cdv ct hk => (hk ("room", .non) (.head _)).elim fun u0 z0 => List.forall_mem_cons.mpr ⟨BindG.args [0, 1, 2] rfl fun us ws h1 h2 => match us, ws, h1, h2 with | [a0, a1], [b0], _, _ => rfl, List.forall_mem_cons.mpr ⟨BindG.args [1, 2, 0] rfl fun us ws h1 h2 => match us, ws, h1, h2 with | [], [b0, b1, b2], _, _ => rfl, List.forall_mem_cons.mpr ⟨BindG.dflt [u0] ⟨⟨_, rfl, z0.2⟩, trivial⟩ rfl fun M hp KI us ws h1 h2 => match us, ws, h1, h2 with | [a0, a1], [], _, _ => L2.KwChain.looks (D := D) (l := [("room", u0)]) KI (List.forall_mem_cons.mpr ⟨z0.1, fun _ h => nomatch h⟩) ⟨_, _, _, _, _, _, rfl, rfl, rfl⟩, fun _ h => nomatch h⟩⟩⟩)
/-! least_boxes -/
abbrev N_least_boxes : List Str := ["goods", "row", "room", "size", "counts"]
theorem sc_least_boxes : FnScope N_least_boxes ["goods", "row", "room"] (defScope (top 36)) := ⟨rfl, rfl, rfl, by decide +kernel, rfl, by decide +kernel, by decide +kernel⟩
theorem ct_least_boxes_Goods : t_least_boxes.cls "Goods" = some c_least_boxes_Goods := tc_least_boxes_Goods
theorem ao_least_boxes_sizes {X : Cx} {j : Nat} (L : Txt X.K X.mg) (C : Cok X j) (hj : 2 ≤ j := by decide) : AttrOk X t_least_boxes "sizes" :=
  attr_if (attrC_prop L.k_Goods (ok_Goods_sizes (P := X.prog) (w := X.w) (base' := X.base) L) (.head _) (by show (if ("sizes" : Str) = "sizes" then some f_Goods_sizes else (none : Option FM)) = _; rw [if_pos rfl]) (C.sur.mono hj)) (aob_sizes L)
theorem wk_least_boxes {P : Program} {w : World} {K : PySem.W.Frag} {mg : Str → Option Value} {base' : Heap} (L : Txt K mg) : Walk P w K mg base' N_least_boxes (top 36) 4 t_least_boxes b_least_boxes := by
  intro qual f cdv A outer s H hr
  have C : Cok (cxOf L2.CX0 P w K mg base' N_least_boxes qual (defScope (top 36)) f cdv A outer s H fun _ _ _ => False).nox 4 := ⟨rfl, sc_least_boxes.nd, hr⟩
  exact dss_cons (s_par C 3 4 (as_cons (e_frz (e_own 25 (ok_checked_room L) (.head _) C (as_cons (e_v 0) (as_cons (e_v 1) (as_cons (e_v 2) (as_nil)))) (k_nil))) (as_cons (e_frz (e_own 26 (ok_counts_of L) (.head _) C (as_cons (e_v 0) (as_cons (e_v 1) (as_nil))) (k_nil))) (as_nil))))
    (dss_cons (ds_rt (e_ix (e_frz (e_dget C.sur.room (e_own 24 (ok_packings_of L) (.head _) C (as_cons (e_frz (e_attr (ao_least_boxes_sizes L C) (e_v 0))) (as_cons (e_v 4) (as_cons (e_v 3) (as_nil)))) (k_nil)) (e_v 4))) (e_int)))
    (dss_nil))
theorem ok_least_boxes {P : Program} {w : World} {K : PySem.W.Frag} {mg : Str → Option Value} {base' : Heap} (L : Txt K mg) : Callee P w K mg base' "least_boxes" 5 f_least_boxes [(2, ["room"], [.arg 0, .arg 1, .arg 2])] :=
  callee_ofK L.f_least_boxes sc_least_boxes rfl (wk_least_boxes L) (fun D doc pm an cdv ct hk => (hk ("room", .non) (.head _)).elim fun u0 z0 => List.forall_mem_cons.mpr ⟨BindG.args [0, 1, 2] rfl fun us ws h1 h2 => match us, ws, h1, h2 with | [a0, a1], [b0], _, _ => rfl, fun _ h => nomatch h⟩)
/-! _law_right -/
abbrev N_w_right : List Str := ["_law_pool_here", "_law_wide", "_law_pairs", "_law_mine", "_law_bulks", "_law_turn", "_law_items", "_law_far", "_law_high", "_law_some", "_law_due", "_law_own", "_law_told", "_law_pair", "_law_k", "_law_at"]
theorem sc_w_right : FnScope N_w_right ["_law_pool_here"] (defScope (top 49)) := ⟨rfl, rfl, rfl, by decide +kernel, rfl, by decide +kernel, by decide +kernel⟩
theorem ct_w_right_Goods : t_w_right.cls "Goods" = some c_w_right_Goods := tc_w_right_Goods
theorem wk_w_right {P : Program} {w : World} {K : PySem.W.Frag} {mg : Str → Option Value} {base' : Heap} (L : Txt K mg) : Walk P w K mg base' N_w_right (top 49) 5 t_w_right b_w_right := by
  intro qual f cdv A outer s H hr
  have C : Cok (cxOf L2.CX0 P w K mg base' N_w_right qual (defScope (top 49)) f cdv A outer s H fun _ _ _ => False).nox 5 := ⟨rfl, sc_w_right.nd, hr⟩
  exact dss_cons (s_asg (g_tup C (gs_cons (g_nm C 1) (gs_cons (g_nm C 2) (gs_nil)))) (e_frz (e_own 1005 (ok_w_shape L) (.head _) C (as_cons (e_v 0) (as_nil)) (k_nil))))
    (dss_cons (s_asg (g_nm C 2) (e_frz (e_slice (e_v 2) (o_no) (o_yes (e_int)))))
    (dss_cons (s_asg (g_tup C (gs_cons (g_nm C 3) (gs_cons (g_nm C 4) (gs_nil)))) (e_tup (as_cons (e_frz (e_make (ok_Goods_ddinitdd L) (.head _) C (as_cons (e_v 1) (as_cons (e_v 2) (as_nil))) (k_nil) ct_w_right_Goods rfl)) (as_cons (e_frz (e_comp [("_law_pair", 13)] C (i_of (e_v 2)) (blkOk_by (N := N_w_right) (sc := defScope (top 49)) (by decide +kernel)) (fun _ _ _ _ _ => g_nm (C).blk 13) (fun _ _ _ _ _ => dts_nil) (fun _ _ _ _ _ => e_ix (e_v 13) (e_int)))) (as_nil)))))
    (dss_cons (s_for C PassesOwn.never (g_nm C 5) (i_rng L.blt (e_int)) (dss_cons (s_asg (g_nm C 6) (e_frz (e_comp [("_law_k", 14)] C (i_rng L.blt (e_frz (e_own 1002 (ok_w_draw L) (.head _) C (as_cons (e_v 0) (as_cons (e_int) (as_nil))) (k_nil)))) (blkOk_by (N := N_w_right) (sc := defScope (top 49)) (by decide +kernel)) (fun _ _ _ _ _ => g_nm (C).blk 14) (fun _ _ _ _ _ => dts_nil) (fun _ _ _ _ _ => e_frz (e_own 1002 (ok_w_draw L) (.head _) (C).blk (as_cons (e_v 0) (as_cons (e_len (C).blk L.blt (as_cons (e_v 2) (as_nil))) (as_nil))) (k_nil))))))
    (dss_cons (s_asg (g_nm C 7) (e_frz (e_own 1006 (ok_w_other_room L) (.head _) C (as_cons (e_v 0) (as_cons (e_v 1) (as_cons (e_v 4) (as_nil)))) (k_nil))))
    (dss_cons (s_par C 8 9 (as_cons (e_ite (t_cmp C .isO (e_v 7) (e_non)) (e_v 1) (e_v 7)) (as_cons (e_frz (e_ptC L.blt (as_cons (e_comp [("_law_at", 15)] C (i_of (e_v 6)) (blkOk_by (N := N_w_right) (sc := defScope (top 49)) (by decide +kernel)) (fun _ _ _ _ _ => g_nm (C).blk 15) (fun _ _ _ _ _ => dts_nil) (fun _ _ _ _ _ => e_ix (e_ix (e_v 2) (e_v 15)) (e_int))) (as_nil)))) (as_nil))))
    (dss_cons (s_asg (g_nm C 10) (e_frz (e_own 1008 (ok_w_least L) (.head _) C (as_cons (e_v 4) (as_cons (e_frz (e_comp [("_law_k", 14)] C (i_rng L.blt (e_len C L.blt (as_cons (e_v 2) (as_nil)))) (blkOk_by (N := N_w_right) (sc := defScope (top 49)) (by decide +kernel)) (fun _ _ _ _ _ => g_nm (C).blk 14) (fun _ _ _ _ _ => dts_nil) (fun _ _ _ _ _ => e_lcount (e_v 6) (as_cons (e_v 14) (as_nil))))) (as_cons (e_v 8) (as_nil)))) (k_nil))))
    (dss_cons (s_frz (s_setLc [("_law_at", 15)] C (i_of (e_v 6)) (blkOk_by (N := N_w_right) (sc := defScope (top 49)) (by decide +kernel)) (fun _ _ _ _ _ => g_nm (C).blk 15) (fun _ _ _ _ _ => dts_nil) (fun _ _ _ _ _ => e_ix (e_v 4) (e_v 15)) (sw_true rfl rfl rfl (by decide +kernel))))
    (dss_cons (ds_if (t_cmp C .ne (e_frz (e_repr C L.blt (as_cons (e_frz (e_own 27 (ok_least_boxes L) (.head _) C (as_cons (e_v 3) (as_cons (e_v 9) (as_nil))) (k_cons (e_v 7) (k_nil)))) (as_nil)))) (e_repr C L.blt (as_cons (e_v 10) (as_nil)))) (dss_cons (ds_rt (e_bl))
    (dss_nil)) (dss_nil))
    (dss_cons (s_asg (g_nm C 12) (e_frz (e_own 28 (ok_best_packing L) (.head _) C (as_cons (e_v 3) (as_cons (e_v 9) (as_nil))) (k_cons (e_v 7) (k_nil)))))
    (dss_cons (ds_if (t_bool (w_or (t_not (t_val (e_frz (e_own 1009 (ok_w_packed_right L) (.head _) C (as_cons (e_v 12) (as_cons (e_v 11) (as_cons (e_v 8) (as_cons (e_v 10) (as_nil))))) (k_nil))))) (w_or1 (t_cmp C .ne (e_frz (e_own 28 (ok_best_packing L) (.tail _ (.head _)) C (as_nil) (k_cons (e_v 7) (k_cons (e_v 3) (k_cons (e_v 9) (k_nil)))))) (e_v 12))))) (dss_cons (ds_rt (e_bl))
    (dss_nil)) (dss_nil))
    (dss_cons (ds_if (t_bool (w_and (t_cmp C .isO (e_v 7) (e_non)) (w_and1 (t_cmp C .ne (e_frz (e_own 28 (ok_best_packing L) (.tail _ (.tail _ (.head _))) C (as_cons (e_v 3) (as_cons (e_v 9) (as_nil))) (k_nil))) (e_v 12))))) (dss_cons (ds_rt (e_bl))
    (dss_nil)) (dss_nil))
    (dss_nil)))))))))))
    (dss_cons (ds_rt (e_cmp C .eq (e_frz (e_repr C L.blt (as_cons (e_frz (e_own 28 (ok_best_packing L) (.tail _ (.tail _ (.head _))) C (as_cons (e_v 3) (as_cons (e_ptD (as_nil)) (as_nil))) (k_nil))) (as_nil)))) (e_str)))
    (dss_nil)))))
theorem ok_w_right {P : Program} {w : World} {K : PySem.W.Frag} {mg : Str → Option Value} {base' : Heap} (L : Txt K mg) : Callee P w K mg base' "_law_right" 6 f_w_right [(1, [], [.arg 0])] :=
  callee_of L.f_w_right sc_w_right rfl (wk_w_right L) (fun qual kV doc pm an cdv ct => List.forall_mem_cons.mpr ⟨BindG.args [0] rfl fun us ws h1 h2 => match us, ws, h1, h2 with | [a0], [], _, _ => rfl, fun _ h => nomatch h⟩)
/-! law -/
abbrev N_law : List Str := ["_law_cells", "_law_k"]
theorem sc_law : FnScope N_law ["_law_cells"] (defScope (top 50)) := ⟨rfl, rfl, rfl, by decide +kernel, rfl, by decide +kernel, by decide +kernel⟩
theorem wk_law {P : Program} {w : World} {K : PySem.W.Frag} {mg : Str → Option Value} {base' : Heap} (L : Txt K mg) : Walk P w K mg base' N_law (top 50) 6 t_law b_law := by
  intro qual f cdv A outer s H hr
  have C : Cok (cxOf L2.CX0 P w K mg base' N_law qual (defScope (top 50)) f cdv A outer s H fun _ _ _ => False).nox 6 := ⟨rfl, sc_law.nd, hr⟩
  exact dss_cons (s_for C PassesOwn.never (g_nm C 1) (i_rng L.blt (e_max C L.blt (as_cons (e_int) (as_cons (e_min C L.blt (as_cons (e_len C L.blt (as_cons (e_v 0) (as_nil))) (as_cons (e_int) (as_nil)))) (as_nil))))) (dss_cons (ds_if (t_not (t_val (e_frz (e_own 1010 (ok_w_right L) (.head _) C (as_cons (e_own 1001 (ok_w_pool L) (.head _) C (as_cons (e_frz (e_own 1000 (ok_w_cell L) (.head _) C (as_cons (e_v 0) (as_cons (e_v 1) (as_nil))) (k_nil))) (as_nil)) (k_nil)) (as_nil)) (k_nil))))) (dss_cons (ds_rt (e_bl))
    (dss_nil)) (dss_nil))
    (dss_nil)))
    (dss_cons (ds_rt (e_bl))
    (dss_nil))
theorem ok_law {P : Program} {w : World} {K : PySem.W.Frag} {mg : Str → Option Value} {base' : Heap} (L : Txt K mg) : Callee P w K mg base' "law" 7 f_law [(1, [], [.arg 0])] :=
  callee_of L.f_law sc_law rfl (wk_law L) (fun qual kV doc pm an cdv ct => List.forall_mem_cons.mpr ⟨BindG.args [0] rfl fun us ws h1 h2 => match us, ws, h1, h2 with | [a0], [], _, _ => rfl, fun _ h => nomatch h⟩)
end K
end
section
set_option Elab.async false
set_option linter.all false
set_option maxRecDepth 100000
set_option maxHeartbeats 0
namespace K
open PySem PySem.Spec PyProof.Rows L2 DL
theorem mk_txt {K : PySem.W.Frag} {h : Heap} {mg : Str → Option Value} (X : K.In h) (G : h.Ns mainGlobals mg)
  {t1 : Tok}
  {t2 : Tok}
  {t3 : Tok}
  {t4 : Tok}
  {t5 : Tok}
  {t6 : Tok}
  {t7 : Tok}
  {f8 : Addr} {oc8 kV8 doc8 pm8 cd8 ct8 : Value} {od8 an8 : Option Addr} {sl8 : Array (Option Value)}
  {f9 : Addr} {oc9 kV9 doc9 pm9 cd9 ct9 : Value} {od9 an9 : Option Addr} {sl9 : Array (Option Value)}
  {f10 : Addr} {oc10 kV10 doc10 pm10 cd10 ct10 : Value} {od10 an10 : Option Addr} {sl10 : Array (Option Value)}
  {f11 : Addr} {oc11 kV11 doc11 pm11 cd11 ct11 : Value} {od11 an11 : Option Addr} {sl11 : Array (Option Value)}
  {f12 : Addr} {oc12 kV12 doc12 pm12 cd12 ct12 : Value} {od12 an12 : Option Addr} {sl12 : Array (Option Value)}
  {f13 : Addr} {oc13 kV13 doc13 pm13 cd13 ct13 : Value} {od13 an13 : Option Addr} {sl13 : Array (Option Value)}
  {f14 : Addr} {oc14 kV14 doc14 pm14 cd14 ct14 : Value} {od14 an14 : Option Addr} {sl14 : Array (Option Value)}
  {f15 : Addr} {oc15 kV15 doc15 pm15 cd15 ct15 : Value} {od15 an15 : Option Addr} {sl15 : Array (Option Value)}
  {f16 : Addr} {oc16 kV16 doc16 pm16 cd16 ct16 : Value} {od16 an16 : Option Addr} {sl16 : Array (Option Value)}
  {f17 : Addr} {oc17 kV17 doc17 pm17 cd17 ct17 : Value} {od17 an17 : Option Addr} {sl17 : Array (Option Value)}
  {f18 : Addr} {oc18 kV18 doc18 pm18 cd18 ct18 : Value} {od18 an18 : Option Addr} {sl18 : Array (Option Value)}
  {f19 : Addr} {oc19 kV19 doc19 pm19 cd19 ct19 : Value} {od19 an19 : Option Addr} {sl19 : Array (Option Value)}
  {f20 : Addr} {oc20 kV20 doc20 pm20 cd20 ct20 : Value} {od20 an20 : Option Addr} {sl20 : Array (Option Value)}
  {f21 : Addr} {oc21 kV21 doc21 pm21 cd21 ct21 : Value} {od21 an21 : Option Addr} {sl21 : Array (Option Value)}
  {f22 : Addr} {oc22 kV22 doc22 pm22 cd22 ct22 : Value} {od22 an22 : Option Addr} {sl22 : Array (Option Value)}
  {f23 : Addr} {oc23 kV23 doc23 pm23 cd23 ct23 : Value} {od23 an23 : Option Addr} {sl23 : Array (Option Value)}
  {f24 : Addr} {oc24 kV24 doc24 pm24 cd24 ct24 : Value} {od24 an24 : Option Addr} {sl24 : Array (Option Value)}
  {f25 : Addr} {oc25 kV25 doc25 pm25 cd25 ct25 : Value} {od25 an25 : Option Addr} {sl25 : Array (Option Value)}
  {f26 : Addr} {oc26 kV26 doc26 pm26 cd26 ct26 : Value} {od26 an26 : Option Addr} {sl26 : Array (Option Value)}
  {f27 : Addr} {oc27 kV27 doc27 pm27 cd27 ct27 : Value} {od27 an27 : Option Addr} {sl27 : Array (Option Value)}
  {f28 : Addr} {oc28 kV28 doc28 pm28 cd28 ct28 : Value} {od28 an28 : Option Addr} {sl28 : Array (Option Value)}
  {f29 : Addr} {oc29 kV29 doc29 pm29 cd29 ct29 : Value} {od29 an29 : Option Addr} {sl29 : Array (Option Value)}
  {f30 : Addr} {oc30 kV30 doc30 pm30 cd30 ct30 : Value} {od30 an30 : Option Addr} {sl30 : Array (Option Value)}
  {f31 D31 : Addr} {oc31 doc31 pm31 cd31 ct31 : Value} {od31 an31 : Option Addr} {sl31 : Array (Option Value)}
  {f32 D32 : Addr} {oc32 doc32 pm32 cd32 ct32 : Value} {od32 an32 : Option Addr} {sl32 : Array (Option Value)}
  {f33 : Addr} {oc33 kV33 doc33 pm33 cd33 ct33 : Value} {od33 an33 : Option Addr} {sl33 : Array (Option Value)}
  {f34 : Addr} {oc34 kV34 doc34 pm34 cd34 ct34 : Value} {od34 an34 : Option Addr} {sl34 : Array (Option Value)}
  {C_Goods : Addr}
  {f35 : Addr} {oc35 kV35 doc35 pm35 cd35 ct35 : Value} {od35 an35 : Option Addr} {sl35 : Array (Option Value)}
  {f36 : Addr} {oc36 kV36 doc36 pm36 cd36 ct36 : Value} {od36 an36 : Option Addr} {sl36 : Array (Option Value)}
  {pr36 : Addr} {rs36 : List Value}
  {f37 : Addr} {oc37 kV37 doc37 pm37 cd37 ct37 : Value} {od37 an37 : Option Addr} {sl37 : Array (Option Value)}
  {pr37 : Addr} {rs37 : List Value}
  {f38 : Addr} {oc38 kV38 doc38 pm38 cd38 ct38 : Value} {od38 an38 : Option Addr} {sl38 : Array (Option Value)}
  {pr38 : Addr} {rs38 : List Value}
  (z_len : PySem.W.nsIn K mainGlobals "len" = some none)
  (z_abs : PySem.W.nsIn K mainGlobals "abs" = some none)
  (z_max : PySem.W.nsIn K mainGlobals "max" = some none)
  (z_min : PySem.W.nsIn K mainGlobals "min" = some none)
  (z_sum : PySem.W.nsIn K mainGlobals "sum" = some none)
  (z_any : PySem.W.nsIn K mainGlobals "any" = some none)
  (z_all : PySem.W.nsIn K mainGlobals "all" = some none)
  (z_sorted : PySem.W.nsIn K mainGlobals "sorted" = some none)
  (z_repr : PySem.W.nsIn K mainGlobals "repr" = some none)
  (z_int : PySem.W.nsIn K mainGlobals "int" = some none)
  (z_str : PySem.W.nsIn K mainGlobals "str" = some none)
  (z_list : PySem.W.nsIn K mainGlobals "list" = some none)
  (z_tuple : PySem.W.nsIn K mainGlobals "tuple" = some none)
  (z_bool : PySem.W.nsIn K mainGlobals "bool" = some none)
  (z_isinstance : PySem.W.nsIn K mainGlobals "isinstance" = some none)
  (z_enumerate : PySem.W.nsIn K mainGlobals "enumerate" = some none)
  (z_zip : PySem.W.nsIn K mainGlobals "zip" = some none)
  (z_range : PySem.W.nsIn K mainGlobals "range" = some none)
  (g_MOST_ROOM : PySem.W.nsIn K mainGlobals "MOST_ROOM" = some (some (.int 60 t1)))
  (g_MOST_KINDS : PySem.W.nsIn K mainGlobals "MOST_KINDS" = some (some (.int 6 t2)))
  (g_MOST_ITEMS : PySem.W.nsIn K mainGlobals "MOST_ITEMS" = some (some (.int 2000 t3)))
  (g_MOST_TRIED : PySem.W.nsIn K mainGlobals "MOST_TRIED" = some (some (.int 14 t4)))
  (g_LETTERS : PySem.W.nsIn K mainGlobals "LETTERS" = some (some (.str "abcdefghijklmnopqrstuvwxyz" t5)))
  (g_DIGITS : PySem.W.nsIn K mainGlobals "DIGITS" = some (some (.str "0123456789" t6)))
  (g_MOST_SIGNS : PySem.W.nsIn K mainGlobals "MOST_SIGNS" = some (some (.int 8 t7)))
  (a8 : PySem.W.nsIn K mainGlobals "_law_cell" = some (some (.ref f8)))
  (l8 : K.lookup f8 = some ⟨oc8, od8, .func (PySem.W.fnOf "_law_cell" "_law_cell" (defArgs (top 39)) (defBody (top 39)) (defScope (top 39)) .none kV8 doc8 pm8 an8 cd8 ct8), sl8⟩)
  (c8 : PySem.W.codeIn K cd8 "_law_cell" = true)
  (p8 : PySem.W.keepIn K (.ref f8) = true)
  (a9 : PySem.W.nsIn K mainGlobals "_law_pool" = some (some (.ref f9)))
  (l9 : K.lookup f9 = some ⟨oc9, od9, .func (PySem.W.fnOf "_law_pool" "_law_pool" (defArgs (top 40)) (defBody (top 40)) (defScope (top 40)) .none kV9 doc9 pm9 an9 cd9 ct9), sl9⟩)
  (c9 : PySem.W.codeIn K cd9 "_law_pool" = true)
  (p9 : PySem.W.keepIn K (.ref f9) = true)
  (a10 : PySem.W.nsIn K mainGlobals "is_integer" = some (some (.ref f10)))
  (l10 : K.lookup f10 = some ⟨oc10, od10, .func (PySem.W.fnOf "is_integer" "is_integer" (defArgs (top 18)) (defBody (top 18)) (defScope (top 18)) .none kV10 doc10 pm10 an10 cd10 ct10), sl10⟩)
  (c10 : PySem.W.codeIn K cd10 "is_integer" = true)
  (p10 : PySem.W.keepIn K (.ref f10) = true)
  (a11 : PySem.W.nsIn K mainGlobals "is_name" = some (some (.ref f11)))
  (l11 : K.lookup f11 = some ⟨oc11, od11, .func (PySem.W.fnOf "is_name" "is_name" (defArgs (top 19)) (defBody (top 19)) (defScope (top 19)) .none kV11 doc11 pm11 an11 cd11 ct11), sl11⟩)
  (c11 : PySem.W.codeIn K cd11 "is_name" = true)
  (p11 : PySem.W.keepIn K (.ref f11) = true)
  (a12 : PySem.W.nsIn K mainGlobals "is_kind" = some (some (.ref f12)))
  (l12 : K.lookup f12 = some ⟨oc12, od12, .func (PySem.W.fnOf "is_kind" "is_kind" (defArgs (top 22)) (defBody (top 22)) (defScope (top 22)) .none kV12 doc12 pm12 an12 cd12 ct12), sl12⟩)
  (c12 : PySem.W.codeIn K cd12 "is_kind" = true)
  (p12 : PySem.W.keepIn K (.ref f12) = true)
  (a13 : PySem.W.nsIn K mainGlobals "check_kinds" = some (some (.ref f13)))
  (l13 : K.lookup f13 = some ⟨oc13, od13, .func (PySem.W.fnOf "check_kinds" "check_kinds" (defArgs (top 23)) (defBody (top 23)) (defScope (top 23)) .none kV13 doc13 pm13 an13 cd13 ct13), sl13⟩)
  (c13 : PySem.W.codeIn K cd13 "check_kinds" = true)
  (p13 : PySem.W.keepIn K (.ref f13) = true)
  (a14 : PySem.W.nsIn K mainGlobals "_law_draw" = some (some (.ref f14)))
  (l14 : K.lookup f14 = some ⟨oc14, od14, .func (PySem.W.fnOf "_law_draw" "_law_draw" (defArgs (top 41)) (defBody (top 41)) (defScope (top 41)) .none kV14 doc14 pm14 an14 cd14 ct14), sl14⟩)
  (c14 : PySem.W.codeIn K cd14 "_law_draw" = true)
  (p14 : PySem.W.keepIn K (.ref f14) = true)
  (a15 : PySem.W.nsIn K mainGlobals "_law_states" = some (some (.ref f15)))
  (l15 : K.lookup f15 = some ⟨oc15, od15, .func (PySem.W.fnOf "_law_states" "_law_states" (defArgs (top 46)) (defBody (top 46)) (defScope (top 46)) .none kV15 doc15 pm15 an15 cd15 ct15), sl15⟩)
  (c15 : PySem.W.codeIn K cd15 "_law_states" = true)
  (p15 : PySem.W.keepIn K (.ref f15) = true)
  (a16 : PySem.W.nsIn K mainGlobals "_law_least" = some (some (.ref f16)))
  (l16 : K.lookup f16 = some ⟨oc16, od16, .func (PySem.W.fnOf "_law_least" "_law_least" (defArgs (top 47)) (defBody (top 47)) (defScope (top 47)) .none kV16 doc16 pm16 an16 cd16 ct16), sl16⟩)
  (c16 : PySem.W.codeIn K cd16 "_law_least" = true)
  (p16 : PySem.W.keepIn K (.ref f16) = true)
  (a17 : PySem.W.nsIn K mainGlobals "_law_other_room" = some (some (.ref f17)))
  (l17 : K.lookup f17 = some ⟨oc17, od17, .func (PySem.W.fnOf "_law_other_room" "_law_other_room" (defArgs (top 45)) (defBody (top 45)) (defScope (top 45)) .none kV17 doc17 pm17 an17 cd17 ct17), sl17⟩)
  (c17 : PySem.W.codeIn K cd17 "_law_other_room" = true)
  (p17 : PySem.W.keepIn K (.ref f17) = true)
  (a18 : PySem.W.nsIn K mainGlobals "_law_packed_right" = some (some (.ref f18)))
  (l18 : K.lookup f18 = some ⟨oc18, od18, .func (PySem.W.fnOf "_law_packed_right" "_law_packed_right" (defArgs (top 48)) (defBody (top 48)) (defScope (top 48)) .none kV18 doc18 pm18 an18 cd18 ct18), sl18⟩)
  (c18 : PySem.W.codeIn K cd18 "_law_packed_right" = true)
  (p18 : PySem.W.keepIn K (.ref f18) = true)
  (a19 : PySem.W.nsIn K mainGlobals "_law_word" = some (some (.ref f19)))
  (l19 : K.lookup f19 = some ⟨oc19, od19, .func (PySem.W.fnOf "_law_word" "_law_word" (defArgs (top 42)) (defBody (top 42)) (defScope (top 42)) .none kV19 doc19 pm19 an19 cd19 ct19), sl19⟩)
  (c19 : PySem.W.codeIn K cd19 "_law_word" = true)
  (p19 : PySem.W.keepIn K (.ref f19) = true)
  (a20 : PySem.W.nsIn K mainGlobals "_law_tags" = some (some (.ref f20)))
  (l20 : K.lookup f20 = some ⟨oc20, od20, .func (PySem.W.fnOf "_law_tags" "_law_tags" (defArgs (top 43)) (defBody (top 43)) (defScope (top 43)) .none kV20 doc20 pm20 an20 cd20 ct20), sl20⟩)
  (c20 : PySem.W.codeIn K cd20 "_law_tags" = true)
  (p20 : PySem.W.keepIn K (.ref f20) = true)
  (a21 : PySem.W.nsIn K mainGlobals "_law_shape" = some (some (.ref f21)))
  (l21 : K.lookup f21 = some ⟨oc21, od21, .func (PySem.W.fnOf "_law_shape" "_law_shape" (defArgs (top 44)) (defBody (top 44)) (defScope (top 44)) .none kV21 doc21 pm21 an21 cd21 ct21), sl21⟩)
  (c21 : PySem.W.codeIn K cd21 "_law_shape" = true)
  (p21 : PySem.W.keepIn K (.ref f21) = true)
  (a22 : PySem.W.nsIn K mainGlobals "check_goods" = some (some (.ref f22)))
  (l22 : K.lookup f22 = some ⟨oc22, od22, .func (PySem.W.fnOf "check_goods" "check_goods" (defArgs (top 26)) (defBody (top 26)) (defScope (top 26)) .none kV22 doc22 pm22 an22 cd22 ct22), sl22⟩)
  (c22 : PySem.W.codeIn K cd22 "check_goods" = true)
  (p22 : PySem.W.keepIn K (.ref f22) = true)
  (a23 : PySem.W.nsIn K mainGlobals "check_row" = some (some (.ref f23)))
  (l23 : K.lookup f23 = some ⟨oc23, od23, .func (PySem.W.fnOf "check_row" "check_row" (defArgs (top 28)) (defBody (top 28)) (defScope (top 28)) .none kV23 doc23 pm23 an23 cd23 ct23), sl23⟩)
  (c23 : PySem.W.codeIn K cd23 "check_row" = true)
  (p23 : PySem.W.keepIn K (.ref f23) = true)
  (a24 : PySem.W.nsIn K mainGlobals "room_of" = some (some (.ref f24)))
  (l24 : K.lookup f24 = some ⟨oc24, od24, .func (PySem.W.fnOf "room_of" "room_of" (defArgs (top 27)) (defBody (top 27)) (defScope (top 27)) .none kV24 doc24 pm24 an24 cd24 ct24), sl24⟩)
  (c24 : PySem.W.codeIn K cd24 "room_of" = true)
  (p24 : PySem.W.keepIn K (.ref f24) = true)
  (a25 : PySem.W.nsIn K mainGlobals "checked_room" = some (some (.ref f25)))
  (l25 : K.lookup f25 = some ⟨oc25, od25, .func (PySem.W.fnOf "checked_room" "checked_room" (defArgs (top 34)) (defBody (top 34)) (defScope (top 34)) .none kV25 doc25 pm25 an25 cd25 ct25), sl25⟩)
  (c25 : PySem.W.codeIn K cd25 "checked_room" = true)
  (p25 : PySem.W.keepIn K (.ref f25) = true)
  (a26 : PySem.W.nsIn K mainGlobals "counts_of" = some (some (.ref f26)))
  (l26 : K.lookup f26 = some ⟨oc26, od26, .func (PySem.W.fnOf "counts_of" "counts_of" (defArgs (top 35)) (defBody (top 35)) (defScope (top 35)) .none kV26 doc26 pm26 an26 cd26 ct26), sl26⟩)
  (c26 : PySem.W.codeIn K cd26 "counts_of" = true)
  (p26 : PySem.W.keepIn K (.ref f26) = true)
  (a27 : PySem.W.nsIn K mainGlobals "less_one" = some (some (.ref f27)))
  (l27 : K.lookup f27 = some ⟨oc27, od27, .func (PySem.W.fnOf "less_one" "less_one" (defArgs (top 31)) (defBody (top 31)) (defScope (top 31)) .none kV27 doc27 pm27 an27 cd27 ct27), sl27⟩)
  (c27 : PySem.W.codeIn K cd27 "less_one" = true)
  (p27 : PySem.W.keepIn K (.ref f27) = true)
  (a28 : PySem.W.nsIn K mainGlobals "counts_up_to" = some (some (.ref f28)))
  (l28 : K.lookup f28 = some ⟨oc28, od28, .func (PySem.W.fnOf "counts_up_to" "counts_up_to" (defArgs (top 30)) (defBody (top 30)) (defScope (top 30)) .none kV28 doc28 pm28 an28 cd28 ct28), sl28⟩)
  (c28 : PySem.W.codeIn K cd28 "counts_up_to" = true)
  (p28 : PySem.W.keepIn K (.ref f28) = true)
  (a29 : PySem.W.nsIn K mainGlobals "put_into_last" = some (some (.ref f29)))
  (l29 : K.lookup f29 = some ⟨oc29, od29, .func (PySem.W.fnOf "put_into_last" "put_into_last" (defArgs (top 32)) (defBody (top 32)) (defScope (top 32)) .none kV29 doc29 pm29 an29 cd29 ct29), sl29⟩)
  (c29 : PySem.W.codeIn K cd29 "put_into_last" = true)
  (p29 : PySem.W.keepIn K (.ref f29) = true)
  (a30 : PySem.W.nsIn K mainGlobals "packings_of" = some (some (.ref f30)))
  (l30 : K.lookup f30 = some ⟨oc30, od30, .func (PySem.W.fnOf "packings_of" "packings_of" (defArgs (top 33)) (defBody (top 33)) (defScope (top 33)) .none kV30 doc30 pm30 an30 cd30 ct30), sl30⟩)
  (c30 : PySem.W.codeIn K cd30 "packings_of" = true)
  (p30 : PySem.W.keepIn K (.ref f30) = true)
  (a31 : PySem.W.nsIn K mainGlobals "best_packing" = some (some (.ref f31)))
  (l31 : K.lookup f31 = some ⟨oc31, od31, .func (PySem.W.fnOf "best_packing" "best_packing" (defArgs (top 37)) (defBody (top 37)) (defScope (top 37)) .none (.ref D31) doc31 pm31 an31 cd31 ct31), sl31⟩)
  (c31 : PySem.W.codeIn K cd31 "best_packing" = true)
  (p31 : PySem.W.keepIn K (.ref f31) = true)
  (d31_0 : PySem.W.nsIn K D31 "room" = some (some .none))
  (a32 : PySem.W.nsIn K mainGlobals "least_boxes" = some (some (.ref f32)))
  (l32 : K.lookup f32 = some ⟨oc32, od32, .func (PySem.W.fnOf "least_boxes" "least_boxes" (defArgs (top 36)) (defBody (top 36)) (defScope (top 36)) .none (.ref D32) doc32 pm32 an32 cd32 ct32), sl32⟩)
  (c32 : PySem.W.codeIn K cd32 "least_boxes" = true)
  (p32 : PySem.W.keepIn K (.ref f32) = true)
  (d32_0 : PySem.W.nsIn K D32 "room" = some (some .none))
  (a33 : PySem.W.nsIn K mainGlobals "_law_right" = some (some (.ref f33)))
  (l33 : K.lookup f33 = some ⟨oc33, od33, .func (PySem.W.fnOf "_law_right" "_law_right" (defArgs (top 49)) (defBody (top 49)) (defScope (top 49)) .none kV33 doc33 pm33 an33 cd33 ct33), sl33⟩)
  (c33 : PySem.W.codeIn K cd33 "_law_right" = true)
  (p33 : PySem.W.keepIn K (.ref f33) = true)
  (a34 : PySem.W.nsIn K mainGlobals "law" = some (some (.ref f34)))
  (l34 : K.lookup f34 = some ⟨oc34, od34, .func (PySem.W.fnOf "law" "law" (defArgs (top 50)) (defBody (top 50)) (defScope (top 50)) .none kV34 doc34 pm34 an34 cd34 ct34), sl34⟩)
  (c34 : PySem.W.codeIn K cd34 "law" = true)
  (p34 : PySem.W.keepIn K (.ref f34) = true)
  (z_Reach : PySem.W.nsIn K mainGlobals "Reach" = some none)
  (z_Lane : PySem.W.nsIn K mainGlobals "Lane" = some none)
  (z_Packer : PySem.W.nsIn K mainGlobals "Packer" = some none)
  (z_Pairs : PySem.W.nsIn K mainGlobals "Pairs" = some none)
  (z_Shares : PySem.W.nsIn K mainGlobals "Shares" = some none)
  (A_Goods : PySem.W.nsIn K mainGlobals "Goods" = some (some (.ref C_Goods)))
  (x0_Goods : PySem.W.plainGet K C_Goods Str.empty = true)
  (x1_Goods : PySem.W.hasDictIn K C_Goods = true)
  (x2_Goods : PySem.W.plainOver K C_Goods = true)
  (x3_Goods : PySem.W.findIn K (.ref C_Goods) "__setattr__" = some (some (.builtin "object.__setattr__")))
  (x4_Goods : PySem.W.findIn K (.ref C_Goods) "__class__" = some (some (.builtin "object.__class__")))
  (x5_Goods : PySem.W.specialIn K (.builtin "object.__class__") "__get__" = some (some (.builtin "getset_descriptor.__get__")))
  (x6_Goods : PySem.W.takesIn K (.builtin "object.__class__") = some true)
  (x7_Goods : PySem.W.mroIn K C_Goods (.type "object") = some true)
  (n_Goods_space : PySem.W.findIn K (.ref C_Goods) "space" = some none)
  (n_Goods_pairs : PySem.W.findIn K (.ref C_Goods) "pairs" = some none)
  (k_Goods_bool : PySem.W.subIn K (.ref C_Goods) (.type "bool") = some false)
  (k_Goods_int : PySem.W.subIn K (.ref C_Goods) (.type "int") = some false)
  (k_Goods_str : PySem.W.subIn K (.ref C_Goods) (.type "str") = some false)
  (k_Goods_tuple : PySem.W.subIn K (.ref C_Goods) (.type "tuple") = some false)
  (u0_Goods : PySem.W.isClsIn K C_Goods = true)
  (u1_Goods : PySem.W.typeIn K (.ref C_Goods) = some (.type "type"))
  (q_Goods_NoneType : PySem.W.subIn K (.type "NoneType") (.ref C_Goods) = some false)
  (q_Goods_bool : PySem.W.subIn K (.type "bool") (.ref C_Goods) = some false)
  (q_Goods_int : PySem.W.subIn K (.type "int") (.ref C_Goods) = some false)
  (q_Goods_str : PySem.W.subIn K (.type "str") (.ref C_Goods) = some false)
  (q_Goods_tuple : PySem.W.subIn K (.type "tuple") (.ref C_Goods) = some false)
  (q_Goods_list : PySem.W.subIn K (.type "list") (.ref C_Goods) = some false)
  (r_Goods_NoneType : PySem.W.notFirst K C_Goods (.type "NoneType") = true)
  (r_Goods_bool : PySem.W.notFirst K C_Goods (.type "bool") = true)
  (r_Goods_int : PySem.W.notFirst K C_Goods (.type "int") = true)
  (r_Goods_str : PySem.W.notFirst K C_Goods (.type "str") = true)
  (r_Goods_tuple : PySem.W.notFirst K C_Goods (.type "tuple") = true)
  (r_Goods_list : PySem.W.notFirst K C_Goods (.type "list") = true)
  (s1_Goods : PySem.W.notFirst K C_Goods (.ref C_Goods) = true)
  (s2_Goods : PySem.W.findIn K (.ref C_Goods) "__ne__" = some (some (.builtin "object.__ne__")))
  (s3_Goods : PySem.W.findIn K (.ref C_Goods) "__bool__" = some none)
  (a35 : PySem.W.findIn K (.ref C_Goods) "__init__" = some (some (.ref f35)))
  (l35 : K.lookup f35 = some ⟨oc35, od35, .func (PySem.W.fnOf "__init__" "Goods.__init__" (defArgs (inClass (top 25) 0)) (defBody (inClass (top 25) 0)) (defScope (inClass (top 25) 0)) .none kV35 doc35 pm35 an35 cd35 ct35), sl35⟩)
  (c35 : PySem.W.codeIn K cd35 "Goods.__init__" = true)
  (p35 : PySem.W.keepIn K (.ref f35) = true)
  (i35 : PySem.W.isFn K (.ref f35) = true)
  (m35 : PySem.W.makesIn K C_Goods = true)
  (y35 : PySem.W.keepIn K (.ref C_Goods) = true)
  (a36 : PySem.W.findIn K (.ref C_Goods) "names" = some (some (.ref pr36)))
  (b36 : PySem.W.specialIn K (.ref pr36) "__get__" = some (some (.builtin "property.__get__")))
  (d36 : PySem.W.takesIn K (.ref pr36) = some true)
  (e36 : PySem.W.recIn K pr36 "property" = some (.ref f36 :: rs36))
  (l36 : K.lookup f36 = some ⟨oc36, od36, .func (PySem.W.fnOf "names" "Goods.names" (defArgs (inClass (top 25) 4)) (defBody (inClass (top 25) 4)) (defScope (inClass (top 25) 4)) .none kV36 doc36 pm36 an36 cd36 ct36), sl36⟩)
  (c36 : PySem.W.codeIn K cd36 "Goods.names" = true)
  (p36 : PySem.W.keepIn K (.ref f36) = true)
  (a37 : PySem.W.findIn K (.ref C_Goods) "sizes" = some (some (.ref pr37)))
  (b37 : PySem.W.specialIn K (.ref pr37) "__get__" = some (some (.builtin "property.__get__")))
  (d37 : PySem.W.takesIn K (.ref pr37) = some true)
  (e37 : PySem.W.recIn K pr37 "property" = some (.ref f37 :: rs37))
  (l37 : K.lookup f37 = some ⟨oc37, od37, .func (PySem.W.fnOf "sizes" "Goods.sizes" (defArgs (inClass (top 25) 5)) (defBody (inClass (top 25) 5)) (defScope (inClass (top 25) 5)) .none kV37 doc37 pm37 an37 cd37 ct37), sl37⟩)
  (c37 : PySem.W.codeIn K cd37 "Goods.sizes" = true)
  (p37 : PySem.W.keepIn K (.ref f37) = true)
  (a38 : PySem.W.findIn K (.ref C_Goods) "room" = some (some (.ref pr38)))
  (b38 : PySem.W.specialIn K (.ref pr38) "__get__" = some (some (.builtin "property.__get__")))
  (d38 : PySem.W.takesIn K (.ref pr38) = some true)
  (e38 : PySem.W.recIn K pr38 "property" = some (.ref f38 :: rs38))
  (l38 : K.lookup f38 = some ⟨oc38, od38, .func (PySem.W.fnOf "room" "Goods.room" (defArgs (inClass (top 25) 2)) (defBody (inClass (top 25) 2)) (defScope (inClass (top 25) 2)) .none kV38 doc38 pm38 an38 cd38 ct38), sl38⟩)
  (c38 : PySem.W.codeIn K cd38 "Goods.room" = true)
  (p38 : PySem.W.keepIn K (.ref f38) = true) : Txt K mg :=
  ⟨⟨PySem.W.mg_none_of X G z_len, PySem.W.mg_none_of X G z_abs, PySem.W.mg_none_of X G z_max, PySem.W.mg_none_of X G z_min, PySem.W.mg_none_of X G z_sum, PySem.W.mg_none_of X G z_any, PySem.W.mg_none_of X G z_all, PySem.W.mg_none_of X G z_sorted, PySem.W.mg_none_of X G z_repr, PySem.W.mg_none_of X G z_int, PySem.W.mg_none_of X G z_str, PySem.W.mg_none_of X G z_list, PySem.W.mg_none_of X G z_tuple, PySem.W.mg_none_of X G z_bool, PySem.W.mg_none_of X G z_isinstance, PySem.W.mg_none_of X G z_enumerate, PySem.W.mg_none_of X G z_zip, PySem.W.mg_none_of X G z_range⟩,
  ⟨_, PySem.W.mg_of X G g_MOST_ROOM⟩,
  ⟨_, PySem.W.mg_of X G g_MOST_KINDS⟩,
  ⟨_, PySem.W.mg_of X G g_MOST_ITEMS⟩,
  ⟨_, PySem.W.mg_of X G g_MOST_TRIED⟩,
  ⟨_, PySem.W.mg_of X G g_LETTERS⟩,
  ⟨_, PySem.W.mg_of X G g_DIGITS⟩,
  ⟨_, PySem.W.mg_of X G g_MOST_SIGNS⟩,
  ⟨_, _, PySem.W.mg_of X G a8, fun_mk (st := (top 39)) l8 c8 p8⟩,
  ⟨_, _, PySem.W.mg_of X G a9, fun_mk (st := (top 40)) l9 c9 p9⟩,
  ⟨_, _, PySem.W.mg_of X G a10, fun_mk (st := (top 18)) l10 c10 p10⟩,
  ⟨_, _, PySem.W.mg_of X G a11, fun_mk (st := (top 19)) l11 c11 p11⟩,
  ⟨_, _, PySem.W.mg_of X G a12, fun_mk (st := (top 22)) l12 c12 p12⟩,
  ⟨_, _, PySem.W.mg_of X G a13, fun_mk (st := (top 23)) l13 c13 p13⟩,
  ⟨_, _, PySem.W.mg_of X G a14, fun_mk (st := (top 41)) l14 c14 p14⟩,
  ⟨_, _, PySem.W.mg_of X G a15, fun_mk (st := (top 46)) l15 c15 p15⟩,
  ⟨_, _, PySem.W.mg_of X G a16, fun_mk (st := (top 47)) l16 c16 p16⟩,
  ⟨_, _, PySem.W.mg_of X G a17, fun_mk (st := (top 45)) l17 c17 p17⟩,
  ⟨_, _, PySem.W.mg_of X G a18, fun_mk (st := (top 48)) l18 c18 p18⟩,
  ⟨_, _, PySem.W.mg_of X G a19, fun_mk (st := (top 42)) l19 c19 p19⟩,
  ⟨_, _, PySem.W.mg_of X G a20, fun_mk (st := (top 43)) l20 c20 p20⟩,
  ⟨_, _, PySem.W.mg_of X G a21, fun_mk (st := (top 44)) l21 c21 p21⟩,
  ⟨_, _, PySem.W.mg_of X G a22, fun_mk (st := (top 26)) l22 c22 p22⟩,
  ⟨_, _, PySem.W.mg_of X G a23, fun_mk (st := (top 28)) l23 c23 p23⟩,
  ⟨_, _, PySem.W.mg_of X G a24, fun_mk (st := (top 27)) l24 c24 p24⟩,
  ⟨_, _, PySem.W.mg_of X G a25, fun_mk (st := (top 34)) l25 c25 p25⟩,
  ⟨_, _, PySem.W.mg_of X G a26, fun_mk (st := (top 35)) l26 c26 p26⟩,
  ⟨_, _, PySem.W.mg_of X G a27, fun_mk (st := (top 31)) l27 c27 p27⟩,
  ⟨_, _, PySem.W.mg_of X G a28, fun_mk (st := (top 30)) l28 c28 p28⟩,
  ⟨_, _, PySem.W.mg_of X G a29, fun_mk (st := (top 32)) l29 c29 p29⟩,
  ⟨_, _, PySem.W.mg_of X G a30, fun_mk (st := (top 33)) l30 c30 p30⟩,
  ⟨f31, oc31, od31, D31, doc31, pm31, an31, cd31, ct31, sl31, PySem.W.mg_of X G a31, l31, c31, p31, List.forall_mem_cons.mpr ⟨⟨_, d31_0, rfl⟩, fun _ h => nomatch h⟩⟩,
  ⟨f32, oc32, od32, D32, doc32, pm32, an32, cd32, ct32, sl32, PySem.W.mg_of X G a32, l32, c32, p32, List.forall_mem_cons.mpr ⟨⟨_, d32_0, rfl⟩, fun _ h => nomatch h⟩⟩,
  ⟨_, _, PySem.W.mg_of X G a33, fun_mk (st := (top 49)) l33 c33 p33⟩,
  ⟨_, _, PySem.W.mg_of X G a34, fun_mk (st := (top 50)) l34 c34 p34⟩,
  PySem.W.mg_none_of X G z_Reach,
  PySem.W.mg_none_of X G z_Lane,
  PySem.W.mg_none_of X G z_Packer,
  PySem.W.mg_none_of X G z_Pairs,
  PySem.W.mg_none_of X G z_Shares,
  ⟨_, PySem.W.mg_of X G A_Goods, ⟨⟨x0_Goods, x1_Goods, x2_Goods, x3_Goods⟩, x4_Goods, x5_Goods, x6_Goods, x7_Goods⟩, List.forall_mem_cons.mpr ⟨n_Goods_space, List.forall_mem_cons.mpr ⟨n_Goods_pairs, fun _ h => nomatch h⟩⟩, List.forall_mem_cons.mpr ⟨kit_cb k_Goods_bool (by decide +kernel), List.forall_mem_cons.mpr ⟨kit_cb k_Goods_int (by decide +kernel), List.forall_mem_cons.mpr ⟨kit_cb k_Goods_str (by decide +kernel), List.forall_mem_cons.mpr ⟨kit_cb k_Goods_tuple (by decide +kernel), fun _ h => nomatch h⟩⟩⟩⟩⟩,
  (fun C h => by
    have e := h.symm.trans (PySem.W.mg_of X G A_Goods)
    cases e
    exact ⟨List.forall_mem_cons.mpr ⟨kit_bc u0_Goods u1_Goods q_Goods_NoneType, List.forall_mem_cons.mpr ⟨kit_bc u0_Goods u1_Goods q_Goods_bool, List.forall_mem_cons.mpr ⟨kit_bc u0_Goods u1_Goods q_Goods_int, List.forall_mem_cons.mpr ⟨kit_bc u0_Goods u1_Goods q_Goods_str, List.forall_mem_cons.mpr ⟨kit_bc u0_Goods u1_Goods q_Goods_tuple, List.forall_mem_cons.mpr ⟨kit_bc u0_Goods u1_Goods q_Goods_list, fun _ h => nomatch h⟩⟩⟩⟩⟩⟩, List.forall_mem_cons.mpr ⟨r_Goods_NoneType, List.forall_mem_cons.mpr ⟨r_Goods_bool, List.forall_mem_cons.mpr ⟨r_Goods_int, List.forall_mem_cons.mpr ⟨r_Goods_str, List.forall_mem_cons.mpr ⟨r_Goods_tuple, List.forall_mem_cons.mpr ⟨r_Goods_list, fun _ h => nomatch h⟩⟩⟩⟩⟩⟩, kit_self, s1_Goods, s2_Goods, s3_Goods⟩),
  ⟨_, _, _, PySem.W.mg_of X G A_Goods, y35, ⟨m35, a35, i35, y35⟩, fun_mk (st := (inClass (top 25) 0)) l35 c35 p35⟩,
  ⟨_, _, _, _, PySem.W.mg_of X G A_Goods, ⟨a36, b36, d36, ⟨_, e36⟩⟩, fun_mk (st := (inClass (top 25) 4)) l36 c36 p36⟩,
  ⟨_, _, _, _, PySem.W.mg_of X G A_Goods, ⟨a37, b37, d37, ⟨_, e37⟩⟩, fun_mk (st := (inClass (top 25) 5)) l37 c37 p37⟩,
  ⟨_, _, _, _, PySem.W.mg_of X G A_Goods, ⟨a38, b38, d38, ⟨_, e38⟩⟩, fun_mk (st := (inClass (top 25) 2)) l38 c38 p38⟩⟩
theorem told_walk {l : PySem.W.OpenLaw} {q : Program} {loose : List Str} {XP : (Str → Option Value) → Heap → Prop} {YP : World → Heap → Prop} {d : DefRec} {K : Params → PySem.W.Frag} (hn : l.most = some 63) (hdf : d.params.defaults = []) (hd : d.name = "law")
    (hY : ∀ (w : World) (h : Heap), YP w h → (K w.params).In h) (F : ∀ (w : World) (mg : Str → Option Value) (h : Heap), (K w.params).In h → h.Ns mainGlobals mg → Txt (K w.params) mg)
    (told : ∀ ns : List Int, ns.length ≤ 63 → ∃ M', f_law [.scr (ns.map D.int)] [] = some (.ok (.bl true), M')) : PySem.W.WalkO q loose XP YP l.row.toRowW d [] (fun f vs => PySem.call f vs) := by
  refine walk_ofG (x := "_law_cells") (k := 7) (n := 63) hn (by decide) hdf ⟨⟨rfl, by decide, by decide⟩, rfl⟩ hY (fun w mg fa h KX G hmg => ?_) told
  have L := F w mg h KX G
  rw [hd] at hmg
  exact law_fd L.f_law hmg sc_law rfl (fun base' => wk_law L) fun _ _ _ _ _ _ _ u => rfl
end K
end
section
open PySem PySem.W PyProof.Rows
set_option Elab.async false
set_option maxRecDepth 100000
set_option maxHeartbeats 0
open_top hd for PySem.Challenge.rw_shutboxes_k19_best_packings_that_fit
end
section
set_option Elab.async false
set_option linter.all false
set_option maxRecDepth 100000
set_option maxHeartbeats 2000000
/-! DL, part v: the interpreter by simp. -/
namespace DL
open PySem
/-- a law that simp shall keep as a step of its own -/
theorem nr {p : Prop} (h : p) : p := h
section
variable {α β γ : Type} {T : Tab} {env : Env} {M : Mem} {a b c o i : CE} {es as ks : CEs} {t u : CT} {x y d : D} {ds vs : List D}
@[simp] theorem bnd_ret {a : α} {f : α → R β} : bnd (ret a) f = f a := by funext M; rfl
@[simp] theorem bnd_assocS {m : R α} {f : α → R β} {g : β → R γ} : bnd (bnd m f) g = bnd m fun x => bnd (f x) g := by
  funext M
  unfold bnd
  cases m M with
  | none => rfl
  | some p => obtain ⟨r, M'⟩ := p; cases r <;> rfl
@[simp] theorem bnd_fail {f : α → R β} : bnd fail f = fail := by funext M; rfl
@[simp] theorem ret_at {a : α} : ret a M = some (.ok a, M) := nr rfl
@[simp] theorem fail_at : (fail : R α) M = none := nr rfl
theorem bnd_at {m : R α} {f : α → R β} : bnd m f M = match m M with | none => none | some (.error e, M') => some (.error e, M') | some (.ok a, M') => f a M' := rfl
theorem bnd_ok {m : R α} {f : α → R β} {a : α} {M' : Mem} (h : m M = some (.ok a, M')) : bnd m f M = f a M' := by unfold bnd; rw [h]
@[simp] theorem opt_some {a : α} : opt (some a) = ret a := nr rfl
@[simp] theorem opt_none : (opt none : R α) = fail := nr rfl
@[simp] theorem bnd_ite {p : Prop} [Decidable p] {m n : R α} {f : α → R β} : bnd (if p then m else n) f = if p then bnd m f else bnd n f := by split <;> rfl
/-! expressions -/
@[simp] theorem evE_var {i : Nat} : evE T (.var i) env = getVar env i := by rw [evE]
@[simp] theorem evE_con : evE T (.con d) env = ret d := by rw [evE]
@[simp] theorem evE_bin {o : BinO} : evE T (.bin o a b) env = bnd (evE T a env) fun x => bnd (evE T b env) fun y => binD o x y := by rw [evE]
@[simp] theorem evE_neg : evE T (.neg a) env = bnd (evE T a env) negD := by rw [evE]
@[simp] theorem evE_tst : evE T (.tst t) env = bnd (evT T t env) fun b => ret (.bl b) := by rw [evE]
@[simp] theorem evE_cmp {o : CmpO} : evE T (.cmp o a b) env = bnd (evE T a env) fun x => bnd (evE T b env) fun y => cmpD o x y := by rw [evE]
@[simp] theorem evE_chain {o o' : CmpO} : evE T (.chain o o' a b c) env = bnd (evE T a env) fun x => bnd (evE T b env) fun y => bnd (cmpD o x y) fun d => bnd (asBl d) fun k => if k = true then bnd (evE T c env) fun z => cmpD o' y z else ret (.bl false) := by rw [evE]
@[simp] theorem evE_ite : evE T (.ite t a b) env = bnd (evT T t env) fun k => if k = true then evE T a env else evE T b env := by rw [evE]
@[simp] theorem evE_bcall {f : BF} : evE T (.bcall f as) env = bnd (evEs T as env) fun vs => bfun f vs := by rw [evE]
@[simp] theorem evE_bmeth {m : BM} : evE T (.bmeth m o as) env = bnd (evE T o env) fun x => bnd (tyChk (bmTy m) x) fun _ => bnd (evEs T as env) fun vs => bmeth m x vs := by rw [evE]
@[simp] theorem evE_isi {c : D} : evE T (.isi a c) env = bnd (evE T a env) fun x => bnd (isiD T x c) fun b => ret (.bl b) := by rw [evE]
@[simp] theorem evE_own {f : Nat} {sel : List Sel} : evE T (.own f as ks sel) env = bnd (evEs T as env) fun vs => bnd (evEs T ks env) fun us => bnd (opt (selD (vs ++ us) sel)) fun ws => noErr (T.fn f ws) := by rw [evE]
@[simp] theorem evE_make {c : Str} {sel : List Sel} : evE T (.make c as ks sel) env = bnd (evEs T as env) fun vs => bnd (evEs T ks env) fun us => bnd (opt (selD (vs ++ us) sel)) fun ws => makeI T c ws := by rw [evE]
@[simp] theorem evE_makeV {c : Str} {sel : List Sel} : evE T (.makeV c o as sel) env = bnd (evE T o env) fun x => bnd (glIs c x) fun _ => bnd (evEs T as env) fun vs => bnd (opt (selD vs sel)) fun ws => makeI T c ws := by rw [evE]
@[simp] theorem evE_ometh {m c : Str} {sel : List Sel} : evE T (.ometh m c o as ks sel) env = bnd (evE T o env) fun x => bnd (insOf c x) fun fs => if (fs.lookup m).isNone = true then bnd (evEs T as env) fun vs => bnd (evEs T ks env) fun us => bnd (opt (selD (vs ++ us) sel)) fun ws => optF (methOf T c m) (x :: ws) else fail := by rw [evE]
@[simp] theorem evE_cmeth {c m : Str} {sel : List Sel} : evE T (.cmeth c m as ks sel) env = bnd (evEs T as env) fun vs => bnd (evEs T ks env) fun us => bnd (opt (selD (vs ++ us) sel)) fun ws => match T.cls c with
      | some k => optF (k.cmet m) (.glo c :: ws)
      | none => fail := by rw [evE]; try rfl
@[simp] theorem evE_oeq {ne : Bool} {c : Str} : evE T (.oeq ne c a b) env = bnd (evE T a env) fun x => bnd (evE T b env) fun y => eqO T ne c x y := by rw [evE]
@[simp] theorem evE_dund {k : Dk} {c : Str} : evE T (.dund k c a) env = bnd (evE T a env) (dundO T k c) := by rw [evE]
@[simp] theorem evE_attr {f : Str} : evE T (.attr o f) env = bnd (evE T o env) fun x => getAt T x f := by rw [evE]
@[simp] theorem evE_ix : evE T (.ix a b) env = bnd (evE T a env) fun x => bnd (evE T b env) fun y => getIx x y := by rw [evE]
@[simp] theorem evE_slice {lo hi : CO} : evE T (.slice a lo hi) env = bnd (evE T a env) fun x => bnd (evO T lo env) fun l => bnd (evO T hi env) fun h => getSl x l h := by rw [evE]
@[simp] theorem evE_tup : evE T (.tup as) env = bnd (evEs T as env) tupD := by rw [evE]
@[simp] theorem evE_lst : evE T (.lst as) env = bnd (evEs T as env) lstD := by rw [evE]
/-- one turn of a comprehension -/
def turnL (T : Tab) (g : CG) (t : CT) (e : CE) (own : List Nat) (env : Env) (d : D) : R (Option D) := bnd (evG T g d (wipeE env own)) fun env2 => bnd (evT T t env2) fun k => if k = true then bnd (evE T e env2) fun y => ret (some y) else ret none
@[simp] theorem evE_comp {it : CI} {g : CG} {e : CE} {own : List Nat} : evE T (.comp it g t e own) env = bnd (evI T it env) fun p => bnd (new (.lst [])) fun r => match r with
      | .ref n => bnd (compL p.2 n (turnL T g t e own env) p.1) fun _ => ret (.ref n)
      | _ => fail := by rw [evE]; rfl
@[simp] theorem evE_frz : evE T (.frz a) env = frzR (evE T a env) := by rw [evE]
@[simp] theorem evE_tupS {cs : CSt} : evE T (.tupS cs) env = bnd (evSt T cs env) tupD := by rw [evE]
@[simp] theorem evE_dnew : evE T .dnew env = new (.dct false []) := by rw [evE]
@[simp] theorem evE_dget : evE T (.dget a b) env = bnd (evE T a env) fun x => bnd (evE T b env) fun y => dgetD x y := by rw [evE]
@[simp] theorem evE_done : evE T (.done a b) env = bnd (new (.dct false [])) fun r => bnd (evE T a env) fun x => bnd (evE T b env) fun y => bnd (dsetD r x y) fun _ => ret r := by rw [evE]
@[simp] theorem evE_cnt : evE T (.cnt o a) env = bnd (evE T o env) fun x => bnd (isPt x) fun _ => bnd (evE T a env) fun y => countD x y := by rw [evE]
@[simp] theorem evE_inRng : evE T (.inRng a b) env = bnd (evE T a env) fun x => bnd (evE T b env) fun y => inRngD x y := by rw [evE]
@[simp] theorem evE_lrng : evE T (.lrng a) env = bnd (evE T a env) lrngD := by rw [evE]
@[simp] theorem evE_revS : evE T (.revS a) env = bnd (evE T a env) revD := by rw [evE]
@[simp] theorem evE_ptD : evE T (.ptD as) env = bnd (evEs T as env) ptD := by rw [evE]
@[simp] theorem evE_ptC : evE T (.ptC as) env = bnd (evEs T as env) ptB := by rw [evE]
@[simp] theorem evSt_nil : evSt T .nil env = ret [] := by rw [evSt]
@[simp] theorem evSt_cons {cs : CSt} : evSt T (.cons a cs) env = bnd (evE T a env) fun x => bnd (evSt T cs env) fun xs => ret (x :: xs) := by rw [evSt]
@[simp] theorem evSt_star {cs : CSt} : evSt T (.star a cs) env = bnd (evE T a env) fun x => bnd (seqD x) fun ys => bnd (evSt T cs env) fun xs => ret (ys ++ xs) := by rw [evSt]
@[simp] theorem evE_fstr : evE T (.fstr as) env = bnd (evJ T as Str.empty env) fun z => ret (.str z) := by rw [evE]
@[simp] theorem evE_fmt : evE T (.fmt a) env = bnd (evE T a env) fmtD := by rw [evE]
@[simp] theorem evE_andV : evE T (.andV a b) env = bnd (evE T a env) fun x => bnd (tru x) fun k => if k = true then evE T b env else ret x := by rw [evE]
@[simp] theorem evE_orV : evE T (.orV a b) env = bnd (evE T a env) fun x => bnd (tru x) fun k => if k = true then ret x else evE T b env := by rw [evE]
@[simp] theorem evE_notV : evE T (.notV a) env = bnd (evE T a env) fun x => bnd (tru x) fun k => ret (.bl (!k)) := by rw [evE]
@[simp] theorem evEs_nil : evEs T .nil env = ret [] := by rw [evEs]
@[simp] theorem evEs_cons : evEs T (.cons a es) env = bnd (evE T a env) fun x => bnd (evEs T es env) fun xs => ret (x :: xs) := by rw [evEs]
@[simp] theorem evJ_nil {acc : Str} : evJ T .nil acc env = ret acc := by rw [evJ]
@[simp] theorem evJ_cons {acc : Str} : evJ T (.cons a es) acc env = bnd (evE T a env) fun x => bnd (opt (glue acc x)) fun z => evJ T es z env := by rw [evJ]
/-! tests -/
@[simp] theorem evT_val : evT T (.val a) env = bnd (evE T a env) tru := by rw [evT]
@[simp] theorem evT_bl : evT T (.bl a) env = bnd (evE T a env) asBl := by rw [evT]
@[simp] theorem evT_nt : evT T (.nt t) env = bnd (evT T t env) fun b => ret (!b) := by rw [evT]
@[simp] theorem evT_an : evT T (.an t u) env = bnd (evT T t env) fun b => if b = true then evT T u env else ret false := by rw [evT]
@[simp] theorem evT_or : evT T (.or t u) env = bnd (evT T t env) fun b => if b = true then ret true else evT T u env := by rw [evT]
@[simp] theorem evT_yes : evT T .yes env = ret true := by rw [evT]
@[simp] theorem evO_no : evO T .no env = ret none := by rw [evO]
@[simp] theorem evO_yes : evO T (.yes a) env = bnd (evE T a env) optI := by rw [evO]
@[simp] theorem evI_of : evI T (.of a) env = bnd (evE T a env) itemsOf := by rw [evI]
/-- what range gives -/
def rngD : D → R (List D × Option (Nat × List D))
  | .int j => if inR j then ret (rangeD 0 j.toNat, none) else fail
  | _ => fail
def rng2D : D → D → R (List D × Option (Nat × List D))
  | .int i, .int j => if inR i && inR j then ret (rangeD i (j - i).toNat, none) else fail
  | _, _ => fail
@[simp] theorem rngD_int {j : Int} (h : inR j = true) : rngD (.int j) = ret (rangeD 0 j.toNat, none) := if_pos h
@[simp] theorem rng2D_int {i j : Int} (h : inR i = true) (h2 : inR j = true) : rng2D (.int i) (.int j) = ret (rangeD i (j - i).toNat, none) := if_pos (by rw [h, h2]; rfl)
@[simp] theorem evI_rng : evI T (.rng a) env = bnd (evE T a env) rngD := by
  rw [evI]
  rfl
@[simp] theorem evI_rng2 : evI T (.rng2 a b) env = bnd (evE T a env) fun x => bnd (evE T b env) fun y => rng2D x y := by
  rw [evI]
  rfl
@[simp] theorem evI_dkeys : evI T (.dkeys a) env = bnd (evE T a env) dkeysD := by rw [evI]
@[simp] theorem evI_zip : evI T (.zip a b) env = bnd (evE T a env) fun x => bnd (evE T b env) fun y => zipTD x y := by
  rw [evI]; rfl
@[simp] theorem evI_zipM : evI T (.zipM a b) env = bnd (evE T a env) fun x => bnd (evE T b env) fun y => zipMD x y := by rw [evI]
@[simp] theorem evI_enum : evI T (.enum a) env = bnd (evE T a env) fun x => bnd (seqG x) fun p => ret (numbered 0 p.1, p.2) := by rw [evI]
@[simp] theorem evG_nm {i : Nat} : evG T (.nm i) d env = ret (env.set i (some d)) := by rw [evG]
@[simp] theorem evG_tup {gs : CGs} : evG T (.tup gs) (.tup ds) env = if ds.length = gs.len then evGs T gs ds env else fail := by rw [evG]
@[simp] theorem evG_sub : evG T (.sub o i) d env = bnd (evE T o env) fun x => bnd (evE T i env) fun y => bnd (setIx x y d) fun _ => ret env := by rw [evG]
@[simp] theorem evG_dsub : evG T (.dsub o i) d env = bnd (evE T o env) fun x => bnd (evE T i env) fun y => bnd (dsetD x y d) fun _ => ret env := by rw [evG]
@[simp] theorem evG_att {f : Str} : evG T (.att o f) d env = bnd (evE T o env) fun x => bnd (setAt T x f d) fun _ => ret env := by rw [evG]
@[simp] theorem evGs_nil : evGs T .nil [] env = ret env := by rw [evGs]; rfl
@[simp] theorem evGs_cons {g : CG} {gs : CGs} : evGs T (.cons g gs) (d :: ds) env = bnd (evG T g d env) fun env2 => evGs T gs ds env2 := by rw [evGs]
@[simp] theorem len_nil : CGs.nil.len = 0 := rfl
@[simp] theorem len_cons {g : CG} {gs : CGs} : (CGs.cons g gs).len = gs.len + 1 := rfl
/-! statements -/
variable {g : CG} {s : CS} {ss sa sb : CSs} {it : CI}
@[simp] theorem evS_asg : evS T (.asg g a) env = bnd (evE T a env) fun d => bnd (evG T g d env) fun env2 => ret (.nx env2) := by rw [evS]
@[simp] theorem evS_ex : evS T (.ex a) env = bnd (evE T a env) fun _ => ret (.nx env) := by rw [evS]
@[simp] theorem evS_rt : evS T (.rt a) env = bnd (evE T a env) fun d => ret (.rt d) := by rw [evS]
@[simp] theorem evS_rtN : evS T .rtN env = ret (.rt .non) := by rw [evS]
@[simp] theorem evS_cond : evS T (.cond t sa sb) env = bnd (evT T t env) fun k => if k = true then evSs T sa env else evSs T sb env := by rw [evS]
/-- one turn of a loop -/
def bodyF (T : Tab) (g : CG) (sa : CSs) (d : D) (env : Env) : R Fl := bnd (evG T g d env) fun env2 => evSs T sa env2
@[simp] theorem evS_for : evS T (.forS g it sa) env = bnd (evI T it env) fun p => forL p.2 (bodyF T g sa) p.1 env := by rw [evS]; rfl
@[simp] theorem evS_pass : evS T .pass env = ret (.nx env) := by rw [evS]
@[simp] theorem evS_brk : evS T .brk env = ret (.bk env) := by rw [evS]
@[simp] theorem evS_cont : evS T .cont env = ret (.ct env) := by rw [evS]
@[simp] theorem evS_stuck : evS T .stuck env = fail := by rw [evS]
@[simp] theorem evS_try : evS T (.tryS sa) env = evSs T sa env := by rw [evS]
/-- what follows a statement -/
def thenS (T : Tab) (ss : CSs) : Fl → R Fl
  | .nx env2 => evSs T ss env2
  | .rt d => ret (.rt d)
  | .bk e => ret (.bk e)
  | .ct e => ret (.ct e)
@[simp] theorem evSs_nil : evSs T .nil env = ret (.nx env) := by rw [evSs]
@[simp] theorem evSs_cons : evSs T (.cons s ss) env = bnd (evS T s env) (thenS T ss) := by
  rw [evSs]
  rfl
@[simp] theorem thenS_nx : thenS T ss (.nx env) = evSs T ss env := nr rfl
@[simp] theorem thenS_rt : thenS T ss (.rt d) = ret (.rt d) := nr rfl
@[simp] theorem thenS_bk : thenS T ss (.bk env) = ret (.bk env) := nr rfl
@[simp] theorem thenS_ct : thenS T ss (.ct env) = ret (.ct env) := nr rfl
def endF : Fl → R D
  | .rt d => ret d
  | .nx _ => ret .non
  | _ => fail
theorem runDef_eq {n : Nat} : runDef T n ss vs = bnd (evSs T ss (vs.map some ++ List.replicate (n - vs.length) none)) endF := by
  unfold runDef
  rfl
@[simp] theorem endF_rt : endF (.rt d) = ret d := nr rfl
@[simp] theorem endF_nx : endF (.nx env) = ret .non := nr rfl
/-! data -/
@[simp] theorem getVar_0 : getVar (some d :: env) 0 = ret d := nr rfl
@[simp] theorem getVar_s {v : Option D} {n : Nat} : getVar (v :: env) (n + 1) = getVar env n := by unfold getVar; simp
@[simp] theorem asBl_bl {b : Bool} : asBl (.bl b) = ret b := nr rfl
@[simp] theorem tru_bl {b : Bool} : tru (.bl b) = ret b := nr rfl
@[simp] theorem tru_non : tru .non = ret false := nr rfl
@[simp] theorem tru_int {i : Int} : tru (.int i) = ret (i != 0) := nr rfl
@[simp] theorem add_int {i j : Int} : binD .add (.int i) (.int j) = ret (.int (i + j)) := nr rfl
@[simp] theorem sub_int {i j : Int} : binD .sub (.int i) (.int j) = ret (.int (i - j)) := nr rfl
@[simp] theorem mul_int {i j : Int} : binD .mul (.int i) (.int j) = if small i || small j then ret (.int (i * j)) else fail := nr rfl
@[simp] theorem mod_int {i j : Int} : binD .mod (.int i) (.int j) = if 0 < j then ret (.int (i % j)) else fail := nr rfl
@[simp] theorem fdiv_int {i j : Int} : binD .fdiv (.int i) (.int j) = if 0 < j ∧ j < 1073741824 then ret (.int (i / j)) else fail := nr rfl
@[simp] theorem pow_int {i j : Int} : binD .pow (.int i) (.int j) = if 0 ≤ j ∧ j ≤ 1000000 ∧ i.natAbs < 2 ^ 64 then ret (.int (i ^ j.toNat)) else fail := nr rfl
@[simp] theorem add_str {a b : Str} : binD .add (.str a) (.str b) = if a.length + b.length ≤ sizeLine then ret (.str (a ++ b)) else fail := nr rfl
@[simp] theorem add_tup {a b : List D} : binD .add (.tup a) (.tup b) = if a.length + b.length ≤ sizeLine then ret (.tup (a ++ b)) else fail := nr rfl
@[simp] theorem lt_int {i j : Int} : cmpD .lt (.int i) (.int j) = ret (.bl (decide (i < j))) := nr rfl
@[simp] theorem le_int {i j : Int} : cmpD .le (.int i) (.int j) = ret (.bl (decide (i ≤ j))) := nr rfl
@[simp] theorem gt_int {i j : Int} : cmpD .gt (.int i) (.int j) = ret (.bl (decide (j < i))) := nr rfl
@[simp] theorem ge_int {i j : Int} : cmpD .ge (.int i) (.int j) = ret (.bl (decide (j ≤ i))) := nr rfl
@[simp] theorem lt_str {i j : Str} : cmpD .lt (.str i) (.str j) = ret (.bl (decide (i.cps.toList < j.cps.toList))) := nr rfl
@[simp] theorem ge_str {i j : Str} : cmpD .ge (.str i) (.str j) = ret (.bl (!decide (i.cps.toList < j.cps.toList))) := nr rfl
theorem shaped_flat {i : Int} : SeqAt.shaped (.int i) = true := by first | rfl | simp [SeqAt.shaped]
theorem shaped_str {i : Str} (h : PyData.strOk i = true) : SeqAt.shaped (.str i) = true := by simp [SeqAt.shaped, PyData.canLay0, PyData.depth, h]
theorem eqD_int {i j : Int} : eqD (.int i) (.int j) = ret (i == j) := by
  funext M
  unfold eqD
  simp only [toPy, shaped_flat, Bool.and_self, if_true]
  rfl
theorem eqD_str {i j : Str} (hi : PyData.strOk i = true) (hj : PyData.strOk j = true) : eqD (.str i) (.str j) = ret (i == j) := by
  funext M
  unfold eqD
  simp only [toPy, shaped_str hi, shaped_str hj, Bool.and_self, if_true]
  rfl
@[simp] theorem eq_int {i j : Int} : cmpD .eq (.int i) (.int j) = ret (.bl (i == j)) := by unfold cmpD; simp only [eqD_int, bnd_ret]
@[simp] theorem ne_int {i j : Int} : cmpD .ne (.int i) (.int j) = ret (.bl (!(i == j))) := by unfold cmpD; simp only [eqD_int, bnd_ret]
theorem eq_str {i j : Str} (hi : PyData.strOk i = true) (hj : PyData.strOk j = true) : cmpD .eq (.str i) (.str j) = ret (.bl (i == j)) := by unfold cmpD; simp only [eqD_str hi hj, bnd_ret]
theorem ne_str {i j : Str} (hi : PyData.strOk i = true) (hj : PyData.strOk j = true) : cmpD .ne (.str i) (.str j) = ret (.bl (!(i == j))) := by unfold cmpD; simp only [eqD_str hi hj, bnd_ret]
@[simp] theorem isNot_bl {i j : Bool} : cmpD .isNot (.bl i) (.bl j) = ret (.bl (!(i == j))) := nr rfl
@[simp] theorem isO_bl {i j : Bool} : cmpD .isO (.bl i) (.bl j) = ret (.bl (i == j)) := nr rfl
@[simp] theorem int_int {i : Int} : bfun .int [.int i] = ret (.int i) := nr rfl
@[simp] theorem abs_int {i : Int} : bfun .abs [.int i] = ret (.int (if i < 0 then -i else i)) := nr rfl
@[simp] theorem str_int {i : Int} : bfun .str [.int i] = if i.natAbs.log2 < 1920 then ret (.str (toString i)) else fail := nr rfl
@[simp] theorem max_int {i j : Int} : bfun .max [.int i, .int j] = ret (.int (if j > i then j else i)) := nr rfl
@[simp] theorem min_int {i j : Int} : bfun .min [.int i, .int j] = ret (.int (if j < i then j else i)) := nr rfl
@[simp] theorem len_tup : bfun .len [.tup ds] = ret (.int ds.length) := nr rfl
@[simp] theorem len_scr : bfun .len [.scr ds] = ret (.int ds.length) := nr rfl
@[simp] theorem len_str {y : Str} : bfun .len [.str y] M = if y.length ≤ sizeLine then some (Except.ok (D.int y.length), M) else none := nr rfl
theorem tupD_eq : tupD vs = if vs.length ≤ sizeLine then ret (.tup vs) else fail := rfl
theorem lstD_eq : lstD vs = if vs.length ≤ sizeLine then new (.lst vs) else fail := rfl
@[simp] theorem new_at {o : O} : new o M = some (.ok (.ref M.length), M ++ [o]) := nr rfl
theorem ix_ref {n : Nat} {k : Int} : getIx (.ref n) (.int k) M = match M[n]? with | some (.lst ds) => (match L2.atI ds k with | none => none | some d => some (.ok d, M)) | _ => none := by
  show (match (match M[n]? with | some (.lst ds) => some ds | _ => none : Option (List D)) with | some ds => (match L2.atI ds k with | none => none | some d => some (Except.ok d, M)) | none => none) = _
  cases M[n]? with
  | none => rfl
  | some o => cases o <;> rfl
theorem ix_tup {k : Int} : getIx (.tup ds) (.int k) M = match L2.atI ds k with | none => none | some d => some (Except.ok d, M) := rfl
theorem ix_scr {k : Int} : getIx (.scr ds) (.int k) M = match L2.atI ds k with | none => none | some d => some (Except.ok d, M) := rfl
theorem ix_str {y : Str} {k : Int} : getIx (.str y) (.int k) M = if y.length ≤ sizeLine then match L2.atI y.cps.toList k with | none => none | some c => some (Except.ok (D.str ⟨#[c]⟩), M) else none := rfl
theorem setIx_ref {n : Nat} {k : Int} : setIx (.ref n) (.int k) d M = match M[n]? with | some (.lst ds) => (match L2.ixN ds.length k with | some j => some (.ok (), M.set n (.lst (ds.set j d))) | none => none) | _ => none := rfl
@[simp] theorem noErr_at {m : R α} : noErr m M = match m M with | some (.ok a, M') => some (.ok a, M') | _ => none := nr rfl
@[simp] theorem selD_nil : selD vs [] = some [] := rfl
@[simp] theorem selD_val {r : List Sel} : selD vs (.val d :: r) = match selD vs r with | some ds => some (d :: ds) | none => none := by rw [selD]; try rfl
@[simp] theorem selD_arg {k : Nat} {r : List Sel} : selD vs (.arg k :: r) = match vs[k]?, selD vs r with | some d, some ds => some (d :: ds) | _, _ => none := by rw [selD]; try rfl
@[simp] theorem items_str {y : Str} : itemsOf (.str y) = ret (y.cps.toList.map fun c => .str ⟨#[c]⟩, none) := rfl
@[simp] theorem items_tup : itemsOf (.tup ds) = ret (ds, none) := rfl
@[simp] theorem items_fl : itemsOf (.fl ds) = ret (ds, none) := rfl
@[simp] theorem items_pt : itemsOf (.pt ds) = ret (ds, none) := rfl
@[simp] theorem len_fl : bfun .len [.fl ds] = ret (.int ds.length) := nr rfl
@[simp] theorem len_pt : bfun .len [.pt ds] = ret (.int ds.length) := nr rfl
theorem ix_fl {k : Int} : getIx (.fl ds) (.int k) M = match L2.atI ds k with | none => none | some d => some (Except.ok d, M) := rfl
@[simp] theorem seqG_fl : seqG (.fl ds) = ret (ds, none) := rfl
@[simp] theorem seqG_pt : seqG (.pt ds) = ret (ds, none) := rfl
@[simp] theorem seqD_tup : seqD (.tup ds) = ret ds := rfl
@[simp] theorem items_scr : itemsOf (.scr ds) = ret (ds, none) := rfl
theorem items_ref {n : Nat} : itemsOf (.ref n) M = match M[n]? with | some (.lst ds) => some (.ok (ds, some (n, ds)), M) | _ => none := rfl
@[simp] theorem seqG_tup : seqG (.tup ds) = ret (ds, none) := rfl
@[simp] theorem rangeD_0 {k : Int} : rangeD k 0 = [] := rfl
@[simp] theorem bmTy_a : bmTy .append = "list" := rfl
@[simp] theorem bmTy_p : bmTy .partition = "str" := rfl
@[simp] theorem bmTy_s : bmTy .split = "str" := rfl
@[simp] theorem bmTy_i : bmTy .index = "list" := rfl
@[simp] theorem bmTy_c : bmTy .count = "list" := rfl
@[simp] theorem tyChk_fl {ds : List D} : tyChk "list" (.fl ds) = ret () := rfl
@[simp] theorem bmTy_j : bmTy .join = "str" := rfl
theorem append_ref {n : Nat} : bmeth .append (.ref n) [d] M = match M[n]? with | some (.lst ds) => if ds.length < sizeLine then some (.ok .non, M.set n (.lst (ds ++ [d]))) else none | _ => none := rfl
theorem tyChk_ref {n : Nat} {S : String} : tyChk S (.ref n) M = match M[n]? with | some (.lst _) => if S = "list" then some (.ok (), M) else none | _ => none := rfl
@[simp] theorem tyChk_str {y : Str} : tyChk "str" (.str y) = ret () := rfl
theorem at_pos {α : Type} {xs : List α} {k : Int} (h0 : 0 ≤ k) (h1 : k < xs.length) : L2.atI xs k = xs[k.toNat]? := by
  unfold L2.atI L2.ixN
  rw [if_pos h0, if_pos h1]
  rfl
@[simp] theorem forL_nil {g : Option (Nat × List D)} {turn : D → Env → R Fl} : forL g turn [] env = bnd (chk g) fun _ => ret (.nx env) := rfl
@[simp] theorem chk_none : chk none = ret () := rfl
end
end DL
end
section
set_option Elab.async false
set_option linter.all false
set_option maxRecDepth 100000
set_option maxHeartbeats 2000000
/-! DL, part w: loops by invariants; the store. -/
namespace DL
open PySem
section
variable {g : Option (Nat × List D)} {turn : D → Env → R Fl}
theorem forL_step {d : D} {ds : List D} {env e1 : Env} {M M1 : Mem} (hg : chk g M = some (.ok (), M)) (h : turn d env M = some (.ok (.nx e1), M1)) : forL g turn (d :: ds) env M = forL g turn ds e1 M1 := by
  show bnd (chk g) _ M = _
  rw [bnd_ok hg, bnd_ok h]
theorem forL_rt {d r : D} {ds : List D} {env : Env} {M M1 : Mem} (hg : chk g M = some (.ok (), M)) (h : turn d env M = some (.ok (.rt r), M1)) : forL g turn (d :: ds) env M = some (.ok (.rt r), M1) := by
  show bnd (chk g) _ M = _
  rw [bnd_ok hg, bnd_ok h]
theorem forL_run (P : Nat → Env → Mem → Prop) (hg : ∀ i env M, P i env M → chk g M = some (.ok (), M)) : ∀ (ds : List D) (k : Nat) (env : Env) (M : Mem), P k env M →
    (∀ i d env M, ds[i]? = some d → P (k + i) env M → ∃ env' M', turn d env M = some (.ok (.nx env'), M') ∧ P (k + i + 1) env' M') → ∃ env' M', forL g turn ds env M = some (.ok (.nx env'), M') ∧ P (k + ds.length) env' M'
  | [], k, env, M, h, _ => ⟨env, M, by
      show bnd (chk g) _ M = _
      rw [bnd_ok (hg k env M h)]
      , h⟩
  | d :: ds, k, env, M, h, step => by
    obtain ⟨e1, M1, h1, p1⟩ := step 0 d env M rfl h
    obtain ⟨e2, M2, h2, p2⟩ := forL_run P hg ds (k + 1) e1 M1 p1 fun i d env M hd hp => by
      have := step (i + 1) d env M (by simpa using hd) (by have e : k + (i + 1) = k + 1 + i := by omega
                                                           rw [e]; exact hp)
      have e : k + (i + 1) + 1 = k + 1 + i + 1 := by omega
      rw [e] at this
      exact this
    refine ⟨e2, M2, ?_, ?_⟩
    · show bnd (chk g) _ M = _
      rw [bnd_ok (hg k env M h), bnd_ok h1]
      exact h2
    · have e : k + (d :: ds).length = k + 1 + ds.length := by simp only [List.length_cons]; omega
      rw [e]; exact p2
theorem forL_0 (P : Nat → Env → Mem → Prop) (hg : ∀ i env M, P i env M → chk g M = some (.ok (), M)) {ds : List D} {env : Env} {M : Mem} (h : P 0 env M)
    (step : ∀ i d env M, ds[i]? = some d → P i env M → ∃ env' M', turn d env M = some (.ok (.nx env'), M') ∧ P (i + 1) env' M') : ∃ env' M', forL g turn ds env M = some (.ok (.nx env'), M') ∧ P ds.length env' M' := by
  have := forL_run P hg ds 0 env M h fun i d env M hd hp => by
    rw [Nat.zero_add] at hp ⊢
    exact step i d env M hd hp
  rw [Nat.zero_add] at this
  exact this
end
section
variable {g : Option (Nat × List D)} {n : Nat} {turn : D → R (Option D)}
/-- a comprehension whose turns may change the store -/
theorem compL_run (P : List D → Mem → Prop) (hg : ∀ acc M, P acc M → chk g M = some (.ok (), M)) (hn : ∀ acc M, P acc M → M[n]? = some (.lst acc)) : ∀ (ds : List D) (acc : List D) (M : Mem), acc.length + ds.length ≤ sizeLine → P acc M →
    (∀ d acc M, d ∈ ds → P acc M → ∃ y M1, turn d M = some (.ok (some y), M1) ∧ M1[n]? = some (.lst acc) ∧ P (acc ++ [y]) (M1.set n (.lst (acc ++ [y])))) →
    ∃ acc' M', compL g n turn ds M = some (.ok (), M') ∧ P acc' M' ∧ acc'.length = acc.length + ds.length
  | [], acc, M, _, h, _ => ⟨acc, M, by show chk g M = _; exact hg acc M h, h, rfl⟩
  | d :: ds, acc, M, hz, h, step => by
    obtain ⟨y, M1, h1, h2, p1⟩ := step d acc M List.mem_cons_self h
    have hl : acc.length < sizeLine := by simp only [List.length_cons] at hz; omega
    have hz' : (acc ++ [y]).length + ds.length ≤ sizeLine := by simp only [List.length_append, List.length_cons, List.length_nil] at hz ⊢; omega
    obtain ⟨acc', M', h3, p3, l3⟩ := compL_run P hg hn ds (acc ++ [y]) _ hz' p1 fun d' acc' M' hd hp => step d' acc' M' (List.mem_cons_of_mem _ hd) hp
    refine ⟨acc', M', ?_, p3, ?_⟩
    · show bnd (chk g) _ M = _
      rw [bnd_ok (hg acc M h), bnd_ok h1]
      show bnd (push n y) _ M1 = _
      have hp : push n y M1 = some (.ok (), M1.set n (.lst (acc ++ [y]))) := by
        unfold push
        rw [h2]
        dsimp only
        rw [if_pos hl]
      rw [bnd_ok hp]
      exact h3
    · rw [l3]; simp only [List.length_append, List.length_cons, List.length_nil]; omega
/-- a comprehension whose turns leave the store as it is: the new list is the last object -/
theorem compL_map (f : D → D) (N : Mem) (hg : ∀ acc, chk g (N ++ [.lst acc]) = some (.ok (), N ++ [.lst acc])) {ds : List D} (hz : ds.length ≤ sizeLine) (ht : ∀ d acc, d ∈ ds → turn d (N ++ [.lst acc]) = some (.ok (some (f d)), N ++ [.lst acc])) :
    compL g N.length turn ds (N ++ [.lst []]) = some (.ok (), N ++ [.lst (ds.map f)]) := by
  suffices go : ∀ (ds acc : List D), acc.length + ds.length ≤ sizeLine → (∀ d acc, d ∈ ds → turn d (N ++ [.lst acc]) = some (.ok (some (f d)), N ++ [.lst acc])) → compL g N.length turn ds (N ++ [.lst acc]) = some (.ok (), N ++ [.lst (acc ++ ds.map f)]) by
    simpa using go ds [] (by simpa using hz) ht
  intro ds
  induction ds with
  | nil => intro acc _ _; show chk g _ = _; rw [hg]; simp
  | cons d ds ih =>
    intro acc hz ht
    have hl : acc.length < sizeLine := by simp only [List.length_cons] at hz; omega
    show bnd (chk g) _ _ = _
    rw [bnd_ok (hg acc), bnd_ok (ht d acc List.mem_cons_self)]
    show bnd (push N.length (f d)) _ _ = _
    have hp : push N.length (f d) (N ++ [.lst acc]) = some (.ok (), N ++ [.lst (acc ++ [f d])]) := by
      unfold push
      rw [List.getElem?_append_right (Nat.le_refl _)]
      simp only [Nat.sub_self, List.getElem?_cons_zero]
      rw [if_pos hl]
      simp [List.set_append]
    rw [bnd_ok hp]
    have := ih (acc ++ [f d]) (by simp only [List.length_append, List.length_cons, List.length_nil] at hz ⊢; omega) fun d' acc' hd => ht d' acc' (List.mem_cons_of_mem _ hd)
    rw [this]
    simp
end
theorem get_set {M : Mem} {n : Nat} {o : O} (h : M[n]? = some o) (x : O) : (M.set n x)[n]? = some x := List.getElem?_set_self (List.getElem?_eq_some_iff.mp h).1
theorem get_app {M : Mem} {n : Nat} {o : O} (h : M[n]? = some o) (N : Mem) : (M ++ N)[n]? = some o := by
  rw [List.getElem?_append_left (List.getElem?_eq_some_iff.mp h).1]; exact h
theorem get_new {M : Mem} {o : O} {N : Mem} : (M ++ o :: N)[M.length]? = some o := by
  rw [List.getElem?_append_right (Nat.le_refl _)]; simp
/-- the store behind draws and new objects: the n-th object is a pool again, those of before stay -/
def isPool (o : O) : Prop := ∃ a b c, o = .lst [.int a, .int b, .int c]
structure Grow (n : Nat) (M M' : Mem) : Prop where
  pool : ∃ o, M'[n]? = some o ∧ isPool o
  keep : ∀ i o, i ≠ n → M[i]? = some o → M'[i]? = some o
  len : M.length ≤ M'.length
theorem Grow.trans {n : Nat} {M M1 M2 : Mem} (a : Grow n M M1) (b : Grow n M1 M2) : Grow n M M2 := ⟨b.pool, fun i o h e => b.keep i o h (a.keep i o h e), Nat.le_trans a.len b.len⟩
theorem Grow.refl {n : Nat} {M : Mem} (h : ∃ o, M[n]? = some o ∧ isPool o) : Grow n M M := ⟨h, fun _ _ _ e => e, Nat.le_refl _⟩
theorem Grow.app {n : Nat} {M M' : Mem} (a : Grow n M M') (N : Mem) : Grow n M (M' ++ N) := ⟨let ⟨o, h, p⟩ := a.pool; ⟨o, get_app h N, p⟩, fun i o h e => get_app (a.keep i o h e) N, by rw [List.length_append]; exact Nat.le_trans a.len (Nat.le_add_right _ _)⟩
end DL
end
section
set_option Elab.async false
set_option linter.all false
set_option maxRecDepth 100000
set_option maxHeartbeats 2000000
/-! DL, part x: single steps on the store. -/
namespace DL
open PySem
section
variable {M : Mem} {m : Nat} {ds : List D}
theorem lstOf_ref (h : M[m]? = some (.lst ds)) : lstOf M (.ref m) = some ds := by
  unfold lstOf
  dsimp only
  rw [h]
theorem seqOf_ref (h : M[m]? = some (.lst ds)) : seqOf M (.ref m) = some ds := by
  unfold seqOf
  first | (dsimp only; rw [h]) | (dsimp only; exact lstOf_ref h)
theorem chk_ref (h : M[m]? = some (.lst ds)) : chk (some (m, ds)) M = some (.ok (), M) := by
  unfold chk
  dsimp only
  rw [h]
  dsimp only
  rw [if_pos (D.beqs_self ds)]
theorem items_at (h : M[m]? = some (.lst ds)) : itemsOf (.ref m) M = some (.ok (ds, some (m, ds)), M) := by rw [items_ref, h]
theorem tuple_at (h : M[m]? = some (.lst ds)) : bfun .tuple [.ref m] M = some (.ok (.tup ds), M) := by
  unfold bfun tupleB
  dsimp only
  rw [seqOf_ref h]
theorem mapO_bl : ∀ bs : List Bool, blsOf (bs.map D.bl) = some bs
  | [] => rfl
  | b :: bs => by
    have ih := mapO_bl bs
    unfold blsOf at ih ⊢
    rw [List.map_cons, mapO, ih]
theorem mapO_str : ∀ fs : List Str, strsOf (fs.map D.str) = some fs
  | [] => rfl
  | f :: fs => by
    have ih := mapO_str fs
    unfold strsOf at ih ⊢
    rw [List.map_cons, mapO, ih]
theorem all_at {bs : List Bool} (h : M[m]? = some (.lst (bs.map D.bl))) : bfun .all [.ref m] M = some (.ok (.bl (bs.all id)), M) := by
  unfold bfun allB
  dsimp only
  rw [lstOf_ref h]
  dsimp only
  rw [mapO_bl]
theorem join_at {a : Str} {ys : List Str} (h : M[m]? = some (.lst (ys.map D.str))) (hz : (ys.map (·.length)).sum + ys.length * a.length ≤ 16777216) : bmeth .join (.str a) [.ref m] M = some (.ok (.str (Txt.join a ys)), M) := by
  unfold bmeth joinM
  dsimp only
  rw [seqOf_ref h]
  dsimp only
  rw [mapO_str]
  dsimp only
  rw [if_pos hz]
theorem in_sign {c : Nat} {b : Str} : cmpD .inO (.str ⟨#[c]⟩) (.str b) = ret (.bl (decide (c ∈ b.cps.toList))) := rfl
theorem notIn_sign {c : Nat} {b : Str} : cmpD .notIn (.str ⟨#[c]⟩) (.str b) = ret (.bl (!decide (c ∈ b.cps.toList))) := rfl
theorem isi_true {T : Tab} {x c : D} (h1 : insOk T M x = true) (h2 : isAny M x c = some true) : isiD T x c M = some (.ok true, M) := by
  unfold isiD
  rw [if_pos h1, h2]
theorem at_0 {α : Type} {x : α} {xs : List α} : L2.atI (x :: xs) 0 = some x := by
  rw [at_pos (by omega) (by simp)]
  rfl
theorem at_1 {α : Type} {x y : α} {xs : List α} : L2.atI (x :: y :: xs) 1 = some y := by
  rw [at_pos (by omega) (by simp; omega)]
  rfl
/-- objects are added, none is changed -/
def Ext (M M' : Mem) : Prop := ∃ N, M' = M ++ N
theorem Ext.refl (M : Mem) : Ext M M := ⟨[], by simp⟩
theorem Ext.add (M N : Mem) : Ext M (M ++ N) := ⟨N, rfl⟩
theorem Ext.trans {A B C : Mem} (h : Ext A B) (g : Ext B C) : Ext A C := by
  obtain ⟨N, rfl⟩ := h
  obtain ⟨P, rfl⟩ := g
  exact ⟨N ++ P, by simp⟩
theorem Ext.get {A B : Mem} (h : Ext A B) {n : Nat} {o : O} (e : A[n]? = some o) : B[n]? = some o := by
  obtain ⟨N, rfl⟩ := h
  exact get_app e N
theorem Ext.len {A B : Mem} (h : Ext A B) : A.length ≤ B.length := by
  obtain ⟨N, rfl⟩ := h
  rw [List.length_append]
  exact Nat.le_add_right _ _
theorem Grow.ext {n : Nat} {A B C : Mem} (g : Grow n A B) (h : Ext B C) : Grow n A C := by
  obtain ⟨N, rfl⟩ := h
  exact g.app N
theorem Ext.grow {n : Nat} {A B : Mem} (h : Ext A B) (p : ∃ o, A[n]? = some o ∧ isPool o) : Grow n A B := by
  obtain ⟨N, rfl⟩ := h
  exact (Grow.refl p).app N
end
end DL
end
section
set_option Elab.async false
set_option linter.all false
set_option maxRecDepth 100000
set_option maxHeartbeats 2000000
/-! DL, part y: instances on the store; texts of numbers. -/
namespace DL
open PySem
section
variable {T : Tab} {M : Mem} {n : Nat} {c f : Str} {fs : List (Str × D)} {k : ClsT} {d : D}
theorem setAt_at (h : M[n]? = some (.ins c fs)) (hc : T.cls c = some k) (hf : k.fld.contains f = true) (hl : fs.length < 1000) : setAt T (.ref n) f d M = some (.ok (), M.set n (.ins c (putF f d fs))) := by
  unfold setAt
  dsimp only
  rw [h]
  dsimp only
  rw [hc]
  dsimp only
  rw [if_pos ⟨hf, hl⟩]
theorem insAny_ref (h : M[n]? = some (.ins c fs)) : insAny M (.ref n) = some (c, fs) := by
  unfold insAny
  dsimp only
  rw [h]
theorem insAny_ob {ns : List Str} {ds : List D} : insAny M (.ob c ns ds) = some (c, ns.zip ds) := rfl
theorem getAt_fld {x : D} (h : insAny M x = some (c, fs)) (hc : T.cls c = some k) (hp : k.prop f = none) (hf : k.fld.contains f = true) (hl : fs.lookup f = some d) : getAt T x f M = some (.ok d, M) := by
  unfold getAt
  rw [h]
  dsimp only
  rw [hc]
  dsimp only
  rw [hp]
  dsimp only
  rw [if_pos hf, hl]
theorem getAt_prop {x : D} {g : FM} (h : insAny M x = some (c, fs)) (hc : T.cls c = some k) (hp : k.prop f = some g) : getAt T x f M = noErr (g [x]) M := by
  unfold getAt
  rw [h]
  dsimp only
  rw [hc]
  dsimp only
  rw [hp]
theorem insOf_at {x : D} (h : insAny M x = some (c, fs)) : insOf c x M = some (.ok fs, M) := by
  unfold insOf
  rw [h]
  dsimp only
  rw [if_pos rfl]
theorem dundO_at {x : D} {q : Dk} {g : FM} {z : D} {M1 : Mem} {M2 : Mem} {y : D} (h : insAny M x = some (c, fs)) (hg : methOf T c (dkName q) = some g) (e : g [x] M = some (.ok z, M1)) (e2 : dundD q z M1 = some (.ok y, M2)) : dundO T q c x M = some (.ok y, M2) := by
  unfold dundO
  rw [bnd_ok (insOf_at h), hg]
  have : optF (some g) [x] M = some (.ok z, M1) := by
    show noErr (g [x]) M = _
    rw [noErr_at, e]
  rw [bnd_ok this]
  exact e2
theorem makeI_at {vs : List D} {M' : Mem} (hc : T.cls c = some k) (e : k.init (.ref M.length :: vs) (M ++ [.ins c []]) = some (.ok .non, M')) : makeI T c vs M = some (.ok (.ref M.length), M') := by
  unfold makeI
  rw [hc]
  dsimp only
  rw [e]
theorem eqO_at {x : D} {ne : Bool} {y : D} {g : FM} {b : Bool} {M1 : Mem} (hy : insOk T M y = true) (hp : plainR y = true) (h : insAny M x = some (c, fs)) (hg : eqmOf T c = some g) (e : g [x, y] M = some (.ok (.bl b), M1)) : eqO T ne c x y M = some (.ok (.bl (if ne = true then !b else b)), M1) := by
  unfold eqO
  rw [if_pos ⟨hy, hp⟩, bnd_ok (insOf_at h), hg]
  have : optF (some g) [x, y] M = some (.ok (.bl b), M1) := by
    show noErr (g [x, y]) M = _
    rw [noErr_at, e]
  rw [bnd_ok this]
  rfl
end
theorem set_mid {M N : Mem} {o x : O} : (M ++ o :: N).set M.length x = M ++ x :: N := by
  rw [List.set_append_right _ _ (Nat.le_refl _), Nat.sub_self]
  rfl
theorem empty_app (x : Str) : Str.empty ++ x = x := TL.ext_tl (by rw [TL.tl_append]; rfl)
@[simp] theorem glue_str {a b : Str} : glue a (.str b) = if (a ++ b).length ≤ sizeLine then some (a ++ b) else none := nr rfl
theorem len_app (a b : Str) : (a ++ b).length = a.length + b.length := by rw [TL.len_tl, TL.tl_append, List.length_append, ← TL.len_tl, ← TL.len_tl]
theorem log_small {i : Int} (h : i.natAbs ≤ 1000) : i.natAbs.log2 < 1920 := Nat.lt_of_le_of_lt (Nat.log2_le_self _) (by omega)
/-- the text of a number -/
abbrev num (i : Int) : Str := Str.ofString (toString i)
theorem num_nat {i : Int} (h : 0 ≤ i) : num i = Str.ofString (toString ((i.toNat : Nat) : Int)) := by
  have e : ((i.toNat : Nat) : Int) = i := by omega
  unfold num
  rw [e]
theorem num_tl {i : Int} (h : 0 ≤ i) : (num i).cps.toList = TL.numL i.toNat := by rw [num_nat h]; exact TL.tl_num _
theorem num_len {i : Int} {k : Nat} (hk : 0 < k) (h : 0 ≤ i) (h2 : i.toNat < 10 ^ k) : (num i).length ≤ k := by
  rw [TL.len_tl]
  show (num i).cps.toList.length ≤ k
  rw [num_tl h]
  exact TL.numL_len hk h2
theorem str_num {i : Int} (h : i.natAbs ≤ 1000) : bfun .str [.int i] = ret (.str (num i)) := by
  rw [str_int, if_pos (log_small h)]
theorem fmt_num {i : Int} (h : i.natAbs ≤ 1000) : fmtD (.int i) = ret (.str (num i)) := by
  unfold fmtD
  dsimp only
  rw [if_pos (log_small h)]
theorem fmt_str {y : Str} (h : y.length ≤ sizeLine) : fmtD (.str y) = ret (.str y) := by
  unfold fmtD
  dsimp only
  rw [if_pos h]
theorem int_num {i : Int} (h : 0 ≤ i) (h2 : i ≤ 1000) : bfun .int [.str (num i)] = ret (.int i) := by
  have l := num_len (i := i) (k := 4) (by decide) h (by omega)
  have e : PySem.intText? (num i) = some i := by
    rw [num_nat h, TL.int_num (by
      have := TL.numL_len (n := i.toNat) (k := 4) (by decide) (by omega)
      omega)]
    congr 1
    omega
  unfold bfun intB
  dsimp only
  rw [e]
  dsimp only
  rw [if_pos (by omega)]
theorem join_len (y : Str) (k : Nat) : ∀ ys : List Str, (∀ x ∈ ys, x.length ≤ k) → (ys.map (·.length)).sum ≤ ys.length * k
  | [], _ => Nat.zero_le _
  | x :: ys, h => by
    have := join_len y k ys fun z hz => h z (List.mem_cons_of_mem _ hz)
    have hx := h x List.mem_cons_self
    rw [List.map_cons, List.sum_cons, List.length_cons, Nat.add_mul, Nat.one_mul]
    omega
theorem joinL_len (S : List Nat) (k : Nat) : ∀ l : List (List Nat), (∀ x ∈ l, x.length ≤ k) → (TL.joinL S l).length ≤ l.length * (k + S.length)
  | [], _ => Nat.zero_le _
  | [x], h => by
    have := h x (by simp)
    show x.length ≤ 1 * (k + S.length)
    omega
  | x :: z :: l, h => by
    have hx := h x (by simp)
    have := joinL_len S k (z :: l) fun y hy => h y (List.mem_cons_of_mem _ hy)
    show (x ++ (S ++ TL.joinL S (z :: l))).length ≤ _
    rw [List.length_append, List.length_append]
    simp only [List.length_cons, Nat.add_mul, Nat.one_mul] at this ⊢
    omega
theorem joinS_len (y : Str) (k : Nat) (ys : List Str) (h : ∀ x ∈ ys, x.length ≤ k) : (Txt.join y ys).length ≤ ys.length * (k + y.length) := by
  rw [TL.join_eq, TL.len_tl, TL.tl_join, TL.len_tl y]
  have := joinL_len (TL.tl y) k (ys.map TL.tl) (by
    intro x hx
    obtain ⟨z, hz, rfl⟩ := List.mem_map.mp hx
    rw [← TL.len_tl]
    exact h z hz)
  rwa [List.length_map] at this
end DL
end
section
set_option Elab.async false
set_option linter.all false
set_option maxRecDepth 100000
set_option maxHeartbeats 2000000
/-! DL, part z: comprehensions that add objects; texts of low signs. -/
namespace DL
open PySem
theorem ext_of {A B : Mem} (h : ∀ (i : Nat) (o : O), A[i]? = some o → B[i]? = some o) : Ext A B := by
  refine ⟨B.drop A.length, ?_⟩
  refine List.ext_getElem? fun i => ?_
  by_cases hi : i < A.length
  · rw [List.getElem?_append_left hi]
    have e := List.getElem?_eq_getElem hi
    rw [e]
    exact h i _ e
  · have hi' : A.length ≤ i := Nat.le_of_not_lt hi
    rw [List.getElem?_append_right hi', List.getElem?_drop]
    congr 1
    omega
/-- the guard of a loop over a list that the loop leaves alone -/
def GOk (g : Option (Nat × List D)) (n : Nat) (M : Mem) : Prop := match g with
  | none => True
  | some (m, es) => m ≠ n ∧ M[m]? = some (.lst es)
theorem GOk.chk {g : Option (Nat × List D)} {n : Nat} {M : Mem} (h : GOk g n M) : chk g M = some (.ok (), M) := by
  cases g with
  | none => rfl
  | some p => exact chk_ref h.2
theorem GOk.keep {g : Option (Nat × List D)} {n : Nat} {M M' : Mem} (h : GOk g n M) (k : ∀ i o, i ≠ n → M[i]? = some o → M'[i]? = some o) : GOk g n M' := by
  cases g with
  | none => trivial
  | some p => exact ⟨h.1, k _ _ h.1 h.2⟩
theorem compL_ext {α : Type} {g : Option (Nat × List D)} {n : Nat} {turn : D → R (Option D)} (a b : α → D) : ∀ (xs : List α) (acc : List D) (M : Mem), acc.length + xs.length ≤ 16777216 → M[n]? = some (.lst acc) → GOk g n M → (∀ x M, x ∈ xs → ∃ N, turn (a x) M = some (.ok (some (b x)), M ++ N)) →
    ∃ M', compL g n turn (xs.map a) M = some (.ok (), M') ∧ M'[n]? = some (.lst (acc ++ xs.map b)) ∧ (∀ i o, i ≠ n → M[i]? = some o → M'[i]? = some o) ∧ M.length ≤ M'.length
  | [], acc, M, _, hn, hg, _ => ⟨M, by show chk g M = _; exact hg.chk, by simpa using hn, (fun _ _ _ e => e), Nat.le_refl _⟩
  | d :: ds, acc, M, hz, hn, hg, ht => by
    obtain ⟨N, e⟩ := ht d M List.mem_cons_self
    have hn1 : (M ++ N)[n]? = some (.lst acc) := get_app hn N
    have hl : acc.length < sizeLine := by rw [sizeLine_eq]; simp only [List.length_cons] at hz; omega
    have hp : push n (b d) (M ++ N) = some (.ok (), (M ++ N).set n (.lst (acc ++ [b d]))) := by
      unfold push
      rw [hn1]
      dsimp only
      rw [if_pos hl]
    have keep : ∀ i o, i ≠ n → M[i]? = some o → ((M ++ N).set n (.lst (acc ++ [b d])))[i]? = some o := by
      intro i o hi e
      rw [List.getElem?_set_ne (Ne.symm hi)]
      exact get_app e N
    obtain ⟨M', e', a1, a2, a3⟩ := compL_ext (g := g) a b ds (acc ++ [b d]) _ (by simp only [List.length_append, List.length_cons, List.length_nil] at hz ⊢; omega) (get_set hn1 _) (hg.keep keep) fun d' M hd => ht d' M (List.mem_cons_of_mem _ hd)
    refine ⟨M', ?_, by rw [a1]; simp, fun i o hi e => a2 i o hi (keep i o hi e), ?_⟩
    · rw [List.map_cons]
      show bnd (chk g) _ M = _
      rw [bnd_ok hg.chk, bnd_ok e]
      show bnd (push n (b d)) _ _ = _
      rw [bnd_ok hp]
      exact e'
    · rw [List.length_set, List.length_append] at a3
      omega
/-- the same, the new list being the last object -/
theorem compL_new {α : Type} {g : Option (Nat × List D)} {turn : D → R (Option D)} (a b : α → D) (xs : List α) (M : Mem) (hz : xs.length ≤ 16777216) (hg : match g with | none => True | some (m, es) => M[m]? = some (.lst es)) (ht : ∀ x M, x ∈ xs → ∃ N, turn (a x) M = some (.ok (some (b x)), M ++ N)) :
    ∃ N, compL g M.length turn (xs.map a) (M ++ [.lst []]) = some (.ok (), M ++ N) ∧ (M ++ N)[M.length]? = some (.lst (xs.map b)) := by
  obtain ⟨M', e, a1, a2, a3⟩ := compL_ext (g := g) a b xs [] (M ++ [.lst []]) (by simpa using hz) get_new (by
    cases g with
    | none => trivial
    | some p => exact ⟨Nat.ne_of_lt (List.getElem?_eq_some_iff.mp hg).1, get_app hg _⟩) ht
  obtain ⟨N, rfl⟩ := ext_of (A := M) (B := M') fun i o h => a2 i o (Nat.ne_of_lt (List.getElem?_eq_some_iff.mp h).1) (get_app h _)
  exact ⟨N, e, by simpa using a1⟩
/-! low signs -/
def Low (x : Str) : Prop := ∀ c ∈ x.cps.toList, c < 256
theorem Low.ok {x : Str} (h : Low x) : PyData.strOk x = true := by
  unfold PyData.strOk
  rw [Array.all_eq_true_iff_forall_mem]
  intro c hc
  have := h c (Array.mem_toList_iff.mpr hc)
  exact decide_eq_true (by omega)
theorem Low.app {x y : Str} (hx : Low x) (hy : Low y) : Low (x ++ y) := by
  intro c hc
  have e := TL.tl_append x y
  unfold TL.tl at e
  rw [e] at hc
  exact (List.mem_append.mp hc).elim (hx c) (hy c)
theorem Low.num {i : Int} (h : 0 ≤ i) : Low (num i) := by
  intro c hc
  rw [num_tl h] at hc
  have := TL.numL_digits i.toNat c hc
  omega
theorem low_joinL {S : List Nat} (hS : ∀ c ∈ S, c < 256) : ∀ l : List (List Nat), (∀ x ∈ l, ∀ c ∈ x, c < 256) → ∀ c ∈ TL.joinL S l, c < 256
  | [], _, c, hc => by cases hc
  | [x], h, c, hc => h x (by simp) c hc
  | x :: z :: l, h, c, hc => by
    have hc' : c ∈ x ++ (S ++ TL.joinL S (z :: l)) := hc
    rcases List.mem_append.mp hc' with q | q
    · exact h x (by simp) c q
    · rcases List.mem_append.mp q with q | q
      · exact hS c q
      · exact low_joinL hS (z :: l) (fun y hy => h y (List.mem_cons_of_mem _ hy)) c q
theorem Low.join {y : Str} (hy : Low y) {xs : List Str} (h : ∀ x ∈ xs, Low x) : Low (Txt.join y xs) := by
  intro c hc
  rw [TL.join_eq] at hc
  have e := TL.tl_join y xs
  unfold TL.tl at e
  rw [e] at hc
  refine low_joinL hy _ ?_ c hc
  intro l hl
  obtain ⟨x, hx, rfl⟩ := List.mem_map.mp hl
  exact h x hx
/-- what lies behind a known beginning -/
theorem cut_tail (a b : Str) (k : Nat) (hk : a.length = k) : L2.cutS (a ++ b) (some (k : Int)) none = b := by
  refine TL.ext_tl ?_
  have ea : a.cps.toList.length = k := by rw [← hk]; simp [Str.length]
  have e0 : (a ++ b).cps.toList = a.cps.toList ++ b.cps.toList := TL.tl_append a b
  have el : (a ++ b).length = k + b.cps.toList.length := by
    have : (a ++ b).length = (a ++ b).cps.toList.length := by simp [Str.length]
    rw [this, e0, List.length_append, ea]
  have e : (L2.cutS (a ++ b) (some (k : Int)) none).cps.toList = ((a ++ b).cps.toList.drop (HT.sIx (a ++ b).length 0 (some (k : Int)))).take (HT.sIx (a ++ b).length (a ++ b).length none - HT.sIx (a ++ b).length 0 (some (k : Int))) := by
    unfold L2.cutS
    simp
  show (L2.cutS (a ++ b) (some (k : Int)) none).cps.toList = b.cps.toList
  have s1 : HT.sIx (a ++ b).length 0 (some (k : Int)) = k := by
    rw [HT.sIx_nat, el]
    omega
  have s2 : HT.sIx (a ++ b).length (a ++ b).length none = k + b.cps.toList.length := by
    rw [HT.sIx_none, el]
  rw [e, s1, s2, e0, ← ea, List.drop_left]
  exact List.take_of_length_le (by omega)
theorem part_at {a b p q r : Str} {M : Mem} (h : Txt.partition a b = (p, q, r)) (h1 : (b.length == 0) = false) (h2 : a.length ≤ 16777216) : bmeth .partition (.str a) [.str b] M = some (.ok (.tup [.str p, .str q, .str r]), M) := by
  unfold bmeth partM
  dsimp only
  rw [if_pos ⟨h1, by rw [sizeLine_eq]; exact h2⟩, h]
  try rfl
theorem split_at {a b : Str} {xs : List Str} {M : Mem} (h : Txt.split a b = xs) (h1 : (b.length == 0) = false) (h2 : a.length ≤ 1000) : bmeth .split (.str a) [.str b] M = some (.ok (.ref M.length), M ++ [.lst (xs.map .str)]) := by
  unfold bmeth splitM
  dsimp only
  rw [if_pos ⟨h1, by rw [sizeLine_eq]; omega⟩, h]
  try rfl
theorem slice_at {a x : Str} {lo hi : Option Int} {M : Mem} (h : L2.cutS a lo hi = x) (h2 : a.length ≤ 16777216) : getSl (.str a) lo hi M = some (.ok (.str x), M) := by
  unfold getSl
  dsimp only
  rw [if_pos (by rw [sizeLine_eq]; exact h2), h]
end DL
end
section
set_option Elab.async false
set_option linter.all false
set_option maxRecDepth 100000
set_option maxHeartbeats 2000000
/-! DL, part zz: shown texts of plain data. -/
namespace DL
open PySem
mutual
def okP : PyData → Bool
  | .none => true
  | .bool _ => true
  | .int i => decide (i.natAbs < 10 ^ 12)
  | .str x => x.cps.toList.all fun c => decide (c < 256)
  | .list xs => okPs xs
  | .tuple xs => okPs xs
  | .dict _ => false
def okPs : List PyData → Bool
  | [] => true
  | x :: xs => okP x && okPs xs
end
theorem low_iff {x : Str} : (x.cps.toList.all fun c => decide (c < 256)) = true ↔ Low x := by
  rw [List.all_eq_true]
  exact ⟨fun h c hc => of_decide_eq_true (h c hc), fun h c hc => decide_eq_true (h c hc)⟩
theorem repr_char_low {q c : Nat} (hq : q = 34 ∨ q = 39) (hc : c < 256) : ∀ d ∈ Builtin.Str.reprChar q c, d < 256 := by
  have h1 : ∀ c : Nat, c < 256 → (Builtin.Str.reprChar 34 c).all (fun d => decide (d < 256)) = true := by decide +kernel
  have h2 : ∀ c : Nat, c < 256 → (Builtin.Str.reprChar 39 c).all (fun d => decide (d < 256)) = true := by decide +kernel
  intro d hd
  rcases hq with rfl | rfl
  · exact of_decide_eq_true (List.all_eq_true.mp (h1 c hc) d hd)
  · exact of_decide_eq_true (List.all_eq_true.mp (h2 c hc) d hd)
theorem repr_fold_low {q : Nat} (hq : q = 34 ∨ q = 39) : ∀ (l : List Nat) (acc : Array Nat), (∀ c ∈ l, c < 256) → (∀ c ∈ acc.toList, c < 256) → ∀ c ∈ (l.foldl (fun out c => out ++ (Builtin.Str.reprChar q c).toArray) acc).toList, c < 256
  | [], acc, _, h => h
  | c :: r, acc, hl, h => by
    rw [List.foldl_cons]
    refine repr_fold_low hq r _ (fun d hd => hl d (List.mem_cons_of_mem _ hd)) ?_
    intro d hd
    rw [Array.toList_append] at hd
    rcases List.mem_append.mp hd with q | q
    · exact h d q
    · exact repr_char_low hq (hl c List.mem_cons_self) d (by simpa using q)
theorem repr_low {x : Str} (h : Low x) : Low (reprText x) := by
  have hq : reprQuote x = 34 ∨ reprQuote x = 39 := by unfold reprQuote; split <;> simp
  intro c hc
  unfold reprText at hc
  have hc' : c ∈ ((x.cps.foldl (fun out c => out ++ (Builtin.Str.reprChar (reprQuote x) c).toArray) #[reprQuote x]).push (reprQuote x)).toList := hc
  rw [Array.toList_push, ← Array.foldl_toList] at hc'
  rcases List.mem_append.mp hc' with q | q
  · exact repr_fold_low hq x.cps.toList _ h (fun d hd => by
      have : d = reprQuote x := by simpa using hd
      rw [this]; rcases hq with e | e <;> rw [e] <;> decide) c q
  · have : c = reprQuote x := by simpa using q
    rw [this]; rcases hq with e | e <;> rw [e] <;> decide
theorem int_low (i : Int) : Low (num i) := by
  intro c hc
  by_cases h : c < 256
  · exact h
  · exact absurd hc (PyProof.Rows.int_text_free' c ⟨by omega, by omega⟩ i)
theorem joinS_low {y : Str} (hy : Low y) {xs : List Str} (h : ∀ x ∈ xs, Low x) : Low (Str.join y xs) := by
  rw [← TL.join_eq]; exact Low.join hy h
theorem lit_sep : Low ", " := by unfold Low; decide +kernel
theorem text_low : ∀ (ts : List Str) (k : Nat) (acc : Str), (∀ t ∈ ts, Low t) → Low acc → Low (textFrom k acc ts)
  | [], k, acc, _, h => h
  | t :: ts, k, acc, ht, h => by
    show Low (textFrom (k + 1) (acc ++ (if k > 0 then ", " else "" : String) ++ t) ts)
    refine text_low ts (k + 1) _ (fun z hz => ht z (List.mem_cons_of_mem _ hz)) ((h.app ?_).app (ht t List.mem_cons_self))
    split
    · unfold Low; decide +kernel
    · unfold Low; decide +kernel
mutual
theorem shown_low : ∀ d : PyData, okP d = true → Low d.shown
  | .none, _ => by unfold Low; decide +kernel
  | .bool b, _ => by cases b <;> (unfold Low; decide +kernel)
  | .int i, _ => by
    simp only [PyData.shown]
    exact int_low i
  | .str x, h => by
    simp only [PyData.shown]
    exact repr_low (low_iff.mp (by simpa only [okP] using h))
  | .list xs, h => by
    simp only [PyData.shown]
    unfold listText
    refine (text_low _ 0 _ (shownAll_low xs (by simpa only [okP] using h)) ?_).app ?_
    · unfold Low; decide +kernel
    · unfold Low; decide +kernel
  | .tuple xs, h => by
    simp only [PyData.shown]
    unfold tupleText
    refine (Low.app ?_ (joinS_low lit_sep (shownAll_low xs (by simpa only [okP] using h)))).app ?_
    · unfold Low; decide +kernel
    · split
      · unfold Low; decide +kernel
      · unfold Low; decide +kernel
  | .dict _, h => by simp only [okP] at h; exact nomatch h
theorem shownAll_low : ∀ xs : List PyData, okPs xs = true → ∀ t ∈ PyData.shownAll xs, Low t
  | [], _, t, ht => by simp only [PyData.shownAll] at ht; cases ht
  | x :: xs, h, t, ht => by
    have h' : okP x = true ∧ okPs xs = true := by simpa only [okPs, Bool.and_eq_true] using h
    simp only [PyData.shownAll] at ht
    rcases List.mem_cons.mp ht with e | e
    · rw [e]; exact shown_low x h'.1
    · exact shownAll_low xs h'.2 t e
end
mutual
theorem ok_lay : ∀ d : PyData, okP d = true → d.canLay0 = true
  | .none, _ => by simp only [PyData.canLay0]
  | .bool b, _ => by simp only [PyData.canLay0]
  | .int i, _ => by simp only [PyData.canLay0]
  | .str x, h => by
    simp only [PyData.canLay0]
    exact (low_iff.mp (by simpa only [okP] using h)).ok
  | .list xs, h => by
    simp only [PyData.canLay0]
    exact ok_lays xs (by simpa only [okP] using h)
  | .tuple xs, h => by
    simp only [PyData.canLay0]
    exact ok_lays xs (by simpa only [okP] using h)
  | .dict _, h => by simp only [okP] at h; exact nomatch h
theorem ok_lays : ∀ xs : List PyData, okPs xs = true → PyData.canLayAll0 xs = true
  | [], _ => by simp only [PyData.canLayAll0]
  | x :: xs, h => by
    have h' : okP x = true ∧ okPs xs = true := by simpa only [okPs, Bool.and_eq_true] using h
    simp only [PyData.canLayAll0, Bool.and_eq_true]
    exact ⟨ok_lay x h'.1, ok_lays xs h'.2⟩
end
mutual
theorem ok_ints : ∀ d : PyData, okP d = true → d.intsShort 13 = true
  | .none, _ => by simp only [PyData.intsShort]
  | .bool b, _ => by simp only [PyData.intsShort]
  | .int i, h => by
    simp only [PyData.intsShort]
    exact decide_eq_true (PyData.shown_int_le (of_decide_eq_true (by simpa only [okP] using h)))
  | .str x, h => by simp only [PyData.intsShort]
  | .list xs, h => by
    simp only [PyData.intsShort]
    exact ok_intss xs (by simpa only [okP] using h)
  | .tuple xs, h => by
    simp only [PyData.intsShort]
    exact ok_intss xs (by simpa only [okP] using h)
  | .dict _, h => by simp only [okP] at h; exact nomatch h
theorem ok_intss : ∀ xs : List PyData, okPs xs = true → PyData.intsShortAll 13 xs = true
  | [], _ => by simp only [PyData.intsShortAll]
  | x :: xs, h => by
    have h' : okP x = true ∧ okPs xs = true := by simpa only [okPs, Bool.and_eq_true] using h
    simp only [PyData.intsShortAll, Bool.and_eq_true]
    exact ⟨ok_ints x h'.1, ok_intss xs h'.2⟩
end
mutual
theorem ok_showable : ∀ d : PyData, okP d = true → d.showable = true
  | .none, _ => by simp only [PyData.showable]
  | .bool b, _ => by simp only [PyData.showable]
  | .int i, h => by
    simp only [PyData.showable]
    have h1 : i.natAbs < 10 ^ 12 := of_decide_eq_true (by simpa only [okP] using h)
    have h2 : i.natAbs < 2 ^ 40 := Nat.lt_trans h1 (by decide)
    have : i.natAbs.log2 < 40 := by
      by_cases z : i.natAbs = 0
      · rw [z]; decide
      · exact (Nat.log2_lt z).mpr h2
    exact decide_eq_true (by omega)
  | .str x, h => by simp only [PyData.showable]
  | .list xs, h => by
    simp only [PyData.showable]
    exact ok_showables xs (by simpa only [okP] using h)
  | .tuple xs, h => by
    simp only [PyData.showable]
    exact ok_showables xs (by simpa only [okP] using h)
  | .dict _, h => by simp only [okP] at h; exact nomatch h
theorem ok_showables : ∀ xs : List PyData, okPs xs = true → PyData.showableAll xs = true
  | [], _ => by simp only [PyData.showableAll]
  | x :: xs, h => by
    have h' : okP x = true ∧ okPs xs = true := by simpa only [okPs, Bool.and_eq_true] using h
    simp only [PyData.showableAll, Bool.and_eq_true]
    exact ⟨ok_showable x h'.1, ok_showables xs h'.2⟩
end
theorem repr_at {M : Mem} {x : D} {p : PyData} (h : toPy M 20 x = some p) (ok : okP p = true) (hd : p.depth ≤ 60) (hw : p.weight ≤ 2 ^ 20) : bfun .repr [x] M = some (.ok (.str p.shown), M) := by
  have l := ok_lay p ok
  have s := PyData.shown_fits (B := 13) (by decide) (by decide) (PyData.leavesShort_of_canLay0 13 p l (ok_ints p ok)) hw
  unfold bfun reprB
  dsimp only
  unfold reprD
  rw [h]
  dsimp only
  rw [if_pos]
  simp only [Bool.and_eq_true, Bool.not_eq_true', decide_eq_true_eq]
  exact ⟨⟨⟨ok_showable p ok, PyData.hasDict_of_canLay p l⟩, hd⟩, s⟩
end DL
namespace DL
open PySem
theorem okPs_map {α : Type} (f : α → PyData) : ∀ xs : List α, (∀ x ∈ xs, okP (f x) = true) → okPs (xs.map f) = true
  | [], _ => by simp only [List.map_nil, okPs]
  | x :: xs, h => by
    rw [List.map_cons]
    simp only [okPs, Bool.and_eq_true]
    exact ⟨h x List.mem_cons_self, okPs_map f xs fun y hy => h y (List.mem_cons_of_mem _ hy)⟩
theorem depth_map {α : Type} (f : α → PyData) (k : Nat) : ∀ xs : List α, (∀ x ∈ xs, (f x).depth ≤ k) → PyData.depthAll (xs.map f) ≤ k
  | [], _ => by simp only [List.map_nil, PyData.depthAll]; omega
  | x :: xs, h => by
    rw [List.map_cons]
    simp only [PyData.depthAll]
    exact Nat.max_le.mpr ⟨h x List.mem_cons_self, depth_map f k xs fun y hy => h y (List.mem_cons_of_mem _ hy)⟩
theorem weight_map {α : Type} (f : α → PyData) (k : Nat) : ∀ xs : List α, (∀ x ∈ xs, (f x).weight ≤ k) → PyData.weightAll (xs.map f) ≤ xs.length * (k + 1)
  | [], _ => by simp only [List.map_nil, PyData.weightAll]; omega
  | x :: xs, h => by
    rw [List.map_cons]
    simp only [PyData.weightAll, List.length_cons]
    rw [Nat.add_mul, Nat.one_mul]
    have a := h x List.mem_cons_self
    have b := weight_map f k xs fun y hy => h y (List.mem_cons_of_mem _ hy)
    generalize xs.length * (k + 1) = z at b ⊢
    omega
theorem weight_int {i : Int} (h : i.natAbs ≤ 1000) : (PyData.int i).weight ≤ 1001 := by
  simp only [PyData.weight]
  split
  · omega
  · have := Nat.log2_le_self i.natAbs
    omega
theorem weight_str {x : Str} : (PyData.str x).weight = x.length := by simp only [PyData.weight]; rfl
theorem mapO_map {α β : Type} {f : α → Option β} {γ : Type} (a : γ → α) (b : γ → β) : ∀ xs : List γ, (∀ x ∈ xs, f (a x) = some (b x)) → mapO f (xs.map a) = some (xs.map b)
  | [], _ => rfl
  | x :: xs, h => by
    rw [List.map_cons, List.map_cons, mapO, h x List.mem_cons_self, mapO_map a b xs fun y hy => h y (List.mem_cons_of_mem _ hy)]
end DL
end
section
set_option Elab.async false
set_option linter.all false
set_option maxRecDepth 100000
set_option maxHeartbeats 2000000
/-! DL, part R: a computation run step by step. -/
namespace DL
open PySem
section
variable {α β : Type} {T : Tab} {env : Env} {M M' : Mem} {Q : α → Mem → Prop}
def Run (m : R α) (M : Mem) (Q : α → Mem → Prop) : Prop := ∃ a M', m M = some (.ok a, M') ∧ Q a M'
theorem run_bnd {m : R β} {f : β → R α} : Run (bnd m f) M Q ↔ Run m M fun a M' => Run (f a) M' Q := by
  constructor
  · rintro ⟨a, M', e, q⟩
    unfold bnd at e
    cases h : m M with
    | none => rw [h] at e; cases e
    | some p =>
      obtain ⟨r, M1⟩ := p
      rw [h] at e
      cases r with
      | error x => cases e
      | ok b => exact ⟨b, M1, h, a, M', e, q⟩
  · rintro ⟨b, M1, h, a, M', e, q⟩
    exact ⟨a, M', by rw [bnd_ok h]; exact e, q⟩
theorem run_ret {a : α} : Run (ret a) M Q ↔ Q a M := ⟨fun ⟨b, M', e, q⟩ => by cases (show some (Except.ok a, M) = some (.ok b, M') from e); exact q, fun q => ⟨a, M, rfl, q⟩⟩
theorem run_of {m : R α} {a : α} (h : m M = some (.ok a, M')) (q : Q a M') : Run m M Q := ⟨a, M', h, q⟩
theorem run_eq {m : R α} {a : α} (h : Run m M fun b N => b = a ∧ N = M') : m M = some (.ok a, M') := by
  obtain ⟨b, N, e, rfl, rfl⟩ := h
  exact e
theorem run_imp {m : R α} {Q' : α → Mem → Prop} (h : Run m M Q) (i : ∀ a M', Q a M' → Q' a M') : Run m M Q' := let ⟨a, M', e, q⟩ := h; ⟨a, M', e, i a M' q⟩
theorem run_ite {c : Prop} [Decidable c] {m n : R α} : Run (if c then m else n) M Q ↔ if c then Run m M Q else Run n M Q := by split <;> rfl
theorem run_new {o : O} {Q : D → Mem → Prop} : Run (new o) M Q ↔ Q (.ref M.length) (M ++ [o]) := ⟨fun ⟨b, M', e, q⟩ => by cases (show some (Except.ok (D.ref M.length), M ++ [o]) = some (.ok b, M') from e); exact q, fun q => ⟨_, _, rfl, q⟩⟩
theorem run_noErr {m : R α} : Run (noErr m) M Q ↔ Run m M Q := by
  unfold Run
  rw [show (noErr m M) = match m M with | some (.ok a, M') => some (.ok a, M') | _ => none from rfl]
  constructor
  · rintro ⟨a, M', e, q⟩
    split at e
    · rename_i a1 M1 h
      cases e
      exact ⟨a, M', h, q⟩
    · cases e
  · rintro ⟨a, M', e, q⟩
    exact ⟨a, M', by rw [e], q⟩
theorem run_optF {fm : FM} {vs : List D} {Q : D → Mem → Prop} : Run (optF (some fm) vs) M Q ↔ Run (fm vs) M Q := run_noErr
theorem run_lst {vs : List D} {Q : D → Mem → Prop} (h : vs.length ≤ 16777216) : Run (lstD vs) M Q ↔ Q (.ref M.length) (M ++ [.lst vs]) := by
  rw [lstD_eq, if_pos (by rw [sizeLine_eq]; exact h)]
  exact run_new
theorem run_tup {vs : List D} {Q : D → Mem → Prop} (h : vs.length ≤ 16777216) : Run (tupD vs) M Q ↔ Q (.tup vs) M := by
  rw [tupD_eq, if_pos (by rw [sizeLine_eq]; exact h)]
  exact run_ret
end
end DL
end
section
set_option Elab.async false
set_option linter.all false
set_option maxRecDepth 100000
set_option maxHeartbeats 2000000
/-! DL, part S: computations let go. -/
namespace DL
open PySem
mutual
/-- no reference within -/
def D.cl : D → Bool
  | .ref _ => false
  | .tup ds => D.cls ds
  | .scr ds => D.cls ds
  | .fl ds => D.cls ds
  | .pt ds => D.cls ds
  | .ob _ _ ds => D.cls ds
  | _ => true
def D.cls : List D → Bool
  | [] => true
  | d :: ds => D.cl d && D.cls ds
end
mutual
theorem D.cl_low {n : Nat} : ∀ d : D, D.cl d = true → D.low n d = true
  | .ref _, h => by simp [D.cl] at h
  | .tup ds, h => by simp only [D.cl] at h; simp only [D.low]; exact D.cls_low ds h
  | .scr ds, h => by simp only [D.cl] at h; simp only [D.low]; exact D.cls_low ds h
  | .fl ds, h => by simp only [D.cl] at h; simp only [D.low]; exact D.cls_low ds h
  | .pt ds, h => by simp only [D.cl] at h; simp only [D.low]; exact D.cls_low ds h
  | .ob _ _ ds, h => by simp only [D.cl] at h; simp only [D.low]; exact D.cls_low ds h
  | .non, _ => by simp [D.low]
  | .bl _, _ => by simp [D.low]
  | .int _, _ => by simp [D.low]
  | .str _, _ => by simp [D.low]
  | .glo _, _ => by simp [D.low]
  | .bty _, _ => by simp [D.low]
theorem D.cls_low {n : Nat} : ∀ ds : List D, D.cls ds = true → D.lows n ds = true
  | [], _ => by simp [D.lows]
  | d :: ds, h => by
    simp only [D.cls, Bool.and_eq_true] at h
    simp only [D.lows, Bool.and_eq_true]
    exact ⟨D.cl_low d h.1, D.cls_low ds h.2⟩
end
theorem D.cls_iff : ∀ {ds : List D}, D.cls ds = true ↔ ∀ d ∈ ds, D.cl d = true
  | [] => by simp [D.cls]
  | d :: ds => by simp [D.cls, D.cls_iff (ds := ds)]
theorem cls_map {α : Type} {f : α → D} {xs : List α} (h : ∀ x ∈ xs, D.cl (f x) = true) : D.cls (xs.map f) = true := by
  rw [D.cls_iff]
  intro d hd
  obtain ⟨x, hx, rfl⟩ := List.mem_map.mp hd
  exact h x hx
@[simp] theorem cl_int {i : Int} : D.cl (.int i) = true := by simp [D.cl]
@[simp] theorem cl_str {x : Str} : D.cl (.str x) = true := by simp [D.cl]
@[simp] theorem cl_bl {b : Bool} : D.cl (.bl b) = true := by simp [D.cl]
@[simp] theorem cl_non : D.cl .non = true := by simp [D.cl]
@[simp] theorem cl_tup {ds : List D} : D.cl (.tup ds) = D.cls ds := by simp [D.cl]
@[simp] theorem cl_fl {ds : List D} : D.cl (.fl ds) = D.cls ds := by simp [D.cl]
@[simp] theorem cl_pt {ds : List D} : D.cl (.pt ds) = D.cls ds := by simp [D.cl]
@[simp] theorem cl_scr {ds : List D} : D.cl (.scr ds) = D.cls ds := by simp [D.cl]
@[simp] theorem cl_ob {c : Str} {ns : List Str} {ds : List D} : D.cl (.ob c ns ds) = D.cls ds := by simp [D.cl]
@[simp] theorem cls_nil : D.cls [] = true := by simp [D.cls]
@[simp] theorem cls_cons {d : D} {ds : List D} : D.cls (d :: ds) = (D.cl d && D.cls ds) := by simp [D.cls]
theorem cls_ints (ns : List Int) : D.cls (ns.map D.int) = true := cls_map fun _ _ => cl_int
theorem cls_strs (ns : List Str) : D.cls (ns.map D.str) = true := cls_map fun _ _ => cl_str
section
variable {M M' N : Mem} {n : Nat} {d d' : D} {ds : List D} {m : R D}
theorem frD_cl (h : D.cl d = true) : ∀ k, frD M n k d = some d
  | 0 => by unfold frD; rw [if_pos (D.cl_low d h)]
  | k + 1 => by unfold frD; rw [if_pos (D.cl_low d h)]
theorem frDs_cl {k : Nat} : ∀ {ds : List D}, D.cls ds = true → mapO (frD M n k) ds = some ds
  | [], _ => rfl
  | d :: ds, h => by
    simp only [cls_cons, Bool.and_eq_true] at h
    rw [mapO, frD_cl h.1, frDs_cl h.2]
theorem frD_lst {i k : Nat} (hi : n ≤ i) (h : M[i]? = some (.lst ds)) (c : D.cls ds = true) : frD M n (k + 1) (.ref i) = some (.fl ds) := by
  unfold frD
  rw [if_neg (by simp only [D.low, decide_eq_true_eq]; omega)]
  dsimp only
  rw [h]
  dsimp only
  rw [frDs_cl c]
  rfl
theorem frD_ins {i k : Nat} {c : Str} {fs : List (Str × D)} (hi : n ≤ i) (h : M[i]? = some (.ins c fs)) (hc : D.cls (fs.map (·.2)) = true) : frD M n (k + 1) (.ref i) = some (.ob c (fs.map (·.1)) (fs.map (·.2))) := by
  unfold frD
  rw [if_neg (by simp only [D.low, decide_eq_true_eq]; omega)]
  dsimp only
  rw [h]
  dsimp only
  rw [frDs_cl hc]
  rfl
theorem oldOk_app (n : Nat) : ∀ (M N : Mem), oldOk n M (M ++ N) = true
  | [], N => by cases N <;> rfl
  | o :: M, N => by
    rw [List.cons_append]
    unfold oldOk
    rw [O.beq_self, oldOk_app n M N]
    rfl
theorem oldOk_set {o : O} (h : O.low n o = true) : ∀ (M N : Mem) (i : Nat), oldOk n M (M.set i o ++ N) = true
  | [], N, i => by cases N <;> rfl
  | p :: M, N, 0 => by
    rw [List.set_cons_zero, List.cons_append]
    unfold oldOk
    rw [h, oldOk_app n M N]
    simp
  | p :: M, N, i + 1 => by
    rw [List.set_cons_succ, List.cons_append]
    unfold oldOk
    rw [O.beq_self, oldOk_set h M N i]
    rfl
theorem frz_of {M' : Mem} (h : m M = some (.ok d, M')) (hd : frD M' M.length 20 d = some d') (ho : oldOk M.length M M' = true) : frzR m M = some (.ok d', M'.take M.length) := by
  unfold frzR
  rw [h]
  dsimp only
  rw [hd]
  dsimp only
  rw [if_pos ho]
/-- objects added alone -/
theorem frz_ext (h : m M = some (.ok d, M')) (e : Ext M M') (hd : frD M' M.length 20 d = some d') : frzR m M = some (.ok d', M) := by
  obtain ⟨N, rfl⟩ := e
  have := frz_of h hd (oldOk_app _ M N)
  rwa [List.take_left] at this
/-- one object written beside -/
theorem frz_set {o : O} {i : Nat} (h : m M = some (.ok d, M')) (e : Ext (M.set i o) M') (hl : O.low M.length o = true) (hd : frD M' M.length 20 d = some d') : frzR m M = some (.ok d', M.set i o) := by
  obtain ⟨N, rfl⟩ := e
  have := frz_of h hd (oldOk_set hl M N i)
  rwa [List.take_left' (by simp)] at this
@[simp] theorem frz_ret (h : D.cl d = true) : frzR (ret d) = ret d := by
  funext M
  exact frz_ext (M' := M) rfl (Ext.refl M) (frD_cl h _)
@[simp] theorem frz_noErr : frzR (noErr m) = frzR m := by
  funext M
  unfold frzR
  simp only [noErr_at]
  cases h : m M with
  | none => rfl
  | some p =>
    obtain ⟨r, M'⟩ := p
    cases r <;> rfl
@[simp] theorem frz_fail : frzR fail = fail := rfl
@[simp] theorem frz_ite {p : Prop} [Decidable p] {a b : R D} : frzR (if p then a else b) = if p then frzR a else frzR b := by split <;> rfl
/-- a pure computation -/
theorem frz_pure (h : ∀ M, ∃ d M', m M = some (.ok d, M') ∧ Ext M M' ∧ frD M' M.length 20 d = some d') : frzR m = ret d' := by
  funext M
  obtain ⟨d, M', h1, h2, h3⟩ := h M
  exact frz_ext h1 h2 h3
theorem frz_new (h : D.cls ds = true) : frzR (new (.lst ds)) = ret (.fl ds) := frz_pure fun M => ⟨_, _, rfl, Ext.add _ _, frD_lst (Nat.le_refl _) get_new h⟩
/-- a new list, and what is read off it -/
theorem frz_newB {f : D → R D} (hc : D.cl d = true) (h : ∀ M, f (.ref M.length) (M ++ [.lst ds]) = some (.ok d, M ++ [.lst ds])) : frzR (bnd (new (.lst ds)) f) = ret d :=
  frz_pure fun M => ⟨d, M ++ [O.lst ds], h M, Ext.add _ _, frD_cl hc _⟩
end
/-! ### comprehensions whose turns are pure -/
theorem compL_fm {n : Nat} {turn : D → R (Option D)} (f : D → Option D) : ∀ (ds acc : List D) (M : Mem), acc.length + ds.length ≤ 16777216 → M[n]? = some (.lst acc) → (∀ d ∈ ds, turn d = ret (f d)) → compL none n turn ds M = some (.ok (), M.set n (.lst (acc ++ ds.filterMap f)))
  | [], acc, M, _, h, _ => by
    show some (Except.ok (), M) = _
    rw [List.filterMap_nil, List.append_nil]
    obtain ⟨hl, he⟩ := List.getElem?_eq_some_iff.mp h
    rw [← he, List.set_getElem_self hl]
  | d :: ds, acc, M, hz, h, ht => by
    show bnd (turn d) _ M = _
    rw [ht d List.mem_cons_self, bnd_ret]
    have hz' : acc.length + ds.length + 1 ≤ 16777216 := by simpa [Nat.add_assoc] using hz
    cases hf : f d with
    | none =>
      dsimp only
      rw [compL_fm f ds acc M (by omega) h fun d' hd => ht d' (List.mem_cons_of_mem _ hd), List.filterMap_cons_none hf]
    | some y =>
      dsimp only
      have hp : push n y M = some (.ok (), M.set n (.lst (acc ++ [y]))) := by
        unfold push
        rw [h]
        dsimp only
        rw [if_pos (by rw [sizeLine_eq]; omega)]
      rw [bnd_ok hp, compL_fm f ds (acc ++ [y]) _ (by simp; omega) (get_set h _) fun d' hd => ht d' (List.mem_cons_of_mem _ hd), List.filterMap_cons_some hf, List.set_set]
      simp
section
variable {T : Tab} {it : CI} {g : CG} {tt : CT} {e : CE} {own : List Nat} {env : Env}
/-- a comprehension is a new list -/
theorem evE_comp_fm {ds : List D} (f : D → Option D) (hi : evI T it env = ret (ds, none)) (hz : ds.length ≤ 16777216) (ht : ∀ d ∈ ds, turnL T g tt e own env d = ret (f d)) : evE T (.comp it g tt e own) env = new (.lst (ds.filterMap f)) := by
  rw [evE_comp, hi, bnd_ret]
  funext M
  show bnd (compL none M.length (turnL T g tt e own env) ds) (fun _ => ret (D.ref M.length)) (M ++ [O.lst []]) = _
  rw [bnd_ok (compL_fm f ds [] _ (by simpa using hz) get_new ht)]
  show some (Except.ok (D.ref M.length), (M ++ [O.lst []]).set M.length _) = _
  rw [set_mid]
  rfl
theorem evE_comp_map {α : Type} {xs : List α} (a b : α → D) (hi : evI T it env = ret (xs.map a, none)) (hz : xs.length ≤ 16777216) (ht : ∀ x ∈ xs, turnL T g tt e own env (a x) = ret (some (b x))) : evE T (.comp it g tt e own) env = new (.lst (xs.map b)) := by
  rw [evE_comp, hi, bnd_ret]
  funext M
  show bnd (compL none M.length (turnL T g tt e own env) (xs.map a)) (fun _ => ret (D.ref M.length)) (M ++ [O.lst []]) = _
  have go : ∀ (xs : List α) (acc : List D), acc.length + xs.length ≤ 16777216 → (∀ x ∈ xs, turnL T g tt e own env (a x) = ret (some (b x))) → compL none M.length (turnL T g tt e own env) (xs.map a) (M ++ [.lst acc]) = some (.ok (), M ++ [.lst (acc ++ xs.map b)]) := by
    intro xs
    induction xs with
    | nil => intro acc _ _; show some (Except.ok (), _) = _; simp
    | cons x xs ih =>
      intro acc hz ht
      rw [List.map_cons]
      show bnd (turnL T g tt e own env (a x)) _ _ = _
      rw [ht x List.mem_cons_self, bnd_ret]
      have hp : push M.length (b x) (M ++ [.lst acc]) = some (.ok (), M ++ [.lst (acc ++ [b x])]) := by
        unfold push
        rw [get_new]
        dsimp only
        rw [if_pos (by rw [sizeLine_eq]; simp only [List.length_cons] at hz; omega), set_mid]
      dsimp only
      rw [bnd_ok hp, ih (acc ++ [b x]) (by simp only [List.length_cons] at hz; simp only [List.length_append, List.length_cons, List.length_nil]; omega) fun y hy => ht y (List.mem_cons_of_mem _ hy)]
      simp
  rw [bnd_ok (go xs [] (by simpa using hz) ht)]
  rfl
end
/-- tuple([..]) -/
theorem tuple_new {ds : List D} (h : D.cls ds = true) : frzR (bnd (new (.lst ds)) fun x => bfun .tuple [x]) = ret (.tup ds) := frz_newB (by simpa using h) fun M => tuple_at get_new
end DL
namespace DL
open PySem
section
variable {T : Tab} {M : Mem} {ds : List D} {c : Str} {ns : List Str}
@[simp] theorem isi_int {i : Int} {n : String} : isiD T (.int i) (.bty n) = ret (n == "int") := by funext M; rfl
@[simp] theorem isi_str {i : Str} {n : String} : isiD T (.str i) (.bty n) = ret (n == "str") := by funext M; rfl
@[simp] theorem isi_bl {i : Bool} {n : String} : isiD T (.bl i) (.bty n) = ret (n == "bool" || n == "int") := by funext M; rfl
@[simp] theorem isi_non {n : String} : isiD T .non (.bty n) = ret false := by funext M; rfl
@[simp] theorem isi_tup {n : String} : isiD T (.tup ds) (.bty n) = ret (n == "tuple") := by funext M; rfl
@[simp] theorem isi_pt {n : String} : isiD T (.pt ds) (.bty n) = ret (n == "tuple") := by funext M; rfl
@[simp] theorem isi_fl {n : String} : isiD T (.fl ds) (.bty n) = ret (n == "list") := by funext M; rfl
theorem isi_ob {g : Str} (h : (T.cls c).isSome = true) : isiD T (.ob c ns ds) (.glo g) = ret (decide (c = g)) := by
  funext M
  unfold isiD
  rw [if_pos (by exact h)]
  rfl
@[simp] theorem isi_tupG {g : Str} : isiD T (.tup ds) (.glo g) = ret false := by funext M; rfl
@[simp] theorem isO_int {i : Int} : cmpD .isO (.int i) .non = ret (.bl false) := nr rfl
@[simp] theorem isO_str {i : Str} : cmpD .isO (.str i) .non = ret (.bl false) := nr rfl
@[simp] theorem isO_tup : cmpD .isO (.tup ds) .non = ret (.bl false) := nr rfl
@[simp] theorem isO_nn : cmpD .isO .non .non = ret (.bl true) := nr rfl
@[simp] theorem isNot_int {i : Int} : cmpD .isNot (.int i) .non = ret (.bl true) := nr rfl
@[simp] theorem isNot_tup : cmpD .isNot (.tup ds) .non = ret (.bl true) := nr rfl
@[simp] theorem isNot_nn : cmpD .isNot .non .non = ret (.bl false) := nr rfl
theorem len_strE {y : Str} (h : y.length ≤ 16777216) : bfun .len [.str y] = ret (.int y.length) := by
  funext M
  rw [len_str, if_pos (by rw [sizeLine_eq]; exact h)]
theorem ix_strE {y : Str} {k : Int} {x : Nat} (h : y.length ≤ 16777216) (hx : L2.atI y.cps.toList k = some x) : getIx (.str y) (.int k) = ret (.str ⟨#[x]⟩) := by
  funext M
  rw [ix_str, if_pos (by rw [sizeLine_eq]; exact h), hx]
theorem ix_tupE {k : Int} {d : D} (h : L2.atI ds k = some d) : getIx (.tup ds) (.int k) = ret d := by
  funext M
  rw [ix_tup, h]
theorem ix_flE {k : Int} {d : D} (h : L2.atI ds k = some d) : getIx (.fl ds) (.int k) = ret d := by
  funext M
  rw [ix_fl, h]
@[simp] theorem ix_t0 {d : D} {es : List D} : getIx (.tup (d :: es)) (.int 0) = ret d := ix_tupE at_0
@[simp] theorem ix_t1 {d e : D} {es : List D} : getIx (.tup (d :: e :: es)) (.int 1) = ret e := ix_tupE at_1
@[simp] theorem ix_t2 {d e f : D} {es : List D} : getIx (.tup (d :: e :: f :: es)) (.int 2) = ret f := ix_tupE (by rw [at_pos (by omega) (by simp; omega)]; rfl)
@[simp] theorem sl_tup {lo hi : Option Int} : getSl (.tup ds) lo hi = ret (.tup (cut ds lo hi)) := nr rfl
/-- a field of an instance let go -/
theorem attr_fld {f : Str} {k : ClsT} {d : D} (hc : T.cls c = some k) (hp : k.prop f = none) (hf : k.fld.contains f = true) (hl : (ns.zip ds).lookup f = some d) : getAt T (.ob c ns ds) f = ret d := by
  funext M
  exact getAt_fld insAny_ob hc hp hf hl
theorem attr_prop {f : Str} {k : ClsT} {g : FM} (hc : T.cls c = some k) (hp : k.prop f = some g) : getAt T (.ob c ns ds) f = noErr (g [.ob c ns ds]) := by
  funext M
  exact getAt_prop insAny_ob hc hp
theorem all_new {bs : List Bool} : frzR (bnd (new (.lst (bs.map D.bl))) fun x => bfun .all [x]) = ret (.bl (bs.all id)) := frz_newB cl_bl fun M => all_at get_new
end
end DL
end
section
set_option Elab.async false
set_option linter.all false
set_option maxRecDepth 100000
set_option maxHeartbeats 4000000
namespace K
open PySem DL
theorem is_integer_int (i : Int) : f_is_integer [.int i] = ret (.bl true) := by
  simp [f_is_integer, runDef_eq, b_is_integer]
theorem put_into_last_eq (m f s r : Int) : f_put_into_last [.tup [.int m, .int f], .int s, .int r] = ret (.tup (if f + s ≤ r then [.int m, .int (f + s)] else [.int (m + 1), .int s])) := by
  simp [f_put_into_last, runDef_eq, b_put_into_last, tupD_eq, sizeLine_eq]
  split <;> rfl
abbrev LETS : Str := "abcdefghijklmnopqrstuvwxyz"
abbrev DIGS : Str := "0123456789"
abbrev LET : List Nat := ("abcdefghijklmnopqrstuvwxyz" : Str).cps.toList
abbrev DIG : List Nat := ("0123456789" : Str).cps.toList
structure GoodW (w : Str) : Prop where
  lo : 1 ≤ w.cps.toList.length
  hi : w.cps.toList.length ≤ 8
  hd : ∃ c r, w.cps.toList = c :: r ∧ c ∈ LET
  al : ∀ c ∈ w.cps.toList, c ∈ LET ∨ c ∈ DIG
instance (w : Str) : Decidable (GoodW w) :=
  match h : w.cps.toList with
  | [] => isFalse fun g => by obtain ⟨c, r, e, _⟩ := g.hd; rw [h] at e; cases e
  | c :: r => if p : (c :: r).length ≤ 8 ∧ c ∈ LET ∧ ∀ x ∈ c :: r, x ∈ LET ∨ x ∈ DIG then isTrue ⟨by rw [h]; simp, by rw [h]; exact p.1, ⟨c, r, h, p.2.1⟩, by rw [h]; exact p.2.2⟩
    else isFalse fun g => p ⟨by rw [← h]; exact g.hi, by obtain ⟨c', r', e, q⟩ := g.hd; rw [h] at e; cases e; exact q, by rw [← h]; exact g.al⟩
theorem len_of (w : Str) : w.length = w.cps.toList.length := by simp [Str.length]
theorem good_len {w : Str} (g : GoodW w) : 1 ≤ w.length ∧ w.length ≤ 8 := by rw [len_of]; exact ⟨g.lo, g.hi⟩
theorem map_all {α : Type} (l : List α) : ((l.map fun _ => true).all id) = true := by
  rw [List.all_eq_true]
  intro x hx
  obtain ⟨_, _, rfl⟩ := List.mem_map.mp hx
  rfl
theorem is_name_eq {w : Str} (g : GoodW w) : f_is_name [.str w] = ret (.bl true) := by
  obtain ⟨c, r, ec, hc⟩ := g.hd
  have l1 : (1 : Int) ≤ w.length := by have := (good_len g).1; omega
  have l2 : (w.length : Int) ≤ 8 := by have := (good_len g).2; omega
  have l3 : w.length ≤ 16777216 := by omega
  have e0 : L2.atI w.cps.toList 0 = some c := by rw [at_pos (by omega) (by rw [ec]; simp), ec]; rfl
  have ix := ix_strE l3 e0
  have cm : evE t_is_name (.comp (.of (.var 0)) (.nm 1) .yes e_is_name_1 [1]) [some (.str w), none] = new (.lst ((w.cps.toList.map fun _ => true).map D.bl)) := by
    rw [List.map_map]
    refine evE_comp_map (fun c => D.str ⟨#[c]⟩) _ (by simp) (by have := g.hi; omega) fun x hx => ?_
    have h := g.al x hx
    by_cases h1 : x ∈ LET
    · simp [turnL, wipeE, e_is_name_1, in_sign, h1]
    · have h2 : x ∈ DIG := h.resolve_left h1
      simp [turnL, wipeE, e_is_name_1, in_sign, h1, h2]
  have al := all_new (bs := w.cps.toList.map fun _ => true)
  rw [map_all] at al
  simp [f_is_name, runDef_eq, b_is_name, len_strE l3, l1, l2, ix, notIn_sign, hc, cm, al, -List.map_map]
abbrev kd (p : Str × Int) : D := .tup [.str p.1, .int p.2]
theorem is_kind_eq {room : Int} {p : Str × Int} (g : GoodW p.1) (h : 1 ≤ p.2 ∧ p.2 ≤ room) : f_is_kind [kd p, .int room] = ret (.bl true) := by
  simp [f_is_kind, runDef_eq, b_is_kind, is_name_eq g, is_integer_int, h.1, h.2]
end K
end
section
set_option Elab.async false
set_option linter.all false
set_option maxRecDepth 100000
set_option maxHeartbeats 4000000
namespace DL
open PySem
/-- a loop whose turns are pure -/
theorem forE {turn : D → Env → R Fl} (P : Nat → Env → Prop) : ∀ (ds : List D) (k : Nat) (env : Env), P k env → (∀ i d env, ds[i]? = some d → P (k + i) env → ∃ env', turn d env = ret (.nx env') ∧ P (k + i + 1) env') →
    ∃ env', forL none turn ds env = ret (.nx env') ∧ P (k + ds.length) env'
  | [], k, env, h, _ => ⟨env, by rfl, h⟩
  | d :: ds, k, env, h, st => by
    obtain ⟨e1, h1, p1⟩ := st 0 d env rfl h
    obtain ⟨e2, h2, p2⟩ := forE P ds (k + 1) e1 p1 fun i d env hd hp => by
      have := st (i + 1) d env (by simpa using hd) (by rw [show k + (i + 1) = k + 1 + i by omega]; exact hp)
      rwa [show k + (i + 1) + 1 = k + 1 + i + 1 by omega] at this
    refine ⟨e2, ?_, by rw [show k + (d :: ds).length = k + 1 + ds.length by simp only [List.length_cons]; omega]; exact p2⟩
    funext M
    rw [forL_step (M1 := M) rfl (by rw [h1]), h2]
theorem forE0 {turn : D → Env → R Fl} {ds : List D} {env : Env} (P : Nat → Env → Prop) (h : P 0 env) (st : ∀ i d env, ds[i]? = some d → P i env → ∃ env', turn d env = ret (.nx env') ∧ P (i + 1) env') :
    ∃ env', forL none turn ds env = ret (.nx env') ∧ P ds.length env' := by
  have := forE P ds 0 env h fun i d env hd hp => by
    rw [Nat.zero_add] at hp ⊢
    exact st i d env hd hp
  rwa [Nat.zero_add] at this
@[simp] theorem noErr_ret {d : D} : noErr (ret d) = ret d := by funext M; rfl
end DL
namespace K
open PySem DL
def Rising (l : List Str) : Prop := l.Pairwise fun a b => a.cps.toList < b.cps.toList
abbrev kds (ps : List (Str × Int)) : D := .tup (ps.map kd)
structure Kinds (room : Int) (ps : List (Str × Int)) : Prop where
  rlo : 2 ≤ room
  rhi : room ≤ 60
  len1 : 1 ≤ ps.length
  len6 : ps.length ≤ 6
  rise : Rising (ps.map (·.1))
  good : ∀ p ∈ ps, GoodW p.1
  size : ∀ p ∈ ps, 1 ≤ p.2 ∧ p.2 ≤ room
theorem numbered_get : ∀ (ds : List D) (k i : Nat), (numbered k ds)[i]? = ds[i]?.map fun d => .tup [.int ((k + i : Nat) : Int), d]
  | [], _, i => by simp [DL.numbered]
  | d :: ds, k, 0 => by simp [DL.numbered]
  | d :: ds, k, i + 1 => by
    have e : k + 1 + i = k + (i + 1) := by omega
    show (numbered (k + 1) ds)[i]? = _
    rw [numbered_get ds (k + 1) i, e]
    rfl
theorem numbered_len : ∀ (ds : List D) (k : Nat), (numbered k ds).length = ds.length
  | [], _ => rfl
  | d :: ds, k => by show (numbered (k + 1) ds).length + 1 = _; rw [numbered_len ds (k + 1)]; rfl
theorem rise_at {ps : List (Str × Int)} (h : Rising (ps.map (·.1))) {j : Nat} {p q : Str × Int} (hp : ps[j]? = some p) (hq : ps[j + 1]? = some q) : p.1.cps.toList < q.1.cps.toList := by
  have := List.pairwise_iff_getElem.mp h
  obtain ⟨h1, e1⟩ := List.getElem?_eq_some_iff.mp hp
  obtain ⟨h2, e2⟩ := List.getElem?_eq_some_iff.mp hq
  have := this j (j + 1) (by rw [List.length_map]; omega) (by rw [List.length_map]; exact h2) (by omega)
  rw [List.getElem_map, List.getElem_map, e1, e2] at this
  exact this
theorem check_turn {room : Int} {ps : List (Str × Int)} (h : Kinds room ps) {i : Nat} {p : Str × Int} (hp : ps[i]? = some p) (v w : Option D) : bodyF t_check_kinds (.tup (.cons (.nm 2) (.cons (.nm 3) .nil))) l_check_kinds_1 (.tup [.int (i : Int), kd p]) [some (kds ps), some (.int room), v, w] = ret (.nx [some (kds ps), some (.int room), some (.int (i : Int)), some (kd p)]) := by
  have hm : p ∈ ps := List.mem_of_getElem? hp
  have hi : i < ps.length := (List.getElem?_eq_some_iff.mp hp).1
  have hl := h.len6
  have e := is_kind_eq (h.good p hm) (h.size p hm)
  have h6 : (i : Int) ≠ 6 := by omega
  match i, hp, h6 with
  | 0, hp, h6 => simp [bodyF, l_check_kinds_1, e]
  | j + 1, hp, h6 =>
    obtain ⟨q, hq⟩ : ∃ q, ps[j]? = some q := ⟨ps[j], List.getElem?_eq_getElem (by omega)⟩
    have lt := rise_at h.rise hq hp
    have ea : getIx (.tup (ps.map kd)) (.int (j : Int)) = DL.ret (kd q) := ix_tupE (by
      rw [at_pos (by omega) (by rw [List.length_map]; omega)]
      show (ps.map kd)[j]? = _
      rw [List.getElem?_map, hq]; rfl)
    have e1 : ((j + 1 : Nat) : Int) - 1 = j := by omega
    have hpos : (0 : Int) < ((j + 1 : Nat) : Int) := by omega
    have h6' : (((j + 1 : Nat) : Int) == 6) = false := by simpa using h6
    generalize ((j + 1 : Nat) : Int) = z at e1 hpos h6' ⊢
    simp [bodyF, l_check_kinds_1, e, h6', hpos, e1, ea, lt]
theorem check_eq {room : Int} {ps : List (Str × Int)} (h : Kinds room ps) : f_check_kinds [kds ps, .int room] = ret .non := by
  obtain ⟨env', e, _⟩ := forE0 (turn := bodyF t_check_kinds (.tup (.cons (.nm 2) (.cons (.nm 3) .nil))) l_check_kinds_1) (ds := numbered 0 (ps.map kd)) (env := [some (kds ps), some (.int room), none, none])
    (fun i env => ∃ v w, env = [some (kds ps), some (.int room), v, w]) ⟨none, none, rfl⟩ (by
      rintro i d env hi ⟨v, w, rfl⟩
      rw [numbered_get, List.getElem?_map] at hi
      cases hp : ps[i]? with
      | none => rw [hp] at hi; cases hi
      | some p =>
        rw [hp] at hi
        have hd : d = .tup [.int ((0 + i : Nat) : Int), kd p] := (Option.some.inj hi).symm
        rw [Nat.zero_add] at hd
        subst hd
        exact ⟨_, check_turn h hp v w, _, _, rfl⟩)
  have l0 : (ps.length : Int) ≠ 0 := by have := h.len1; omega
  have l0' : ((ps.length : Int) == 0) = false := by simpa using l0
  have l1 : ps ≠ [] := by have := h.len1; intro z; rw [z] at this; simp at this
  simp [f_check_kinds, runDef_eq, b_check_kinds, l0', l1, e]
/-- goods as a value -/
abbrev Gv (room : Int) (ps : List (Str × Int)) : D := .ob "Goods" ["space", "pairs"] [.int room, kds ps]
theorem base_Goods : base "Goods" = some c0_Goods := by show (if ("Goods" : Str) = "Goods" then some c0_Goods else _) = _; rw [if_pos rfl]
theorem cls_kds (ps : List (Str × Int)) : D.cl (kds ps) = true := by
  rw [cl_tup]
  exact cls_map fun p _ => by simp
theorem init_eq {room : Int} {ps : List (Str × Int)} (h : Kinds room ps) (M : Mem) : f_Goods_ddinitdd [.ref M.length, .int room, kds ps] (M ++ [.ins "Goods" []]) = some (.ok .non, M ++ [.ins "Goods" [("space", .int room), ("pairs", kds ps)]]) := by
  have e := check_eq h
  have e1 := is_integer_int room
  have r1 := h.rlo
  have r2 := h.rhi
  have s1 := setAt_at (T := t_Goods_ddinitdd) (f := "space") (d := .int room) (M := M ++ [O.ins "Goods" []]) (n := M.length) (c := "Goods") (fs := []) get_new base_Goods (by rfl) (by decide)
  have s2 := setAt_at (T := t_Goods_ddinitdd) (f := "pairs") (d := kds ps) (M := M ++ [O.ins "Goods" [("space", .int room)]]) (n := M.length) (c := "Goods") (fs := [("space", .int room)]) get_new base_Goods (by rfl) (by simp)
  rw [set_mid] at s1 s2
  have p1 : putF "space" (.int room) [] = [(("space" : Str), D.int room)] := rfl
  have p2 : putF "pairs" (kds ps) [(("space" : Str), D.int room)] = [(("space" : Str), .int room), ("pairs", kds ps)] := by
    unfold putF
    rw [if_neg (by decide +kernel)]
    rfl
  rw [p1] at s1
  rw [p2] at s2
  simp [f_Goods_ddinitdd, runDef_eq, b_Goods_ddinitdd, e, e1, r1, r2, tupD_eq, sizeLine_eq, bnd_at, s1, s2]
theorem make_eq {T : Tab} {k : ClsT} (hT : T.cls "Goods" = some k) (hk : k.init = f_Goods_ddinitdd) {room : Int} {ps : List (Str × Int)} (h : Kinds room ps) : frzR (makeI T "Goods" [.int room, kds ps]) = ret (Gv room ps) :=
  by
  have hc : D.cls ([(("space" : Str), D.int room), ("pairs", kds ps)].map (·.2)) = true := by
    show D.cls [.int room, kds ps] = true
    rw [cls_cons, cls_cons, cls_kds]
    rfl
  exact frz_pure fun M => ⟨_, _, makeI_at hT (by rw [hk]; exact init_eq h M), Ext.add _ _, frD_ins (Nat.le_refl _) get_new hc⟩
theorem tuple_comp {T : Tab} {it : CI} {g : CG} {tt : CT} {e : CE} {own : List Nat} {env : DL.Env} {α : Type} {xs : List α} (a b : α → D) (hi : evI T it env = ret (xs.map a, none)) (hz : xs.length ≤ 16777216) (hb : ∀ x ∈ xs, D.cl (b x) = true) (ht : ∀ x ∈ xs, turnL T g tt e own env (a x) = ret (some (b x))) :
    evE T (.frz (.bcall .tuple (.cons (.comp it g tt e own) .nil))) env = ret (.tup (xs.map b)) := by
  have cm := evE_comp_map a b hi hz ht
  have := tuple_new (cls_map hb)
  simp only [evE_frz, evE_bcall, evEs_cons, evEs_nil, cm, bnd_assocS, bnd_ret]
  exact this
theorem names_eq {room : Int} {ps : List (Str × Int)} (h : Kinds room ps) : f_Goods_names [Gv room ps] = ret (.tup (ps.map fun p => .str p.1)) := by
  have at1 : getAt t_Goods_names (Gv room ps) "pairs" = DL.ret (kds ps) := attr_fld base_Goods rfl (by rfl) (by rfl)
  have := tuple_comp (T := t_Goods_names) (it := .of (.attr (.var 0) "pairs")) (g := .tup (.cons (.nm 2) (.cons (.nm 1) .nil))) (tt := .yes) (e := e_Goods_names_1) (own := [2, 1]) (env := [some (Gv room ps), none, none]) (xs := ps) kd (fun p => .str p.1) (by simp [at1]) (by have := h.len6; omega) (fun _ _ => cl_str) (by
    intro p _
    simp [turnL, wipeE, e_Goods_names_1])
  simp only [f_Goods_names, runDef_eq, b_Goods_names, evSs_cons, evS_rt, List.map_cons, List.map_nil, List.length_cons, List.length_nil, List.replicate, List.cons_append, List.nil_append, this, bnd_ret, thenS_rt, endF_rt]
theorem sizes_eq {room : Int} {ps : List (Str × Int)} (h : Kinds room ps) : f_Goods_sizes [Gv room ps] = ret (.tup (ps.map fun p => .int p.2)) := by
  have at1 : getAt t_Goods_sizes (Gv room ps) "pairs" = DL.ret (kds ps) := attr_fld base_Goods rfl (by rfl) (by rfl)
  have := tuple_comp (T := t_Goods_sizes) (it := .of (.attr (.var 0) "pairs")) (g := .tup (.cons (.nm 2) (.cons (.nm 1) .nil))) (tt := .yes) (e := e_Goods_sizes_1) (own := [2, 1]) (env := [some (Gv room ps), none, none]) (xs := ps) kd (fun p => .int p.2) (by simp [at1]) (by have := h.len6; omega) (fun _ _ => cl_int) (by
    intro p _
    simp [turnL, wipeE, e_Goods_sizes_1])
  simp only [f_Goods_sizes, runDef_eq, b_Goods_sizes, evSs_cons, evS_rt, List.map_cons, List.map_nil, List.length_cons, List.length_nil, List.replicate, List.cons_append, List.nil_append, this, bnd_ret, thenS_rt, endF_rt]
theorem room_eq {room : Int} {ps : List (Str × Int)} : f_Goods_room [Gv room ps] = ret (.int room) := by
  have at1 : getAt t_Goods_room (Gv room ps) "space" = DL.ret (.int room) := attr_fld base_Goods rfl (by rfl) (by rfl)
  simp [f_Goods_room, runDef_eq, b_Goods_room, at1]
theorem check_goods_eq {room : Int} {ps : List (Str × Int)} : f_check_goods [Gv room ps] = ret .non := by
  have e : isiD t_check_goods (Gv room ps) (.glo "Goods") = DL.ret true := by
    rw [isi_ob (show (base "Goods").isSome = true by rw [base_Goods]; rfl)]
    rfl
  simp [f_check_goods, runDef_eq, b_check_goods, e]
end K
end
section
set_option Elab.async false
set_option linter.all false
set_option maxRecDepth 100000
set_option maxHeartbeats 4000000
namespace DL
open PySem
section
variable {xs : List Str} {a : Str} {ns : List Int}
theorem all_flat_strs : ∀ xs : List Str, (xs.map D.str).all D.flat = true
  | [] => rfl
  | x :: xs => by rw [List.map_cons, List.all_cons, all_flat_strs xs]; rfl
theorem inSeq_strs (a : Str) : ∀ xs : List Str, inSeq (.str a) (xs.map D.str) = decide (a ∈ xs)
  | [] => rfl
  | x :: xs => by
    have ih := inSeq_strs a xs
    unfold inSeq at ih ⊢
    rw [List.map_cons, List.any_cons, ih]
    have e : D.feq (.str x) (.str a) = (x == a) := rfl
    rw [e]
    by_cases h : a = x
    · subst h; simp
    · have h2 : ¬ x = a := fun z => h z.symm
      simp [h, h2]
theorem in_strs : cmpD .inO (.str a) (.tup (xs.map D.str)) = ret (.bl (decide (a ∈ xs))) := by
  funext M
  show bnd (inD (.str a) (.tup (xs.map D.str))) _ M = _
  have e : inD (.str a) (.tup (xs.map D.str)) M = some (.ok (decide (a ∈ xs)), M) := by
    show (if (D.flat (.str a) && (xs.map D.str).all D.flat) = true then some (Except.ok (inSeq (.str a) (xs.map D.str)), M) else none) = _
    rw [all_flat_strs, inSeq_strs]
    rfl
  rw [bnd_ok e]
theorem notIn_strs : cmpD .notIn (.str a) (.tup (xs.map D.str)) = ret (.bl (!decide (a ∈ xs))) := by
  funext M
  show bnd (inD (.str a) (.tup (xs.map D.str))) _ M = _
  have e : inD (.str a) (.tup (xs.map D.str)) M = some (.ok (decide (a ∈ xs)), M) := by
    show (if (D.flat (.str a) && (xs.map D.str).all D.flat) = true then some (Except.ok (inSeq (.str a) (xs.map D.str)), M) else none) = _
    rw [all_flat_strs, inSeq_strs]
    rfl
  rw [bnd_ok e]
theorem mapO_int : ∀ ns : List Int, intsOf (ns.map D.int) = some ns
  | [] => rfl
  | n :: ns => by
    have ih := mapO_int ns
    unfold intsOf at ih ⊢
    rw [List.map_cons, mapO, ih]
theorem max_tup {m : Int} (h : maxOf ns = some m) : bfun .max [.tup (ns.map D.int)] = ret (.int m) := by
  funext M
  unfold bfun maxB
  dsimp only
  rw [show tlOf M (.tup (ns.map D.int)) = some (ns.map D.int) from rfl]
  dsimp only
  rw [mapO_int]
  dsimp only
  rw [h]
theorem count_strs : ∀ xs : List Str, ((xs.map D.str).countP fun y => D.feq y (.str a)) = xs.count a
  | [] => rfl
  | x :: xs => by
    rw [List.map_cons, List.countP_cons, List.count_cons, count_strs xs]
    rfl
theorem count_pt : countD (.pt (xs.map D.str)) (.str a) = ret (.int (xs.count a)) := by
  unfold countD
  dsimp only
  rw [if_pos (by rw [all_flat_strs]; rfl), count_strs]
@[simp] theorem isPt_pt {ds : List D} : isPt (.pt ds) = ret () := rfl
end
end DL
namespace K
open PySem DL
abbrev rowD (row : List Str) : D := .pt (row.map D.str)
theorem check_row_eq {room : Int} {ps : List (Str × Int)} (h : Kinds room ps) {row : List Str} (hl : row.length ≤ 14) (hr : ∀ x ∈ row, x ∈ ps.map (·.1)) : f_check_row [rowD row, Gv room ps] = ret .non := by
  have at1 : getAt t_check_row (Gv room ps) "names" = DL.ret (.tup ((ps.map (·.1)).map D.str)) := by
    rw [attr_prop tc_check_row_Goods (g := f_Goods_names) (by show (if ("names" : Str) = "names" then some f_Goods_names else none) = _; exact if_pos rfl), names_eq h, noErr_ret, List.map_map]
    rfl
  have cl1 : D.cl (.tup ((ps.map (·.1)).map D.str)) = true := by rw [cl_tup]; exact cls_strs _
  obtain ⟨env', e, _⟩ := forE0 (turn := bodyF t_check_row (.tup (.cons (.nm 3) (.cons (.nm 4) .nil))) l_check_row_1) (ds := numbered 0 (row.map D.str)) (env := [some (rowD row), some (Gv room ps), some (.tup ((ps.map (·.1)).map D.str)), none, none])
    (fun i env => ∃ v w, env = [some (rowD row), some (Gv room ps), some (.tup ((ps.map (·.1)).map D.str)), v, w]) ⟨none, none, rfl⟩ (by
      rintro i d env hi ⟨v, w, rfl⟩
      rw [numbered_get, List.getElem?_map] at hi
      cases hp : row[i]? with
      | none => rw [hp] at hi; cases hi
      | some x =>
        rw [hp] at hi
        have hd : d = .tup [.int ((0 + i : Nat) : Int), .str x] := (Option.some.inj hi).symm
        rw [Nat.zero_add] at hd
        subst hd
        have hi' : i < row.length := (List.getElem?_eq_some_iff.mp hp).1
        have hx : x ∈ ps.map (·.1) := hr x (List.mem_of_getElem? hp)
        have ni := notIn_strs (xs := ps.map (·.1)) (a := x)
        rw [decide_eq_true hx] at ni
        have h6 : (((i : Nat) : Int) == 2000) = false := by simp; omega
        refine ⟨_, ?_, some (.int i), some (.str x), rfl⟩
        simp [bodyF, l_check_row_1, h6, ni, -List.map_map, -List.mem_map])
  simp [f_check_row, runDef_eq, b_check_row, at1, cl1, e, -List.map_map]
theorem room_of_non {room : Int} {ps : List (Str × Int)} : f_room_of [.non, Gv room ps] = ret (.int room) := by
  have at1 : getAt t_room_of (Gv room ps) "room" = DL.ret (.int room) := by
    rw [attr_prop tc_room_of_Goods (g := f_Goods_room) (by show (if ("room" : Str) = "room" then some f_Goods_room else if ("room" : Str) = "sizes" then some f_Goods_sizes else none) = _; exact if_pos rfl), room_eq, noErr_ret]
  simp [f_room_of, runDef_eq, b_room_of, at1]
theorem room_of_int {room r m : Int} {ps : List (Str × Int)} (h : Kinds room ps) (hm : maxOf (ps.map (·.2)) = some m) (h1 : m ≤ r) (h2 : r ≤ 60) : f_room_of [.int r, Gv room ps] = ret (.int r) := by
  have at1 : getAt t_room_of (Gv room ps) "sizes" = DL.ret (.tup ((ps.map (·.2)).map D.int)) := by
    rw [attr_prop tc_room_of_Goods (g := f_Goods_sizes) (by show (if ("sizes" : Str) = "room" then some f_Goods_room else if ("sizes" : Str) = "sizes" then some f_Goods_sizes else none) = _; rw [if_neg (by decide +kernel), if_pos rfl]), sizes_eq h, noErr_ret, List.map_map]
    rfl
  have cl1 : D.cl (.tup ((ps.map (·.2)).map D.int)) = true := by rw [cl_tup]; exact cls_ints _
  have mx := max_tup hm
  simp [f_room_of, runDef_eq, b_room_of, at1, cl1, mx, is_integer_int, h1, h2, -List.map_map]
/-- the room that is asked: None or a number -/
def roomOk (room : Int) (ps : List (Str × Int)) (far : Option Int) : Prop := ∀ r, far = some r → ∃ m, maxOf (ps.map (·.2)) = some m ∧ m ≤ r ∧ r ≤ 60
def farD : Option Int → D
  | none => .non
  | some r => .int r
theorem room_of_eq {room : Int} {ps : List (Str × Int)} (h : Kinds room ps) {far : Option Int} (hf : roomOk room ps far) : f_room_of [farD far, Gv room ps] = ret (.int (far.getD room)) := by
  cases far with
  | none => exact room_of_non
  | some r => obtain ⟨m, h1, h2, h3⟩ := hf r rfl; exact room_of_int h h1 h2 h3
theorem checked_room_eq {room : Int} {ps : List (Str × Int)} (h : Kinds room ps) {row : List Str} (hl : row.length ≤ 14) (hr : ∀ x ∈ row, x ∈ ps.map (·.1)) {far : Option Int} (hf : roomOk room ps far) : f_checked_room [Gv room ps, rowD row, farD far] = ret (.int (far.getD room)) := by
  have e1 := check_goods_eq (room := room) (ps := ps)
  have e2 := check_row_eq h hl hr
  have e3 := room_of_eq h hf
  have h14 : ¬ (14 : Int) < (row.length : Nat) := by omega
  simp [f_checked_room, runDef_eq, b_checked_room, e1, e2, e3, h14, -List.map_map]
theorem counts_of_eq {room : Int} {ps : List (Str × Int)} (h : Kinds room ps) {row : List Str} : f_counts_of [Gv room ps, rowD row] = ret (.tup (ps.map fun p => .int (row.count p.1))) := by
  have at1 : getAt t_counts_of (Gv room ps) "names" = DL.ret (.tup ((ps.map (·.1)).map D.str)) := by
    rw [attr_prop tc_counts_of_Goods (g := f_Goods_names) (by show (if ("names" : Str) = "names" then some f_Goods_names else none) = _; exact if_pos rfl), names_eq h, noErr_ret, List.map_map]
    rfl
  have cl1 : D.cl (.tup ((ps.map (·.1)).map D.str)) = true := by rw [cl_tup]; exact cls_strs _
  have := tuple_comp (T := t_counts_of) (it := .of (.frz (.attr (.var 0) "names"))) (g := .nm 2) (tt := .yes) (e := e_counts_of_1) (own := [2]) (env := [some (Gv room ps), some (rowD row), none]) (xs := ps) (fun p => .str p.1) (fun p => .int (row.count p.1)) (by
      simp only [evI_of, evE_frz, evE_attr, evE_var, getVar_0, bnd_ret, at1, frz_ret cl1, items_tup]
      rw [List.map_map]
      rfl) (by have := h.len6; omega) (fun _ _ => cl_int) (by
    intro p _
    simp [turnL, wipeE, e_counts_of_1, count_pt])
  simp only [f_counts_of, runDef_eq, b_counts_of, evSs_cons, evS_rt, List.map_cons, List.map_nil, List.length_cons, List.length_nil, List.replicate, List.cons_append, List.nil_append, this, bnd_ret, thenS_rt, endF_rt]
end K
end
section
set_option Elab.async false
set_option linter.all false
set_option maxRecDepth 100000
set_option maxHeartbeats 4000000
namespace DL
open PySem
theorem compL_mp {α : Type} {n : Nat} {turn : D → R (Option D)} (a b : α → D) : ∀ (xs : List α) (acc : List D) (M : Mem), acc.length + xs.length ≤ 16777216 → M[n]? = some (.lst acc) → (∀ x ∈ xs, turn (a x) = ret (some (b x))) → compL none n turn (xs.map a) M = some (.ok (), M.set n (.lst (acc ++ xs.map b)))
  | [], acc, M, _, h, _ => by
    show some (Except.ok (), M) = _
    rw [List.map_nil, List.append_nil]
    obtain ⟨hl, he⟩ := List.getElem?_eq_some_iff.mp h
    rw [← he, List.set_getElem_self hl]
  | x :: xs, acc, M, hz, h, ht => by
    rw [List.map_cons]
    show bnd (turn (a x)) _ M = _
    rw [ht x List.mem_cons_self, bnd_ret]
    have hz' : acc.length + xs.length + 1 ≤ 16777216 := by simpa [Nat.add_assoc] using hz
    dsimp only
    have hp : push n (b x) M = some (.ok (), M.set n (.lst (acc ++ [b x]))) := by
      unfold push
      rw [h]
      dsimp only
      rw [if_pos (by rw [sizeLine_eq]; omega)]
    rw [bnd_ok hp, compL_mp a b xs (acc ++ [b x]) _ (by simp; omega) (get_set h _) fun y hy => ht y (List.mem_cons_of_mem _ hy), List.set_set]
    simp
theorem loopU_mp {α : Type} {n : Nat} {turn : D → R Unit} (a : α → D) (f : α → List D) : ∀ (xs : List α) (acc : List D) (M : Mem), acc.length + (xs.flatMap f).length ≤ 16777216 → M[n]? = some (.lst acc) →
    (∀ x ∈ xs, ∀ (acc : List D) (M : Mem), acc.length + (f x).length ≤ 16777216 → M[n]? = some (.lst acc) → turn (a x) M = some (.ok (), M.set n (.lst (acc ++ f x)))) → loopU none turn (xs.map a) M = some (.ok (), M.set n (.lst (acc ++ xs.flatMap f)))
  | [], acc, M, _, h, _ => by
    show some (Except.ok (), M) = _
    rw [List.flatMap_nil, List.append_nil]
    obtain ⟨hl, he⟩ := List.getElem?_eq_some_iff.mp h
    rw [← he, List.set_getElem_self hl]
  | x :: xs, acc, M, hz, h, ht => by
    rw [List.flatMap_cons, List.length_append] at hz
    rw [List.map_cons]
    show bnd (turn (a x)) _ M = _
    rw [bnd_ok (ht x List.mem_cons_self acc M (by omega) h)]
    rw [loopU_mp a f xs (acc ++ f x) _ (by rw [List.length_append]; omega) (get_set h _) fun y hy => ht y (List.mem_cons_of_mem _ hy), List.set_set, List.flatMap_cons, List.append_assoc]
section
variable {T : Tab} {it it1 : CI} {g g1 : CG} {e : CE} {own own1 : List Nat} {env : Env}
theorem evE_comp2_map {α β : Type} {xs : List α} (a : α → D) (ys : α → List β) (c : α → β → D) (b : α → β → D) (E : α → Env) (hi : evI T it env = ret (xs.map a, none)) (hz : (xs.flatMap fun x => (ys x).map (b x)).length ≤ 16777216)
    (hg : ∀ x ∈ xs, evG T g (a x) (wipeE env own) = ret (E x)) (hi1 : ∀ x ∈ xs, evI T it1 (E x) = ret ((ys x).map (c x), none)) (ht : ∀ x ∈ xs, ∀ y ∈ ys x, turnL T g1 .yes e own1 (E x) (c x y) = ret (some (b x y))) :
    evE T (.comp2 it g .yes it1 g1 .yes e own own1) env = new (.lst (xs.flatMap fun x => (ys x).map (b x))) := by
  rw [evE, hi, bnd_ret]
  funext M
  show bnd (loopU none _ (xs.map a)) (fun _ => ret (D.ref M.length)) (M ++ [O.lst []]) = _
  rw [bnd_ok (loopU_mp (n := M.length) a (fun x => (ys x).map (b x)) xs [] _ (by simpa using hz) get_new (by
    intro x hx acc M' hl hM
    show bnd (evG T g (a x) (wipeE env own)) _ M' = _
    rw [hg x hx, bnd_ret]
    show bnd (evT T .yes (E x)) _ M' = _
    rw [evT_yes, bnd_ret, if_pos rfl, hi1 x hx, bnd_ret]
    exact compL_mp (turn := turnL T g1 .yes e own1 (E x)) (c x) (b x) (ys x) acc M' (by simpa using hl) hM (ht x hx)))]
  show some (Except.ok (D.ref M.length), (M ++ [O.lst []]).set M.length _) = _
  rw [set_mid]
  rfl
end
theorem fmap_congr {α β : Type} {f g : α → List β} : ∀ (l : List α), (∀ a ∈ l, f a = g a) → l.flatMap f = l.flatMap g
  | [], _ => rfl
  | a :: l, h => by rw [List.flatMap_cons, List.flatMap_cons, h a List.mem_cons_self, fmap_congr l fun b hb => h b (List.mem_cons_of_mem _ hb)]
theorem rangeD_map : ∀ (n : Nat) (k : Int), rangeD k n = (List.range n).map fun (i : Nat) => D.int (k + i)
  | 0, _ => rfl
  | n + 1, k => by
    show D.int k :: rangeD (k + 1) n = _
    rw [rangeD_map n (k + 1), List.range_succ_eq_map, List.map_cons, List.map_map]
    congr 1
    · simp
    · refine List.map_congr_left fun i _ => ?_
      show D.int (k + 1 + i) = D.int (k + ((i + 1 : Nat) : Int))
      congr 1
      omega
end DL
namespace K
open PySem DL
/-- counts -/
abbrev cD (s : List Nat) : D := .tup (s.map fun (k : Nat) => .int k)
def uptoF (found : List (List Nat)) (m : Nat) : List (List Nat) := found.flatMap fun h => (List.range (m + 1)).map fun k => h ++ [k]
def upto (cs : List Nat) : List (List Nat) := cs.foldl uptoF [[]]
theorem cls_c (s : List Nat) : D.cl (cD s) = true := by
  rw [cl_tup]
  exact cls_map fun _ _ => cl_int
theorem uptoF_len (f : List (List Nat)) (m : Nat) : (uptoF f m).length = f.length * (m + 1) := by
  unfold uptoF
  induction f with
  | nil => simp
  | cons h f ih => rw [List.flatMap_cons, List.length_append, ih, List.length_map, List.length_range, List.length_cons, Nat.add_mul]; omega
theorem upto_turn {v w x : Option D} {f : List (List Nat)} {m : Nat} (hz : f.length * (m + 1) ≤ 16777216) (hm : m ≤ 1000) (hL : ∀ h ∈ f, h.length ≤ 100) (cs : D) : bodyF t_counts_up_to (.nm 2) l_counts_up_to_2 (.int m) [some cs, some (.fl (f.map cD)), v, w, x] = ret (.nx [some cs, some (.fl ((uptoF f m).map cD)), some (.int m), w, x]) := by
  have r1 : inR ((m : Int) + 1) = true := by unfold inR; exact decide_eq_true (by omega)
  have rt : ((m : Int) + 1).toNat = m + 1 := by omega
  have cm := evE_comp2_map (T := t_counts_up_to) (it := .of (.var 1)) (g := .nm 4) (it1 := .rng (.bin .add (.var 2) (.con (.int 1)))) (g1 := .nm 3) (e := e_counts_up_to_1) (own := [4, 3]) (own1 := [3]) (env := [some cs, some (.fl (f.map cD)), some (.int m), w, x])
    (xs := f) cD (fun _ => List.range (m + 1)) (fun _ k => .int k) (fun h k => cD (h ++ [k])) (fun h => [some cs, some (.fl (f.map cD)), some (.int m), none, some (cD h)]) (by simp) (by
      have := uptoF_len f m
      unfold uptoF at this
      simp only [List.length_flatMap, List.length_map] at this ⊢
      rw [this]; exact hz) (fun h _ => by simp [wipeE]) (fun h _ => by
        simp only [evI_rng, evE_bin, evE_var, getVar_0, getVar_s, evE_con, bnd_ret, add_int, rngD_int r1, rt, rangeD_map]
        simp) (fun h hh k _ => by
        have hl : h.length ≤ 16777215 := by have := hL h hh; omega
        simp [turnL, wipeE, e_counts_up_to_1, tupD_eq, sizeLine_eq, hl, cD])
  have e1 : (f.flatMap fun h => (List.range (m + 1)).map fun k => cD (h ++ [k])) = (uptoF f m).map cD := by
    unfold uptoF
    rw [List.map_flatMap]
    refine fmap_congr _ fun h _ => ?_
    rw [List.map_map]
    rfl
  rw [e1] at cm
  have fz := frz_new (ds := (uptoF f m).map cD) (cls_map fun s _ => cls_c s)
  simp [bodyF, l_counts_up_to_2, cm, fz]
theorem uptoF_mem {f : List (List Nat)} {m : Nat} {s : List Nat} : s ∈ uptoF f m ↔ ∃ h k, h ∈ f ∧ k ≤ m ∧ s = h ++ [k] := by
  unfold uptoF
  rw [List.mem_flatMap]
  constructor
  · rintro ⟨h, hh, hs⟩
    obtain ⟨k, hk, rfl⟩ := List.mem_map.mp hs
    exact ⟨h, k, hh, by have := List.mem_range.mp hk; omega, rfl⟩
  · rintro ⟨h, k, hh, hk, rfl⟩
    exact ⟨h, hh, List.mem_map.mpr ⟨k, List.mem_range.mpr (by omega), rfl⟩⟩
theorem upto_loop : ∀ (cs : List Nat) (f : List (List Nat)) (v w x : Option D) (c0 : D), f.length * (cs.map (· + 1)).foldl (· * ·) 1 ≤ 16777216 → (∀ m ∈ cs, m ≤ 1000) → (∀ h ∈ f, h.length + cs.length ≤ 100) →
    ∃ v' w' x', forL none (bodyF t_counts_up_to (.nm 2) l_counts_up_to_2) (cs.map fun (k : Nat) => .int k) [some c0, some (.fl (f.map cD)), v, w, x] = ret (.nx [some c0, some (.fl ((cs.foldl uptoF f).map cD)), v', w', x'])
  | [], f, v, w, x, c0, _, _, _ => ⟨v, w, x, rfl⟩
  | m :: cs, f, v, w, x, c0, hz, hm, hL => by
    have pos : ∀ (l : List Nat) (a : Nat), (l.map (· + 1)).foldl (· * ·) a = a * (l.map (· + 1)).foldl (· * ·) 1 := by
      intro l
      induction l with
      | nil => intro a; simp
      | cons b l ih => intro a; simp only [List.map_cons, List.foldl_cons, Nat.one_mul]; rw [ih (a * (b + 1)), ih (b + 1), Nat.mul_assoc]
    have one : ∀ l : List Nat, 1 ≤ (l.map (· + 1)).foldl (· * ·) 1 := by
      intro l
      induction l with
      | nil => simp
      | cons b l ih =>
        simp only [List.map_cons, List.foldl_cons, Nat.one_mul]
        rw [pos]
        exact Nat.mul_le_mul (Nat.le_add_left 1 b) ih
    have hz' : f.length * (m + 1) * (cs.map (· + 1)).foldl (· * ·) 1 ≤ 16777216 := by
      simp only [List.map_cons, List.foldl_cons, Nat.one_mul] at hz
      rw [pos] at hz
      rw [Nat.mul_assoc]
      exact hz
    have hz1 : f.length * (m + 1) ≤ 16777216 := Nat.le_trans (Nat.le_mul_of_pos_right _ (one cs)) hz'
    have st := upto_turn (v := v) (w := w) (x := x) hz1 (hm m List.mem_cons_self) (fun h hh => by have := hL h hh; omega) c0
    obtain ⟨v', w', x', e⟩ := upto_loop cs (uptoF f m) (some (.int m)) w x c0 (by rw [uptoF_len]; exact hz') (fun k hk => hm k (List.mem_cons_of_mem _ hk)) (fun h hh => by
      obtain ⟨h0, k, hh0, _, rfl⟩ := uptoF_mem.mp hh
      have := hL h0 hh0
      simp only [List.length_append, List.length_cons, List.length_nil] at this ⊢
      omega)
    refine ⟨v', w', x', ?_⟩
    funext M
    rw [List.map_cons, forL_step (M1 := M) rfl (by rw [st]), e]
    rfl
def prodS (cs : List Nat) : Nat := (cs.map (· + 1)).foldl (· * ·) 1
theorem counts_up_to_eq {cs : List Nat} (hz : prodS cs ≤ 16777216) (hm : ∀ m ∈ cs, m ≤ 1000) (hl : cs.length ≤ 100) : frzR (f_counts_up_to [cD cs]) = ret (.fl ((upto cs).map cD)) := by
  obtain ⟨v', w', x', e⟩ := upto_loop cs [[]] none none none (cD cs) (by simpa [prodS] using hz) hm (by simpa using hl)
  have fz := frz_new (ds := [D.tup []]) (by simp)
  have fc : D.cl (.fl ((upto cs).map cD)) = true := by rw [cl_fl]; exact cls_map fun s _ => cls_c s
  have e' : forL none (bodyF t_counts_up_to (.nm 2) l_counts_up_to_2) (cs.map fun (k : Nat) => D.int k) [some (cD cs), some (.fl [D.tup []]), none, none, none] = DL.ret (.nx [some (cD cs), some (.fl ((upto cs).map cD)), v', w', x']) := e
  simp [f_counts_up_to, runDef_eq, b_counts_up_to, lstD_eq, tupD_eq, sizeLine_eq, fz, e', fc]
/-- one item less of a kind -/
def dec (s : List Nat) (i : Nat) : List Nat := s.take i ++ (s.getD i 0 - 1) :: s.drop (i + 1)
theorem less_one_eq {s : List Nat} {i : Nat} (hi : i < s.length) (hs : 0 < s.getD i 0) (hl : s.length ≤ 1000) : f_less_one [cD s, .int i] = ret (cD (dec s i)) := by
  have c1 : cut (s.map fun (k : Nat) => D.int k) none (some (i : Int)) = (s.take i).map fun (k : Nat) => D.int k := by
    unfold cut
    rw [HT.sIx_none, HT.sIx_nat]
    simp [List.map_take]
  have c2 : cut (s.map fun (k : Nat) => D.int k) (some ((i : Int) + 1)) none = (s.drop (i + 1)).map fun (k : Nat) => D.int k := by
    unfold cut
    rw [show (i : Int) + 1 = ((i + 1 : Nat) : Int) by omega, HT.sIx_none, HT.sIx_nat, List.length_map, Nat.min_eq_left (by omega), ← List.map_drop, List.take_of_length_le (by simp)]
  have ix : getIx (cD s) (.int (i : Int)) = DL.ret (.int (s.getD i 0 : Nat)) := ix_tupE (by
    rw [at_pos (by omega) (by rw [List.length_map]; omega)]
    show (s.map _)[i]? = _
    rw [List.getElem?_map, List.getElem?_eq_getElem hi, List.getD_eq_getElem?_getD, List.getElem?_eq_getElem hi]
    rfl)
  have e1 : ((s.getD i 0 : Nat) : Int) - 1 = ((s.getD i 0 - 1 : Nat) : Int) := by omega
  simp only [cD] at ix
  simp [f_less_one, runDef_eq, b_less_one, optI, c1, c2, ix, e1, tupD_eq, sizeLine_eq, dec]
  rw [if_pos (by omega)]
  rw [List.getD_eq_getElem?_getD] at e1
  simp only [cD, List.map_append, List.map_cons, List.map_take, List.map_drop, e1]
end K
end
section
set_option Elab.async false
set_option linter.all false
set_option maxRecDepth 100000
set_option maxHeartbeats 4000000
/-! the table of best packings, without the program -/
namespace K
def put (r : Int) (p : Int × Int) (z : Int) : Int × Int := if p.2 + z ≤ r then (p.1, p.2 + z) else (p.1 + 1, z)
def ltP (p q : Int × Int) : Bool := decide (p.1 < q.1 ∨ (p.1 = q.1 ∧ p.2 < q.2))
abbrev Bst := Option (Int × Int × Nat)
def stepB (r : Int) (look : List Nat → Int × Int) (s : List Nat) (best : Bst) (i : Nat) (z : Int) : Bst :=
  if 0 < s.getD i 0 then
    match best with
    | none => some ((put r (look (dec s i)) z).1, (put r (look (dec s i)) z).2, i)
    | some b => if ltP (put r (look (dec s i)) z) (b.1, b.2.1) = true then some ((put r (look (dec s i)) z).1, (put r (look (dec s i)) z).2, i) else some b
  else best
def bestFrom (r : Int) (look : List Nat → Int × Int) (s : List Nat) : Nat → List Int → Bst → Bst
  | _, [], b => b
  | i, z :: zs, b => bestFrom r look s (i + 1) zs (stepB r look s b i z)
abbrev Trip := Int × Int × Option Nat
def fin (r : Int) : Bst → Trip
  | none => (0, r, none)
  | some b => (b.1, b.2.1, some b.2.2)
def Vn (r : Int) (zs : List Int) : Nat → List Nat → Trip
  | 0, _ => (0, r, none)
  | n + 1, s => fin r (bestFrom r (fun t => ((Vn r zs n t).1, (Vn r zs n t).2.1)) s 0 zs none)
def V (r : Int) (zs : List Int) (s : List Nat) : Trip := Vn r zs s.sum s
def look (r : Int) (zs : List Int) (s : List Nat) : Int × Int := ((V r zs s).1, (V r zs s).2.1)
theorem dec_sum {s : List Nat} {i : Nat} (h : 0 < s.getD i 0) : (dec s i).sum + 1 = s.sum := by
  have hi : i < s.length := by
    rcases Nat.lt_or_ge i s.length with z | z
    · exact z
    · rw [List.getD_eq_getElem?_getD, List.getElem?_eq_none z] at h; simp at h
  have e : s = s.take i ++ s.getD i 0 :: s.drop (i + 1) := by
    rw [List.getD_eq_getElem?_getD, List.getElem?_eq_getElem hi]
    simp
  have e2 : s.sum = (s.take i).sum + (s.getD i 0 + (s.drop (i + 1)).sum) := by
    conv => lhs; rw [e]
    rw [List.sum_append, List.sum_cons]
  unfold dec
  rw [List.sum_append, List.sum_cons, e2]
  omega
theorem dec_len {s : List Nat} {i : Nat} (h : 0 < s.getD i 0) : (dec s i).length = s.length := by
  have hi : i < s.length := by
    rcases Nat.lt_or_ge i s.length with z | z
    · exact z
    · rw [List.getD_eq_getElem?_getD, List.getElem?_eq_none z] at h; simp at h
  unfold dec
  rw [List.length_append, List.length_cons, List.length_take, List.length_drop]
  omega
theorem stepB_congr {r : Int} {l1 l2 : List Nat → Int × Int} {s : List Nat} (h : ∀ i, 0 < s.getD i 0 → l1 (dec s i) = l2 (dec s i)) (b : Bst) (i : Nat) (z : Int) : stepB r l1 s b i z = stepB r l2 s b i z := by
  unfold stepB
  by_cases hs : 0 < s.getD i 0
  · rw [if_pos hs, if_pos hs, h i hs]
  · rw [if_neg hs, if_neg hs]
theorem bestFrom_congr {r : Int} {l1 l2 : List Nat → Int × Int} {s : List Nat} (h : ∀ i, 0 < s.getD i 0 → l1 (dec s i) = l2 (dec s i)) : ∀ (zs : List Int) (i : Nat) (b : Bst), bestFrom r l1 s i zs b = bestFrom r l2 s i zs b
  | [], _, _ => rfl
  | z :: zs, i, b => by
    unfold bestFrom
    rw [stepB_congr h, bestFrom_congr h zs]
theorem bestFrom_none {r : Int} {l : List Nat → Int × Int} {s : List Nat} (h : s.sum = 0) : ∀ (zs : List Int) (i : Nat), bestFrom r l s i zs none = none
  | [], _ => rfl
  | z :: zs, i => by
    have h0 : ¬ 0 < s.getD i 0 := fun q => by have := dec_sum q; omega
    unfold bestFrom stepB
    rw [if_neg h0]
    exact bestFrom_none h zs (i + 1)
/-- what the table holds is the best of what its earlier entries give -/
theorem V_eq (r : Int) (zs : List Int) (s : List Nat) : V r zs s = fin r (bestFrom r (look r zs) s 0 zs none) := by
  unfold V
  cases h : s.sum with
  | zero => rw [bestFrom_none h]; rfl
  | succ n =>
    unfold Vn
    congr 1
    refine bestFrom_congr (fun i hi => ?_) zs 0 none
    have := dec_sum hi
    have e : (dec s i).sum = n := by omega
    unfold look V
    rw [e]
end K
end
section
set_option Elab.async false
set_option linter.all false
set_option maxRecDepth 100000
set_option maxHeartbeats 4000000
namespace DL
open PySem
theorem frz_at {m : R D} {M : Mem} {d : D} (h : m M = some (.ok d, M)) (c : D.cl d = true) : frzR m M = some (.ok d, M) := frz_ext h (Ext.refl M) (frD_cl c _)
@[simp] theorem lt_tup2 {a b c d : Int} : cmpD .lt (.tup [.int a, .int b]) (.tup [.int c, .int d]) = ret (.bl (decide (a < c ∨ (a = c ∧ b < d)))) := by
  have e : HT.lexLt [a, b] [c, d] = decide (a < c ∨ (a = c ∧ b < d)) := by
    simp only [HT.lexLt]
    by_cases h1 : a < c
    · simp [h1]; omega
    · by_cases h2 : a = c
      · subst h2; simp; omega
      · simp [h1, h2]
  funext M
  show some (Except.ok (D.bl (HT.lexLt [a, b] [c, d])), M) = _
  rw [e]
end DL
namespace K
open PySem DL
abbrev keyC (s : List Nat) : List L2.Key := s.map fun (k : Nat) => .inl k
theorem keyOf_c (s : List Nat) : keyOf (cD s) = some (keyC s) := by
  show mapO keyD (s.map _) = _
  induction s with
  | nil => rfl
  | cons k s ih =>
    rw [List.map_cons, mapO, ih]
    rfl
def kD' : Option Nat → D
  | none => .non
  | some k => .int k
def tripD (t : Trip) : D := .tup [.int t.1, .int t.2.1, kD' t.2.2]
def bD : Bst → D
  | none => .non
  | some b => .tup [.int b.1, .int b.2.1, .int b.2.2]
theorem dget_at {M : Mem} {n : Nat} {fz : Bool} {kvs : List (List L2.Key × D)} {s : List Nat} {d : D} (h : M[n]? = some (.dct fz kvs)) (g : getK kvs (keyC s) = some d) : dgetD (.ref n) (cD s) M = some (.ok d, M) := by
  unfold dgetD dctOf
  dsimp only
  rw [h, keyOf_c]
  dsimp only
  rw [g]
abbrev penv (zs : List Int) (cs : D) (r : Int) (n : Nat) (s : List Nat) (b : D) (v w x : Option D) : DL.Env := [some (.tup (zs.map D.int)), some cs, some (.int r), some (.ref n), some (cD s), some b, v, w, x]
theorem pack_turn {M : Mem} {n : Nat} {kvs : List (List L2.Key × D)} {zs : List Int} {cs : D} {r : Int} {s : List Nat} {b : Bst} {v w x : Option D} {i : Nat} {z : Int} (hM : M[n]? = some (.dct false kvs)) (hl : s.length ≤ 1000) (hi : i < s.length)
    (g : 0 < s.getD i 0 → getK kvs (keyC (dec s i)) = some (tripD (V r zs (dec s i)))) :
    ∃ x', bodyF t_packings_of (.tup (.cons (.nm 6) (.cons (.nm 7) .nil))) l_packings_of_1 (.tup [.int (i : Int), .int z]) (penv zs cs r n s (bD b) v w x) M = some (.ok (.nx (penv zs cs r n s (bD (stepB r (look r zs) s b i z)) (some (.int i)) (some (.int z)) x')), M) := by
  have ix : getIx (cD s) (.int (i : Int)) = DL.ret (.int (s.getD i 0 : Nat)) := ix_tupE (by
    rw [at_pos (by omega) (by rw [List.length_map]; omega)]
    show (s.map _)[i]? = _
    rw [List.getElem?_map, List.getElem?_eq_getElem hi, List.getD_eq_getElem?_getD, List.getElem?_eq_getElem hi]
    rfl)
  by_cases hs : 0 < s.getD i 0
  · have lo := less_one_eq hi hs hl
    have dg := dget_at hM (g hs)
    have fz : frzR (bnd (dgetD (.ref n) (cD (dec s i))) fun y => getSl y none (some 2)) M = some (.ok (.tup [.int (look r zs (dec s i)).1, .int (look r zs (dec s i)).2]), M) := by
      refine frz_at ?_ (by simp)
      rw [bnd_ok dg]
      rfl
    have pt := put_into_last_eq (look r zs (dec s i)).1 (look r zs (dec s i)).2 z r
    have cc := cls_c (dec s i)
    generalize hp : put r (look r zs (dec s i)) z = p at *
    have hp' : (if (look r zs (dec s i)).2 + z ≤ r then [D.int (look r zs (dec s i)).1, .int ((look r zs (dec s i)).2 + z)] else [.int ((look r zs (dec s i)).1 + 1), .int z]) = [.int p.1, .int p.2] := by
      rw [← hp]
      unfold put
      split <;> rfl
    rw [hp'] at pt
    have fz2 : frzR (bnd (frzR (bnd (dgetD (.ref n) (cD (dec s i))) fun y => getSl y none (some 2))) fun y => noErr (f_put_into_last [y, .int z, .int r])) M = some (.ok (.tup [.int p.1, .int p.2]), M) := by
      refine frz_at ?_ (by simp)
      rw [bnd_ok fz, pt]
      rfl
    have ct : ∀ a b c : D, cut [a, b, c] none (some 2) = [a, b] := fun _ _ _ => rfl
    have e0 : (0 : Int) < ((s.getD i 0 : Nat) : Int) := by omega
    generalize ((s.getD i 0 : Nat) : Int) = q at ix e0
    refine ⟨some (.tup [.int p.1, .int p.2]), ?_⟩
    unfold stepB
    rw [if_pos hs, hp]
    cases b with
    | none =>
      simp [bodyF, l_packings_of_1, ix, e0, lo, cc, optI, bnd_at, fz2, bD, tupD_eq, sizeLine_eq, -List.getD_eq_getElem?_getD]
    | some b0 =>
      by_cases hb : p.1 < b0.1 ∨ p.1 = b0.1 ∧ p.2 < b0.2.1
      · simp [bodyF, l_packings_of_1, ix, e0, lo, cc, optI, bnd_at, fz2, bD, ct, tupD_eq, sizeLine_eq, ltP, hb, -List.getD_eq_getElem?_getD]
      · simp [bodyF, l_packings_of_1, ix, e0, lo, cc, optI, bnd_at, fz2, bD, ct, tupD_eq, sizeLine_eq, ltP, hb, -List.getD_eq_getElem?_getD]
  · refine ⟨x, ?_⟩
    have hs' : s.getD i 0 = 0 := by omega
    rw [hs'] at ix
    unfold stepB
    rw [if_neg hs]
    simp [bodyF, l_packings_of_1, ix, bnd_at, -List.getD_eq_getElem?_getD]
end K
end
section
set_option Elab.async false
set_option linter.all false
set_option maxRecDepth 100000
set_option maxHeartbeats 4000000
namespace K
open PySem DL
theorem bestFrom_app {r : Int} {l : List Nat → Int × Int} {s : List Nat} : ∀ (a b : List Int) (i : Nat) (x : Bst), bestFrom r l s i (a ++ b) x = bestFrom r l s (i + a.length) b (bestFrom r l s i a x)
  | [], b, i, x => by simp [bestFrom]
  | z :: a, b, i, x => by
    rw [List.cons_append]
    unfold bestFrom
    rw [bestFrom_app a b (i + 1)]
    have e : i + 1 + a.length = i + (z :: a).length := by simp only [List.length_cons]; omega
    rw [e]
    cases b <;> rfl
theorem pack_inner {M : Mem} {n : Nat} {kvs : List (List L2.Key × D)} {zs : List Int} {cs : D} {r : Int} {s : List Nat} {v w x : Option D} (hM : M[n]? = some (.dct false kvs)) (hl : s.length ≤ 1000) (he : s.length = zs.length)
    (g : ∀ i, 0 < s.getD i 0 → getK kvs (keyC (dec s i)) = some (tripD (V r zs (dec s i)))) :
    ∃ v' w' x', forL none (bodyF t_packings_of (.tup (.cons (.nm 6) (.cons (.nm 7) .nil))) l_packings_of_1) (numbered 0 (zs.map D.int)) (penv zs cs r n s .non v w x) M = some (.ok (.nx (penv zs cs r n s (bD (bestFrom r (look r zs) s 0 zs none)) v' w' x')), M) := by
  obtain ⟨env', M', e, rfl, v', w', x', rfl⟩ := forL_0 (g := none) (turn := bodyF t_packings_of (.tup (.cons (.nm 6) (.cons (.nm 7) .nil))) l_packings_of_1) (ds := numbered 0 (zs.map D.int)) (M := M) (env := penv zs cs r n s .non v w x)
    (fun i env M' => M' = M ∧ ∃ v w x, env = penv zs cs r n s (bD (bestFrom r (look r zs) s 0 (zs.take i) none)) v w x) (fun _ _ _ _ => rfl) ⟨rfl, v, w, x, rfl⟩ (by
      rintro i d env M1 hi ⟨rfl, v, w, x, rfl⟩
      rw [numbered_get, List.getElem?_map] at hi
      cases hp : zs[i]? with
      | none => rw [hp] at hi; cases hi
      | some z =>
        rw [hp] at hi
        have hd : d = .tup [.int ((0 + i : Nat) : Int), .int z] := (Option.some.inj hi).symm
        rw [Nat.zero_add] at hd
        subst hd
        have hz : i < zs.length := (List.getElem?_eq_some_iff.mp hp).1
        obtain ⟨x', e⟩ := pack_turn (cs := cs) (b := bestFrom r (look r zs) s 0 (zs.take i) none) (v := v) (w := w) (x := x) (i := i) (z := z) hM hl (by omega) (g i)
        refine ⟨_, _, e, rfl, some (.int i), some (.int z), x', ?_⟩
        have ez : zs.take (i + 1) = zs.take i ++ [z] := by
          rw [List.take_succ, hp]
          rfl
        rw [ez, bestFrom_app]
        have el : 0 + (zs.take i).length = i := by rw [List.length_take]; omega
        rw [el]
        rfl)
  refine ⟨v', w', x', ?_⟩
  rw [numbered_len, List.length_map, List.take_length] at e
  exact e
theorem dset_at {M : Mem} {n : Nat} {kvs : List (List L2.Key × D)} {s : List Nat} {d : D} (h : M[n]? = some (.dct false kvs)) (hl : kvs.length < 16777216) : dsetD (.ref n) (cD s) d M = some (.ok (), M.set n (.dct false (setK kvs (keyC s) d))) := by
  unfold dsetD
  rw [keyOf_c]
  dsimp only
  rw [h]
  dsimp only
  rw [if_pos (by rw [sizeLine_eq]; exact hl)]
theorem fin_D (r : Int) (b : Bst) : (match b with | none => D.tup [.int 0, .int r, .non] | some _ => bD b) = tripD (fin r b) := by
  cases b <;> rfl
theorem pack_outer {M : Mem} {n : Nat} {kvs : List (List L2.Key × D)} {zs : List Int} {cs : D} {r : Int} {s : List Nat} {st b v w x : Option D} (hM : M[n]? = some (.dct false kvs)) (hk : kvs.length < 16777216) (hl : s.length ≤ 1000) (he : s.length = zs.length)
    (g : ∀ i, 0 < s.getD i 0 → getK kvs (keyC (dec s i)) = some (tripD (V r zs (dec s i)))) :
    ∃ st' b' v' w' x', bodyF t_packings_of (.nm 4) l_packings_of_2 (cD s) [some (.tup (zs.map D.int)), some cs, some (.int r), some (.ref n), st, b, v, w, x] M =
      some (.ok (.nx [some (.tup (zs.map D.int)), some cs, some (.int r), some (.ref n), st', b', v', w', x']), M.set n (.dct false (setK kvs (keyC s) (tripD (V r zs s))))) := by
  obtain ⟨v', w', x', e⟩ := pack_inner (cs := cs) (v := v) (w := w) (x := x) hM hl he g
  have ds := dset_at (s := s) (d := tripD (V r zs s)) hM hk
  rw [V_eq] at ds ⊢
  generalize bestFrom r (look r zs) s 0 zs none = B at e ds ⊢
  refine ⟨some (cD s), some (bD B), v', w', x', ?_⟩
  simp only [penv] at e
  cases B with
  | none =>
    have ds : dsetD (.ref n) (cD s) (.tup [.int 0, .int r, .non]) M = _ := ds
    simp [bodyF, l_packings_of_2, bnd_at, e, bD, tupD_eq, sizeLine_eq, ds]
  | some b0 =>
    have ds : dsetD (.ref n) (cD s) (bD (some b0)) M = _ := ds
    simp only [bD] at ds e
    simp [bodyF, l_packings_of_2, bnd_at, e, bD, ds]
theorem getK_setK_eq (k : List L2.Key) (d : D) : ∀ kvs : List (List L2.Key × D), getK (setK kvs k d) k = some d := by
  have g1 : ∀ kvs : List (List L2.Key × D), (kvs.any fun kv => decide (kv.1 = k)) = true → getK (kvs.map fun kv => if kv.1 = k then (kv.1, d) else kv) k = some d := by
    intro kvs
    induction kvs with
    | nil => intro h; cases h
    | cons p kvs ih =>
      intro h
      rw [List.map_cons]
      by_cases hp : p.1 = k
      · rw [if_pos hp]
        show (if p.1 = k then some d else _) = _
        rw [if_pos hp]
      · rw [if_neg hp]
        show (if p.1 = k then some p.2 else getK _ k) = _
        rw [if_neg hp]
        rw [List.any_cons, decide_eq_false hp, Bool.false_or] at h
        exact ih h
  have g2 : ∀ kvs : List (List L2.Key × D), (kvs.any fun kv => decide (kv.1 = k)) = false → getK (kvs ++ [(k, d)]) k = some d := by
    intro kvs
    induction kvs with
    | nil => intro _; show (if k = k then some d else _) = _; rw [if_pos rfl]
    | cons p kvs ih =>
      intro h
      rw [List.any_cons, Bool.or_eq_false_iff] at h
      show (if p.1 = k then some p.2 else getK (kvs ++ [(k, d)]) k) = _
      rw [if_neg (of_decide_eq_false h.1)]
      exact ih h.2
  intro kvs
  unfold setK
  by_cases h : (kvs.any fun kv => decide (kv.1 = k)) = true
  · rw [if_pos h]; exact g1 kvs h
  · rw [if_neg h]; exact g2 kvs (Bool.eq_false_iff.mpr h)
theorem getK_setK_ne {k k' : List L2.Key} (d : D) (hne : k ≠ k') : ∀ kvs : List (List L2.Key × D), getK (setK kvs k d) k' = getK kvs k' := by
  have g1 : ∀ kvs : List (List L2.Key × D), getK (kvs.map fun kv => if kv.1 = k then (kv.1, d) else kv) k' = getK kvs k' := by
    intro kvs
    induction kvs with
    | nil => rfl
    | cons p kvs ih =>
      rw [List.map_cons]
      by_cases hp : p.1 = k
      · rw [if_pos hp]
        show (if p.1 = k' then some d else getK _ k') = (if p.1 = k' then some p.2 else getK kvs k')
        rw [if_neg (by rw [hp]; exact hne), if_neg (by rw [hp]; exact hne), ih]
      · rw [if_neg hp]
        show (if p.1 = k' then some p.2 else getK _ k') = (if p.1 = k' then some p.2 else getK kvs k')
        rw [ih]
  have g2 : ∀ kvs : List (List L2.Key × D), getK (kvs ++ [(k, d)]) k' = getK kvs k' := by
    intro kvs
    induction kvs with
    | nil => show (if k = k' then some d else none) = none; rw [if_neg hne]
    | cons p kvs ih =>
      show (if p.1 = k' then some p.2 else getK (kvs ++ [(k, d)]) k') = (if p.1 = k' then some p.2 else getK kvs k')
      rw [ih]
  intro kvs
  unfold setK
  by_cases h : (kvs.any fun kv => decide (kv.1 = k)) = true
  · rw [if_pos h]; exact g1 kvs
  · rw [if_neg h]; exact g2 kvs
theorem setK_len (k : List L2.Key) (d : D) (kvs : List (List L2.Key × D)) : (setK kvs k d).length ≤ kvs.length + 1 := by
  unfold setK
  split
  · rw [List.length_map]; omega
  · simp
theorem keyC_inj : ∀ {s t : List Nat}, keyC s = keyC t → s = t
  | [], [], _ => rfl
  | [], _ :: _, h => by simp [keyC] at h
  | _ :: _, [], h => by simp [keyC] at h
  | a :: s, b :: t, h => by
    simp only [keyC, List.map_cons, List.cons.injEq, Sum.inl.injEq] at h
    rw [keyC_inj (s := s) (t := t) h.2]
    have := h.1
    congr 1
    omega
theorem packings_eq {zs : List Int} {cs : List Nat} {r : Int} (hz : prodS cs ≤ 16777215) (hm : ∀ m ∈ cs, m ≤ 1000) (hlen : cs.length = zs.length) (hl : cs.length ≤ 100) (hL : (upto cs).length ≤ 16777215) (hS : ∀ s ∈ upto cs, s.length = zs.length)
    (ord : ∀ j s i, (upto cs)[j]? = some s → 0 < s.getD i 0 → dec s i ∈ (upto cs).take j) (M : Mem) :
    ∃ kvs, f_packings_of [.tup (zs.map D.int), cD cs, .int r] M = some (.ok (.ref M.length), M ++ [.dct false kvs]) ∧ ∀ s ∈ upto cs, getK kvs (keyC s) = some (tripD (V r zs s)) := by
  have cu := counts_up_to_eq (cs := cs) (by omega) hm hl
  obtain ⟨env', M', e, kvs, rfl, hk, g, st, b, v, w, x, rfl⟩ := forL_0 (g := none) (turn := bodyF t_packings_of (.nm 4) l_packings_of_2) (ds := (upto cs).map cD) (M := M ++ [.dct false []]) (env := [some (.tup (zs.map D.int)), some (cD cs), some (.int r), some (.ref M.length), none, none, none, none, none])
    (fun j env M' => ∃ kvs, M' = M ++ [.dct false kvs] ∧ kvs.length ≤ j ∧ (∀ s ∈ (upto cs).take j, getK kvs (keyC s) = some (tripD (V r zs s))) ∧ ∃ st b v w x, env = [some (.tup (zs.map D.int)), some (cD cs), some (.int r), some (.ref M.length), st, b, v, w, x]) (fun _ _ _ _ => rfl)
    ⟨[], rfl, Nat.le_refl _, fun s hs => by simp at hs, none, none, none, none, none, rfl⟩ (by
      rintro j d env M1 hj ⟨kvs, rfl, hk, g, st, b, v, w, x, rfl⟩
      rw [List.getElem?_map] at hj
      cases hp : (upto cs)[j]? with
      | none => rw [hp] at hj; cases hj
      | some s =>
        rw [hp] at hj
        cases hj
        have hjl : j < (upto cs).length := (List.getElem?_eq_some_iff.mp hp).1
        have hs : s ∈ upto cs := List.mem_of_getElem? hp
        have hsl := hS s hs
        obtain ⟨st', b', v', w', x', e⟩ := pack_outer (M := M ++ [.dct false kvs]) (n := M.length) (zs := zs) (cs := cD cs) (r := r) (s := s) (st := st) (b := b) (v := v) (w := w) (x := x) get_new (by omega) (by omega) hsl (fun i hi => g _ (ord j s i hp hi))
        rw [set_mid] at e
        refine ⟨_, _, e, _, rfl, Nat.le_trans (setK_len _ _ _) (by omega), fun t ht => ?_, st', b', v', w', x', rfl⟩
        rw [List.take_succ, hp] at ht
        by_cases hst : t = s
        · subst hst; exact getK_setK_eq _ _ _
        · rw [getK_setK_ne _ (fun z => hst (keyC_inj z).symm)]
          rcases List.mem_append.mp ht with ht | ht
          · exact g t ht
          · exact absurd (by simpa using ht) hst)
  refine ⟨kvs, ?_, fun s hs => g s (by rw [List.length_map, List.take_length]; exact hs)⟩
  simp [f_packings_of, runDef_eq, b_packings_of, bnd_at, cu, e]
end K
end
section
set_option Elab.async false
set_option linter.all false
set_option maxRecDepth 100000
set_option maxHeartbeats 4000000
/-! the states of the table: which, in which order -/
namespace K
def leC : List Nat → List Nat → Prop
  | [], [] => True
  | a :: s, b :: t => a ≤ b ∧ leC s t
  | _, _ => False
theorem leC_len : ∀ {s t : List Nat}, leC s t → s.length = t.length
  | [], [], _ => rfl
  | _ :: s, _ :: t, h => by rw [List.length_cons, List.length_cons, leC_len h.2]
  | [], _ :: _, h => h.elim
  | _ :: _, [], h => h.elim
theorem leC_refl : ∀ s : List Nat, leC s s
  | [] => trivial
  | a :: s => ⟨Nat.le_refl _, leC_refl s⟩
theorem mem_fold : ∀ (cs : List Nat) (f : List (List Nat)) (s : List Nat), s ∈ cs.foldl uptoF f ↔ ∃ h ∈ f, ∃ t, leC t cs ∧ s = h ++ t
  | [], f, s => by
    constructor
    · intro h; exact ⟨s, h, [], trivial, by simp⟩
    · rintro ⟨h, hh, t, ht, rfl⟩
      cases t with
      | nil => simpa using hh
      | cons a t => exact ht.elim
  | m :: cs, f, s => by
    rw [List.foldl_cons, mem_fold cs]
    constructor
    · rintro ⟨h', hh', t', ht', rfl⟩
      obtain ⟨h, k, hh, hk, rfl⟩ := uptoF_mem.mp hh'
      exact ⟨h, hh, k :: t', ⟨hk, ht'⟩, by simp⟩
    · rintro ⟨h, hh, t, ht, rfl⟩
      cases t with
      | nil => exact ht.elim
      | cons k t => exact ⟨h ++ [k], uptoF_mem.mpr ⟨h, k, hh, ht.1, rfl⟩, t, ht.2, by simp⟩
theorem upto_mem {cs s : List Nat} : s ∈ upto cs ↔ leC s cs := by
  unfold upto
  rw [mem_fold]
  constructor
  · rintro ⟨h, hh, t, ht, rfl⟩
    rw [List.mem_singleton] at hh
    subst hh
    exact ht
  · intro h; exact ⟨[], by simp, s, h, rfl⟩
def lx : List Nat → List Nat → Prop
  | a :: s, b :: t => a < b ∨ (a = b ∧ lx s t)
  | _, _ => False
theorem lx_asymm : ∀ {s t : List Nat}, lx s t → ¬ lx t s
  | [], _, h => h.elim
  | _ :: _, [], h => h.elim
  | a :: s, b :: t, h => by
    rintro (h2 | ⟨e2, h2⟩)
    · rcases h with h | ⟨e, _⟩ <;> omega
    · rcases h with h | ⟨e, h⟩
      · omega
      · exact lx_asymm h h2
theorem lx_snoc : ∀ {s t : List Nat} (k l : Nat), lx s t → lx (s ++ [k]) (t ++ [l])
  | [], _, _, _, h => h.elim
  | _ :: _, [], _, _, h => h.elim
  | a :: s, b :: t, k, l, h => by
    rcases h with h | ⟨e, h⟩
    · exact .inl h
    · exact .inr ⟨e, lx_snoc k l h⟩
theorem lx_last : ∀ (s : List Nat) {k l : Nat}, k < l → lx (s ++ [k]) (s ++ [l])
  | [], _, _, h => .inl h
  | a :: s, _, _, h => .inr ⟨rfl, lx_last s h⟩
theorem pw_uptoF {f : List (List Nat)} (h : f.Pairwise lx) (m : Nat) : (uptoF f m).Pairwise lx := by
  unfold uptoF
  rw [List.pairwise_flatMap]
  refine ⟨fun s _ => ?_, h.imp fun {s t} hst x hx y hy => ?_⟩
  · rw [List.pairwise_map]
    exact List.pairwise_lt_range.imp fun {a b} hab => lx_last s hab
  · obtain ⟨k, _, rfl⟩ := List.mem_map.mp hx
    obtain ⟨l, _, rfl⟩ := List.mem_map.mp hy
    exact lx_snoc k l hst
theorem pw_fold : ∀ (cs : List Nat) (f : List (List Nat)), f.Pairwise lx → (cs.foldl uptoF f).Pairwise lx
  | [], _, h => h
  | m :: cs, f, h => pw_fold cs _ (pw_uptoF h m)
theorem pw_upto (cs : List Nat) : (upto cs).Pairwise lx := pw_fold cs _ (by simp)
theorem dec_cons0 {a : Nat} {s : List Nat} : dec (a :: s) 0 = (a - 1) :: s := by simp [dec]
theorem dec_consS {a : Nat} {s : List Nat} {i : Nat} : dec (a :: s) (i + 1) = a :: dec s i := by simp [dec]
theorem lx_dec : ∀ {s : List Nat} {i : Nat}, 0 < s.getD i 0 → lx (dec s i) s
  | [], i, h => by simp at h
  | a :: s, 0, h => by
    rw [dec_cons0]
    have h : 0 < a := by simpa using h
    exact .inl (by omega)
  | a :: s, i + 1, h => by
    rw [dec_consS]
    exact .inr ⟨rfl, lx_dec (by simpa using h)⟩
theorem leC_dec : ∀ {s t : List Nat} {i : Nat}, leC s t → 0 < s.getD i 0 → leC (dec s i) t
  | [], _, i, _, h => by simp at h
  | a :: s, [], _, h, _ => h.elim
  | a :: s, b :: t, 0, h, _ => by rw [dec_cons0]; exact ⟨Nat.le_trans (Nat.sub_le _ _) h.1, h.2⟩
  | a :: s, b :: t, i + 1, h, g => by rw [dec_consS]; exact ⟨h.1, leC_dec h.2 (by simpa using g)⟩
theorem upto_ord {cs : List Nat} (j : Nat) (s : List Nat) (i : Nat) (h : (upto cs)[j]? = some s) (g : 0 < s.getD i 0) : dec s i ∈ (upto cs).take j := by
  have hs : leC s cs := upto_mem.mp (List.mem_of_getElem? h)
  have hd : dec s i ∈ upto cs := upto_mem.mpr (leC_dec hs g)
  obtain ⟨j', hj', e'⟩ := List.getElem_of_mem hd
  obtain ⟨hj, e⟩ := List.getElem?_eq_some_iff.mp h
  have pw := List.pairwise_iff_getElem.mp (pw_upto cs)
  have l := lx_dec g
  rcases Nat.lt_trichotomy j' j with q | q | q
  · rw [← e']
    exact List.mem_take_iff_getElem.mpr ⟨j', by omega, by simp⟩
  · subst q
    rw [e] at e'
    rw [← e'] at l
    exact absurd l (lx_asymm l)
  · have := pw j j' hj hj' q
    rw [e, e'] at this
    exact absurd l (lx_asymm this)
theorem upto_length : ∀ (cs : List Nat) (f : List (List Nat)), (cs.foldl uptoF f).length = f.length * prodS cs
  | [], f => by simp [prodS]
  | m :: cs, f => by
    rw [List.foldl_cons, upto_length cs, uptoF_len]
    have pos : ∀ (l : List Nat) (a : Nat), (l.map (· + 1)).foldl (· * ·) a = a * (l.map (· + 1)).foldl (· * ·) 1 := by
      intro l
      induction l with
      | nil => intro a; simp
      | cons b l ih => intro a; simp only [List.map_cons, List.foldl_cons, Nat.one_mul]; rw [ih (a * (b + 1)), ih (b + 1), Nat.mul_assoc]
    unfold prodS
    simp only [List.map_cons, List.foldl_cons, Nat.one_mul]
    rw [pos cs (m + 1), Nat.mul_assoc]
open PySem DL in
theorem packings_eq2 {zs : List Int} {cs : List Nat} {r : Int} (hz : prodS cs ≤ 16777215) (hm : ∀ m ∈ cs, m ≤ 1000) (hlen : cs.length = zs.length) (hl : cs.length ≤ 100) (M : Mem) :
    ∃ kvs, f_packings_of [.tup (zs.map D.int), cD cs, .int r] M = some (.ok (.ref M.length), M ++ [.dct false kvs]) ∧ ∀ s, leC s cs → getK kvs (keyC s) = some (tripD (V r zs s)) := by
  obtain ⟨kvs, e, g⟩ := packings_eq (r := r) hz hm hlen hl (by have := upto_length cs [[]]; unfold upto; rw [this]; simpa using hz) (fun s hs => (leC_len (upto_mem.mp hs)).trans hlen) upto_ord M
  exact ⟨kvs, e, fun s hs => g s (upto_mem.mpr hs)⟩
end K
end
section
set_option Elab.async false
set_option linter.all false
set_option maxRecDepth 100000
set_option maxHeartbeats 4000000
namespace K
open PySem DL
theorem prod_le : ∀ (cs : List Nat), (∀ m ∈ cs, m ≤ 14) → prodS cs ≤ 15 ^ cs.length
  | [], _ => by simp [prodS]
  | m :: cs, h => by
    have pos : ∀ (l : List Nat) (a : Nat), (l.map (· + 1)).foldl (· * ·) a = a * (l.map (· + 1)).foldl (· * ·) 1 := by
      intro l
      induction l with
      | nil => intro a; simp
      | cons b l ih => intro a; simp only [List.map_cons, List.foldl_cons, Nat.one_mul]; rw [ih (a * (b + 1)), ih (b + 1), Nat.mul_assoc]
    have ih := prod_le cs fun k hk => h k (List.mem_cons_of_mem _ hk)
    have hm := h m List.mem_cons_self
    unfold prodS at ih ⊢
    simp only [List.map_cons, List.foldl_cons, Nat.one_mul, List.length_cons]
    rw [pos, Nat.pow_succ, Nat.mul_comm (15 ^ cs.length)]
    exact Nat.mul_le_mul (by omega) ih
/-- how many items a row has of each kind -/
def cnts (ps : List (Str × Int)) (row : List Str) : List Nat := ps.map fun p => row.count p.1
theorem tripD_cl (t : Trip) : D.cl (tripD t) = true := by
  obtain ⟨a, b, k⟩ := t
  cases k <;> simp [tripD, kD']
theorem least_boxes_eq {room : Int} {ps : List (Str × Int)} (h : Kinds room ps) {row : List Str} (hl : row.length ≤ 14) (hr : ∀ x ∈ row, x ∈ ps.map (·.1)) {far : Option Int} (hf : roomOk room ps far) :
    f_least_boxes [Gv room ps, rowD row, farD far] = ret (.int (V (far.getD room) (ps.map (·.2)) (cnts ps row)).1) := by
  have e1 := checked_room_eq h hl hr hf
  have e2 := counts_of_eq h (row := row)
  have e2' : (D.tup (ps.map fun p => D.int (row.count p.1))) = cD (cnts ps row) := by
    unfold cnts
    rw [cD, List.map_map]
    rfl
  rw [e2'] at e2
  have at1 : getAt t_least_boxes (Gv room ps) "sizes" = DL.ret (.tup ((ps.map (·.2)).map D.int)) := by
    rw [attr_prop tc_least_boxes_Goods (g := f_Goods_sizes) (by show (if ("sizes" : Str) = "sizes" then some f_Goods_sizes else none) = _; rw [if_pos rfl]), sizes_eq h, noErr_ret, List.map_map]
    rfl
  have cl1 : D.cl (.tup ((ps.map (·.2)).map D.int)) = true := by rw [cl_tup]; exact cls_ints _
  have h14 : ∀ m ∈ cnts ps row, m ≤ 14 := fun m hm => by
    obtain ⟨p, _, rfl⟩ := List.mem_map.mp hm
    exact Nat.le_trans List.count_le_length hl
  have hlen : (cnts ps row).length = ps.length := List.length_map _
  have hp : prodS (cnts ps row) ≤ 16777215 := by
    refine Nat.le_trans (prod_le _ h14) ?_
    have : (15 : Nat) ^ (cnts ps row).length ≤ 15 ^ 6 := Nat.pow_le_pow_right (by omega) (by rw [hlen]; exact h.len6)
    exact Nat.le_trans this (by decide)
  have fz : frzR (bnd (noErr (f_packings_of [.tup ((ps.map (·.2)).map D.int), cD (cnts ps row), .int (far.getD room)])) fun x => dgetD x (cD (cnts ps row))) = DL.ret (tripD (V (far.getD room) (ps.map (·.2)) (cnts ps row))) := by
    refine frz_pure fun M => ?_
    obtain ⟨kvs, e, g⟩ := packings_eq2 (zs := ps.map (·.2)) (cs := cnts ps row) (r := far.getD room) hp (fun m hm => Nat.le_trans (h14 m hm) (by omega)) (by rw [hlen, List.length_map]) (by rw [hlen]; have := h.len6; omega) M
    refine ⟨_, M ++ [.dct false kvs], ?_, Ext.add _ _, frD_cl (tripD_cl _) _⟩
    have e' : noErr (f_packings_of [.tup ((ps.map (·.2)).map D.int), cD (cnts ps row), .int (far.getD room)]) M = some (.ok (.ref M.length), M ++ [.dct false kvs]) := by rw [noErr_at, e]
    rw [bnd_ok e']
    exact dget_at get_new (g _ (leC_refl _))
  have cc := cls_c (cnts ps row)
  have ce := tripD_cl (V (far.getD room) (ps.map (·.2)) (cnts ps row))
  have t0 : getIx (tripD (V (far.getD room) (ps.map (·.2)) (cnts ps row))) (.int 0) = DL.ret (.int (V (far.getD room) (ps.map (·.2)) (cnts ps row)).1) := ix_t0
  generalize (ps.map (·.2)).map D.int = SZ at at1 cl1 fz
  generalize V (far.getD room) (ps.map (·.2)) (cnts ps row) = VV at fz t0 ce ⊢
  generalize cD (cnts ps row) = CC at e2 fz cc
  simp [f_least_boxes, runDef_eq, b_least_boxes, e1, e2, at1, cl1, cc, fz, t0, tupD_eq, sizeLine_eq, -List.map_map]
end K
end
section
set_option Elab.async false
set_option linter.all false
set_option maxRecDepth 100000
set_option maxHeartbeats 4000000
/-! what the table holds is the least: no program in sight -/
namespace K
def leP (p q : Int × Int) : Prop := p.1 < q.1 ∨ (p.1 = q.1 ∧ p.2 ≤ q.2)
theorem leP_refl (p : Int × Int) : leP p p := .inr ⟨rfl, Int.le_refl _⟩
theorem leP_trans {p q s : Int × Int} (h : leP p q) (g : leP q s) : leP p s := by
  unfold leP at *
  omega
theorem put_mono {r z : Int} {p q : Int × Int} (h : leP p q) (hq : 0 ≤ q.2) (hz : 0 ≤ z) : leP (put r p z) (put r q z) := by
  unfold leP at h
  unfold put leP
  split <;> split <;> simp only <;> omega
theorem put_nn {r z : Int} {p : Int × Int} (hp : 0 ≤ p.2) (hz : 0 ≤ z) : 0 ≤ (put r p z).2 := by
  unfold put
  split <;> simp only <;> omega
def runF (r : Int) (p : Int × Int) (l : List Int) : Int × Int := l.foldl (put r) p
theorem runF_nn {r : Int} : ∀ (l : List Int) (p : Int × Int), 0 ≤ p.2 → (∀ z ∈ l, 0 ≤ z) → 0 ≤ (runF r p l).2
  | [], _, h, _ => h
  | z :: l, p, h, g => runF_nn l _ (put_nn h (g z List.mem_cons_self)) fun y hy => g y (List.mem_cons_of_mem _ hy)
theorem runF_mono {r : Int} : ∀ (l : List Int) {p q : Int × Int}, leP p q → 0 ≤ q.2 → (∀ z ∈ l, 0 ≤ z) → leP (runF r p l) (runF r q l)
  | [], _, _, h, _, _ => h
  | z :: l, p, q, h, hq, g => runF_mono l (put_mono h hq (g z List.mem_cons_self)) (put_nn hq (g z List.mem_cons_self)) fun y hy => g y (List.mem_cons_of_mem _ hy)
theorem runF_app (r : Int) (p : Int × Int) (a b : List Int) : runF r p (a ++ b) = runF r (runF r p a) b := by
  unfold runF
  rw [List.foldl_append]
theorem sum_nn : ∀ (l : List Int), (∀ z ∈ l, 0 ≤ z) → 0 ≤ l.sum
  | [], _ => by simp
  | z :: l, g => by
    rw [List.sum_cons]
    have := g z List.mem_cons_self
    have := sum_nn l fun y hy => g y (List.mem_cons_of_mem _ hy)
    omega
theorem runF_fits {r : Int} : ∀ (l : List Int) (k f : Int), f + l.sum ≤ r → (∀ z ∈ l, 0 ≤ z) → runF r (k, f) l = (k, f + l.sum)
  | [], k, f, _, _ => by simp [runF]
  | z :: l, k, f, h, g => by
    rw [List.sum_cons] at h ⊢
    have hl := sum_nn l fun y hy => g y (List.mem_cons_of_mem _ hy)
    have e : put r (k, f) z = (k, f + z) := by unfold put; rw [if_pos (by simp only; omega)]
    show runF r (put r (k, f) z) l = _
    rw [e, runF_fits l k (f + z) (by omega) fun y hy => g y (List.mem_cons_of_mem _ hy)]
    congr 1
    omega
/-- a packing: boxes that hold just these items, none empty, none above the room -/
structure Pack (r : Int) (bs : List (List Int)) (xs : List Int) : Prop where
  all : bs.flatten.Perm xs
  ne : ∀ b ∈ bs, b ≠ []
  fit : ∀ b ∈ bs, b.sum ≤ r
theorem run_box {r : Int} {b : List Int} {p : Int × Int} (hb : b ≠ []) (hs : b.sum ≤ r) (hp : ∀ z ∈ b, 0 ≤ z) : leP (runF r p b) (p.1 + 1, b.sum) := by
  cases b with
  | nil => exact absurd rfl hb
  | cons z l =>
    have h1 : leP (put r p z) (p.1 + 1, z) := by
      unfold put leP
      split
      · left; show p.1 < p.1 + 1; omega
      · right; exact ⟨rfl, Int.le_refl _⟩
    have h2 := runF_mono (r := r) l h1 (hp z List.mem_cons_self) fun y hy => hp y (List.mem_cons_of_mem _ hy)
    rw [List.sum_cons] at hs
    rw [runF_fits l (p.1 + 1) z hs fun y hy => hp y (List.mem_cons_of_mem _ hy)] at h2
    rw [List.sum_cons]
    exact h2
theorem run_boxes {r : Int} : ∀ (bs : List (List Int)) (p : Int × Int), 0 ≤ p.2 → (∀ b ∈ bs, b ≠ []) → (∀ b ∈ bs, b.sum ≤ r) → (∀ b ∈ bs, ∀ z ∈ b, 0 ≤ z) → (runF r p bs.flatten).1 ≤ p.1 + bs.length
  | [], p, _, _, _, _ => by simp [runF]
  | b :: bs, p, h0, h1, h2, h3 => by
    have hb := run_box (p := p) (h1 b List.mem_cons_self) (h2 b List.mem_cons_self) (h3 b List.mem_cons_self)
    have nn := sum_nn b (h3 b List.mem_cons_self)
    have hz : ∀ z ∈ bs.flatten, 0 ≤ z := fun z hz => by
      obtain ⟨c, hc, hz⟩ := List.mem_flatten.mp hz
      exact h3 c (List.mem_cons_of_mem _ hc) z hz
    have m := runF_mono (r := r) bs.flatten hb nn hz
    have ih := run_boxes (r := r) bs (p.1 + 1, b.sum) nn (fun c hc => h1 c (List.mem_cons_of_mem _ hc)) (fun c hc => h2 c (List.mem_cons_of_mem _ hc)) (fun c hc => h3 c (List.mem_cons_of_mem _ hc))
    rw [List.flatten_cons, runF_app, List.length_cons]
    unfold leP at m
    simp only at ih m
    omega
/-! ### items of a state -/
def exp : List Int → List Nat → List Int
  | z :: zs, k :: s => List.replicate k z ++ exp zs s
  | _, _ => []
theorem exp_dec : ∀ {zs : List Int} {s : List Nat} {i : Nat}, s.length = zs.length → 0 < s.getD i 0 → ∃ z, zs[i]? = some z ∧ (exp zs s).Perm (z :: exp zs (dec s i))
  | _, [], i, _, h => by simp at h
  | [], _ :: _, _, h, _ => by simp at h
  | z :: zs, k :: s, 0, _, h => by
    have h : 0 < k := by simpa using h
    refine ⟨z, rfl, ?_⟩
    have e : dec (k :: s) 0 = (k - 1) :: s := by simp [dec]
    rw [e]
    unfold exp
    obtain ⟨m, rfl⟩ : ∃ m, k = m + 1 := ⟨k - 1, by omega⟩
    rw [List.replicate_succ]
    exact List.Perm.refl _
  | z :: zs, k :: s, i + 1, hl, h => by
    obtain ⟨y, hy, p⟩ := exp_dec (zs := zs) (s := s) (i := i) (by simpa using hl) (by simpa using h)
    refine ⟨y, by simpa using hy, ?_⟩
    have e : dec (k :: s) (i + 1) = k :: dec s i := by simp [dec]
    rw [e]
    unfold exp
    exact (p.append_left _).trans List.perm_middle
theorem exp_mem : ∀ {zs : List Int} {s : List Nat} {z : Int}, z ∈ exp zs s → ∃ i, 0 < s.getD i 0 ∧ zs[i]? = some z
  | [], [], _, h => by simp [exp] at h
  | _ :: _, [], _, h => by simp [exp] at h
  | [], _ :: _, _, h => by simp [exp] at h
  | y :: zs, k :: s, z, h => by
    unfold exp at h
    rcases List.mem_append.mp h with h | h
    · rw [List.mem_replicate] at h
      exact ⟨0, by simpa using Nat.pos_of_ne_zero h.1, by simp [h.2]⟩
    · obtain ⟨i, h1, h2⟩ := exp_mem h
      exact ⟨i + 1, by simpa using h1, by simpa using h2⟩
theorem exp_len : ∀ {zs : List Int} {s : List Nat}, s.length = zs.length → (exp zs s).length = s.sum
  | [], [], _ => rfl
  | [], _ :: _, h => by simp at h
  | _ :: _, [], h => by simp at h
  | z :: zs, k :: s, h => by
    unfold exp
    rw [List.length_append, List.length_replicate, exp_len (zs := zs) (s := s) (by simpa using h), List.sum_cons]
/-! ### the best of the entries -/
theorem best_spec {r : Int} {l : List Nat → Int × Int} {s : List Nat} : ∀ (zs : List Int) (k : Nat) (b : Bst),
    (∀ j z, zs[j]? = some z → 0 < s.getD (k + j) 0 → ∃ b', bestFrom r l s k zs b = some b' ∧ leP (b'.1, b'.2.1) (put r (l (dec s (k + j))) z)) ∧
    (∀ b0, b = some b0 → ∃ b', bestFrom r l s k zs b = some b' ∧ leP (b'.1, b'.2.1) (b0.1, b0.2.1)) ∧
    (∀ b', bestFrom r l s k zs b = some b' → b = some b' ∨ ∃ j z, zs[j]? = some z ∧ 0 < s.getD (k + j) 0 ∧ b'.2.2 = k + j ∧ (b'.1, b'.2.1) = put r (l (dec s (k + j))) z)
  | [], k, b => ⟨fun j z h => by simp at h, fun b0 h => ⟨b0, h, leP_refl _⟩, fun b' h => .inl h⟩
  | z :: zs, k, b => by
    obtain ⟨h1, h2, h3⟩ := best_spec (r := r) (l := l) (s := s) zs (k + 1) (stepB r l s b k z)
    have key : (0 < s.getD k 0 → ∃ b1, stepB r l s b k z = some b1 ∧ leP (b1.1, b1.2.1) (put r (l (dec s k)) z)) ∧ (∀ b0, b = some b0 → ∃ b1, stepB r l s b k z = some b1 ∧ leP (b1.1, b1.2.1) (b0.1, b0.2.1)) ∧
        (∀ b1, stepB r l s b k z = some b1 → b = some b1 ∨ (0 < s.getD k 0 ∧ b1.2.2 = k ∧ (b1.1, b1.2.1) = put r (l (dec s k)) z)) := by
      unfold stepB
      by_cases hs : 0 < s.getD k 0
      · simp only [if_pos hs]
        cases b with
        | none => exact ⟨fun _ => ⟨_, rfl, leP_refl _⟩, fun _ h => (by cases h), fun b1 h => (by cases h; exact .inr ⟨hs, rfl, rfl⟩)⟩
        | some b0 =>
          dsimp only
          by_cases hb : ltP (put r (l (dec s k)) z) (b0.1, b0.2.1) = true
          · rw [if_pos hb]
            refine ⟨fun _ => ⟨_, rfl, leP_refl _⟩, fun b2 h => ?_, fun b1 h => (by cases h; exact .inr ⟨hs, rfl, rfl⟩)⟩
            cases h
            refine ⟨_, rfl, ?_⟩
            unfold ltP at hb
            unfold leP
            have := of_decide_eq_true hb
            simp only at this ⊢
            omega
          · rw [if_neg hb]
            refine ⟨fun _ => ⟨_, rfl, ?_⟩, fun b2 h => (by cases h; exact ⟨_, rfl, leP_refl _⟩), fun b1 h => .inl h⟩
            unfold ltP at hb
            unfold leP
            have := of_decide_eq_false (Bool.eq_false_iff.mpr hb)
            simp only at this ⊢
            omega
      · simp only [if_neg hs]
        exact ⟨fun h => absurd h hs, fun b0 h => ⟨b0, h, leP_refl _⟩, fun b1 h => .inl h⟩
    refine ⟨fun j y hj hsj => ?_, fun b0 h => ?_, fun b' h => ?_⟩
    · cases j with
      | zero =>
        obtain ⟨b1, e1, l1⟩ := key.1 hsj
        obtain ⟨b', e', l'⟩ := h2 b1 e1
        cases (show some z = some y from hj)
        exact ⟨b', e', leP_trans l' l1⟩
      | succ j =>
        obtain ⟨b', e', l'⟩ := h1 j y (by simpa using hj) (by rw [show k + 1 + j = k + (j + 1) by omega]; exact hsj)
        rw [show k + 1 + j = k + (j + 1) by omega] at l'
        exact ⟨b', e', l'⟩
    · obtain ⟨b1, e1, l1⟩ := key.2.1 b0 h
      obtain ⟨b', e', l'⟩ := h2 b1 e1
      exact ⟨b', e', leP_trans l' l1⟩
    · rcases h3 b' h with h | ⟨j, y, hj, hs, he, hp⟩
      · rcases key.2.2 b' h with h | ⟨hs, he, hp⟩
        · exact .inl h
        · exact .inr ⟨0, z, rfl, hs, he, hp⟩
      · exact .inr ⟨j + 1, y, by simpa using hj, by rw [show k + (j + 1) = k + 1 + j by omega]; exact hs, by rw [he]; omega, by rw [show k + (j + 1) = k + 1 + j by omega]; exact hp⟩
end K
end
section
set_option Elab.async false
set_option linter.all false
set_option maxRecDepth 100000
set_option maxHeartbeats 4000000
namespace K
theorem fin_look {r : Int} {b : Int × Int × Nat} : ((fin r (some b)).1, (fin r (some b)).2.1) = (b.1, b.2.1) := rfl
theorem exp_pos {zs : List Int} {s : List Nat} (hz : ∀ z ∈ zs, 0 ≤ z) : ∀ z ∈ exp zs s, 0 ≤ z := fun z h => by
  obtain ⟨i, _, hi⟩ := exp_mem h
  exact hz z (List.mem_of_getElem? hi)
/-- the entry is not above what any order gives -/
theorem V_le {r : Int} {zs : List Int} (hr : 0 ≤ r) (hz : ∀ z ∈ zs, 0 ≤ z) : ∀ (n : Nat) (s : List Nat) (l : List Int), s.sum = n → s.length = zs.length → l.Perm (exp zs s) → leP (look r zs s) (runF r (0, r) l)
  | 0, s, l, hn, hl, p => by
    have h0 : l = [] := by
      have := p.length_eq
      rw [exp_len hl, hn] at this
      exact List.length_eq_zero_iff.mp this
    subst h0
    unfold look V
    rw [hn]
    exact leP_refl _
  | n + 1, s, l, hn, hl, p => by
    have hne : l ≠ [] := by
      intro h
      subst h
      have := p.length_eq
      rw [exp_len hl, hn] at this
      simp at this
    obtain ⟨l', z, rfl⟩ : ∃ l' z, l = l' ++ [z] := ⟨l.dropLast, l.getLast hne, (List.dropLast_concat_getLast hne).symm⟩
    have hzm : z ∈ exp zs s := p.mem_iff.mp (by simp)
    obtain ⟨i, hi, hzi⟩ := exp_mem hzm
    obtain ⟨z', hz', q⟩ := exp_dec hl hi
    rw [hzi] at hz'
    cases hz'
    have p' : l'.Perm (exp zs (dec s i)) := by
      have h1 : (z :: l').Perm (z :: exp zs (dec s i)) := ((List.perm_append_singleton z l').symm.trans p).trans q
      exact h1.cons_inv
    have ih := V_le hr hz n (dec s i) l' (by have := dec_sum hi; omega) ((dec_len hi).trans hl) p'
    have hz0 : 0 ≤ z := hz z (List.mem_of_getElem? hzi)
    have nn : ∀ y ∈ l', 0 ≤ y := fun y hy => exp_pos hz y (p'.mem_iff.mp hy)
    have m := put_mono (r := r) ih (runF_nn l' _ hr nn) hz0
    obtain ⟨b', e', le'⟩ := (best_spec (r := r) (l := look r zs) (s := s) zs 0 none).1 i z hzi (by rw [Nat.zero_add]; exact hi)
    rw [Nat.zero_add] at le'
    have ev : look r zs s = (b'.1, b'.2.1) := by
      show ((V r zs s).1, (V r zs s).2.1) = _
      rw [V_eq, e']
      rfl
    rw [ev, runF_app]
    exact leP_trans le' m
/-- the entry is that of a packing; the first box is the last one of the entry -/
theorem V_pack {r : Int} {zs : List Int} (hz : ∀ z ∈ zs, 1 ≤ z ∧ z ≤ r) : ∀ (n : Nat) (s : List Nat), s.sum = n → s.length = zs.length →
    ∃ bs, Pack r bs (exp zs s) ∧ (bs.length : Int) = (look r zs s).1 ∧ match bs with | [] => (look r zs s).2 = r | b :: _ => (look r zs s).2 = b.sum
  | 0, s, hn, hl => by
    have h0 : exp zs s = [] := by
      have := exp_len hl
      rw [hn] at this
      exact List.length_eq_zero_iff.mp this
    refine ⟨[], ⟨by rw [h0]; exact List.Perm.refl _, fun _ h => (by cases h), fun _ h => (by cases h)⟩, ?_, ?_⟩
    · unfold look V; rw [hn]; rfl
    · unfold look V; rw [hn]; rfl
  | n + 1, s, hn, hl => by
    have hex : ∃ z, z ∈ exp zs s := by
      have := exp_len hl
      rw [hn] at this
      cases h : exp zs s with
      | nil => rw [h] at this; simp at this
      | cons z l => exact ⟨z, List.mem_cons_self⟩
    obtain ⟨z0, hz0⟩ := hex
    obtain ⟨i0, hi0, hzi0⟩ := exp_mem hz0
    obtain ⟨b', e', _⟩ := (best_spec (r := r) (l := look r zs) (s := s) zs 0 none).1 i0 z0 hzi0 (by rw [Nat.zero_add]; exact hi0)
    have ev : look r zs s = (b'.1, b'.2.1) := by
      show ((V r zs s).1, (V r zs s).2.1) = _
      rw [V_eq, e']
      rfl
    rcases (best_spec (r := r) (l := look r zs) (s := s) zs 0 none).2.2 b' e' with h | ⟨i, z, hzi, hi, _, hp⟩
    · cases h
    rw [Nat.zero_add] at hi hp
    obtain ⟨z', hz', q⟩ := exp_dec hl hi
    rw [hzi] at hz'
    cases hz'
    have hzz := hz z (List.mem_of_getElem? hzi)
    obtain ⟨bs, P, h1, h2⟩ := V_pack hz n (dec s i) (by have := dec_sum hi; omega) ((dec_len hi).trans hl)
    rw [ev, hp]
    unfold put
    by_cases hf : (look r zs (dec s i)).2 + z ≤ r
    · rw [if_pos hf]
      cases bs with
      | nil =>
        exfalso
        have h2 : (look r zs (dec s i)).2 = r := h2
        omega
      | cons b bs =>
        have h2 : (look r zs (dec s i)).2 = b.sum := h2
        refine ⟨(z :: b) :: bs, ⟨?_, fun c hc => ?_, fun c hc => ?_⟩, h1, ?_⟩
        · have e : ((z :: b) :: bs).flatten = z :: (b :: bs).flatten := rfl
          rw [e]
          exact (P.all.cons z).trans q.symm
        · rcases List.mem_cons.mp hc with e | hc
          · rw [e]; simp
          · exact P.ne c (List.mem_cons_of_mem _ hc)
        · rcases List.mem_cons.mp hc with e | hc
          · rw [e, List.sum_cons]; omega
          · exact P.fit c (List.mem_cons_of_mem _ hc)
        · show (look r zs (dec s i)).2 + z = (z :: b).sum
          rw [List.sum_cons]; omega
    · rw [if_neg hf]
      refine ⟨[z] :: bs, ⟨?_, fun c hc => ?_, fun c hc => ?_⟩, ?_, ?_⟩
      · have e : ([z] :: bs).flatten = z :: bs.flatten := rfl
        rw [e]
        exact (P.all.cons z).trans q.symm
      · rcases List.mem_cons.mp hc with e | hc
        · rw [e]; simp
        · exact P.ne c hc
      · rcases List.mem_cons.mp hc with e | hc
        · rw [e]; simpa using hzz.2
        · exact P.fit c hc
      · rw [List.length_cons]
        show ((bs.length + 1 : Nat) : Int) = (look r zs (dec s i)).1 + 1
        omega
      · show z = [z].sum
        simp
/-- the least number of boxes -/
structure Least (r : Int) (xs : List Int) (m : Int) : Prop where
  le : ∀ bs, Pack r bs xs → m ≤ bs.length
  ex : ∃ bs, Pack r bs xs ∧ (bs.length : Int) = m
theorem V_least {r : Int} {zs : List Int} {s : List Nat} {xs : List Int} (hr : 0 ≤ r) (hz : ∀ z ∈ zs, 1 ≤ z ∧ z ≤ r) (hl : s.length = zs.length) (hx : xs.Perm (exp zs s)) : Least r xs (V r zs s).1 := by
  have hz0 : ∀ z ∈ zs, 0 ≤ z := fun z h => by have := hz z h; omega
  refine ⟨fun bs P => ?_, ?_⟩
  · have h := V_le hr hz0 s.sum s bs.flatten rfl hl (P.all.trans hx)
    have g := run_boxes (r := r) bs (0, r) hr P.ne P.fit fun b hb z hzb => exp_pos hz0 z ((P.all.trans hx).mem_iff.mp (List.mem_flatten.mpr ⟨b, hb, hzb⟩))
    unfold leP at h
    have e : (look r zs s).1 = (V r zs s).1 := rfl
    rw [e] at h
    simp only at g
    omega
  · obtain ⟨bs, P, h, _⟩ := V_pack hz s.sum s rfl hl
    exact ⟨bs, ⟨P.all.trans hx.symm, P.ne, P.fit⟩, h⟩
theorem Least.eq {r : Int} {xs : List Int} {m n : Int} (a : Least r xs m) (b : Least r xs n) : m = n := by
  obtain ⟨bs, P, h⟩ := a.ex
  obtain ⟨cs, Q, g⟩ := b.ex
  have := a.le cs Q
  have := b.le bs P
  omega
end K
end
section
set_option Elab.async false
set_option linter.all false
set_option maxRecDepth 100000
set_option maxHeartbeats 4000000
/-! the ways to put items into boxes one by one, and the packings -/
namespace K
open DL
theorem sort_perm (l : List Int) : (sortInts l).Perm l := List.mergeSort_perm l _
theorem sort_sorted (l : List Int) : (sortInts l).Pairwise (fun a b => a ≤ b) := by
  have h := List.pairwise_mergeSort (le := fun a b : Int => decide (a ≤ b)) (fun a b c h1 h2 => by simp at *; omega) (fun a b => by simp; omega) l
  exact h.imp fun h => of_decide_eq_true h
theorem sort_eq {l m : List Int} (h : l.Perm m) : sortInts l = sortInts m := by
  refine List.Perm.eq_of_pairwise (le := fun a b : Int => a ≤ b) (fun a b _ _ h1 h2 => Int.le_antisymm h1 h2) (sort_sorted l) (sort_sorted m) ?_
  exact (sort_perm l).trans (h.trans (sort_perm m).symm)
/-- sorted fills of a packing -/
def Way (r : Int) (xs : List Int) (F : List Int) : Prop := ∃ bs, Pack r bs xs ∧ F = sortInts (bs.map List.sum)
theorem Pack.perm {r : Int} {bs cs : List (List Int)} {xs : List Int} (h : Pack r bs xs) (p : cs.Perm bs) : Pack r cs xs :=
  ⟨(p.flatten).trans h.all, fun b hb => h.ne b (p.mem_iff.mp hb), fun b hb => h.fit b (p.mem_iff.mp hb)⟩
theorem way_new {r x : Int} {xs F : List Int} (h : Way r xs F) (hx : x ≤ r) : Way r (xs ++ [x]) (sortInts (F ++ [x])) := by
  obtain ⟨bs, P, rfl⟩ := h
  refine ⟨bs ++ [[x]], ⟨?_, fun b hb => ?_, fun b hb => ?_⟩, sort_eq ?_⟩
  · rw [List.flatten_append]
    exact P.all.append (List.Perm.refl _)
  · rcases List.mem_append.mp hb with hb | hb
    · exact P.ne b hb
    · rw [List.mem_singleton.mp hb]; simp
  · rcases List.mem_append.mp hb with hb | hb
    · exact P.fit b hb
    · rw [List.mem_singleton.mp hb]; simpa using hx
  · rw [List.map_append]
    refine ((sort_perm _).append_right _).trans ?_
    simp
theorem take_drop_perm {F : List Int} {k : Nat} (hk : k < F.length) : F.Perm (F[k] :: (F.take k ++ F.drop (k + 1))) := by
  have e : F = F.take k ++ F[k] :: F.drop (k + 1) := by simp
  conv => lhs; rw [e]
  exact List.perm_middle
theorem way_put {r x : Int} {xs F : List Int} {k : Nat} (h : Way r xs F) (hk : k < F.length) (hx : F[k] + x ≤ r) : Way r (xs ++ [x]) (sortInts (F.take k ++ F.drop (k + 1) ++ [F[k] + x])) := by
  obtain ⟨bs, P, hF⟩ := h
  have pF : F.Perm (bs.map List.sum) := by rw [hF]; exact sort_perm _
  obtain ⟨b, hb, eb⟩ := List.mem_map.mp (pF.mem_iff.mp (List.getElem_mem hk))
  have pb : bs.Perm (b :: bs.erase b) := List.perm_cons_erase hb
  have P2 := P.perm pb.symm
  have pr : (F.take k ++ F.drop (k + 1)).Perm ((bs.erase b).map List.sum) := by
    have h1 : (F[k] :: (F.take k ++ F.drop (k + 1))).Perm (F[k] :: (bs.erase b).map List.sum) := by
      refine (take_drop_perm hk).symm.trans (pF.trans ?_)
      have := pb.map List.sum
      rw [List.map_cons, eb] at this
      exact this
    exact h1.cons_inv
  refine ⟨(b ++ [x]) :: bs.erase b, ⟨?_, fun c hc => ?_, fun c hc => ?_⟩, sort_eq ?_⟩
  · rw [List.flatten_cons]
    have h1 : (b ++ [x] ++ (bs.erase b).flatten).Perm (x :: (b ++ (bs.erase b).flatten)) := by
      rw [List.append_assoc]
      exact List.perm_middle
    refine h1.trans (List.Perm.trans ?_ (List.perm_append_singleton x xs).symm)
    exact List.Perm.cons x P2.all
  · rcases List.mem_cons.mp hc with e | hc
    · rw [e]; simp
    · exact P2.ne c (List.mem_cons_of_mem _ hc)
  · rcases List.mem_cons.mp hc with e | hc
    · rw [e, List.sum_append, eb]; simpa using hx
    · exact P2.fit c (List.mem_cons_of_mem _ hc)
  · rw [List.map_cons, List.sum_append, eb]
    refine (pr.append_right _).trans ((List.perm_append_singleton _ _).trans ?_)
    simp
theorem perm_sum {a b : List Int} (h : a.Perm b) : a.sum = b.sum := by
  induction h with
  | nil => rfl
  | cons x _ ih => rw [List.sum_cons, List.sum_cons, ih]
  | swap x y l => simp only [List.sum_cons]; omega
  | trans _ _ i1 i2 => exact i1.trans i2
theorem sort_nil : sortInts [] = [] := List.Perm.eq_nil (sort_perm [])
theorem way_inv {r x : Int} {xs F' : List Int} (h : Way r (xs ++ [x]) F') (h0 : 0 ≤ x) : ∃ F, Way r xs F ∧ (F' = sortInts (F ++ [x]) ∨ ∃ (k : Nat) (hk : k < F.length), F[k] + x ≤ r ∧ F' = sortInts (F.take k ++ F.drop (k + 1) ++ [F[k] + x])) := by
  obtain ⟨bs, P, rfl⟩ := h
  obtain ⟨b, hb, hxb⟩ := List.mem_flatten.mp (P.all.mem_iff.mpr (by simp : x ∈ xs ++ [x]))
  have pb : bs.Perm (b :: bs.erase b) := List.perm_cons_erase hb
  have px : b.Perm (x :: b.erase x) := List.perm_cons_erase hxb
  have P2 := P.perm pb.symm
  have sb : b.sum = x + (b.erase x).sum := by
    have := perm_sum px
    rwa [List.sum_cons] at this
  have fl : (b.erase x ++ (bs.erase b).flatten).Perm xs := by
    have h1 : (x :: (b.erase x ++ (bs.erase b).flatten)).Perm (x :: xs) := by
      refine List.Perm.trans ?_ (P2.all.trans (List.perm_append_singleton x xs))
      rw [List.flatten_cons]
      exact (px.append_right _).symm
    exact h1.cons_inv
  have sums : (bs.map List.sum).Perm (b.sum :: (bs.erase b).map List.sum) := by
    have := pb.map List.sum
    rwa [List.map_cons] at this
  by_cases he : b.erase x = []
  · rw [he] at fl sb
    refine ⟨sortInts ((bs.erase b).map List.sum), ⟨bs.erase b, ⟨by simpa using fl, fun c hc => P2.ne c (List.mem_cons_of_mem _ hc), fun c hc => P2.fit c (List.mem_cons_of_mem _ hc)⟩, rfl⟩, .inl (sort_eq ?_)⟩
    refine sums.trans (List.Perm.trans ?_ (((sort_perm _).append_right _).trans (List.perm_append_singleton _ _)).symm)
    have : b.sum = x := by simpa using sb
    rw [this]
  · have PP : Pack r (b.erase x :: bs.erase b) xs := ⟨by rw [List.flatten_cons]; exact fl, fun c hc => by
      rcases List.mem_cons.mp hc with e | hc
      · rw [e]; exact he
      · exact P2.ne c (List.mem_cons_of_mem _ hc), fun c hc => by
      rcases List.mem_cons.mp hc with e | hc
      · rw [e]; have := P2.fit b List.mem_cons_self; omega
      · exact P2.fit c (List.mem_cons_of_mem _ hc)⟩
    have pF : (sortInts ((b.erase x :: bs.erase b).map List.sum)).Perm ((b.erase x).sum :: (bs.erase b).map List.sum) := sort_perm _
    obtain ⟨k, hk, ek⟩ := List.getElem_of_mem (pF.mem_iff.mpr List.mem_cons_self)
    refine ⟨_, ⟨_, PP, rfl⟩, .inr ⟨k, hk, by rw [ek]; have := P2.fit b List.mem_cons_self; omega, sort_eq ?_⟩⟩
    have pr := ((take_drop_perm hk).symm.trans pF)
    rw [ek] at pr
    have pr := pr.cons_inv
    rw [ek]
    refine sums.trans (List.Perm.trans ?_ ((pr.append_right _).trans (List.perm_append_singleton _ _)).symm)
    have : b.sum = (b.erase x).sum + x := by omega
    rw [this]
theorem way_nil {r : Int} {F : List Int} : Way r [] F ↔ F = [] := by
  constructor
  · rintro ⟨bs, P, rfl⟩
    have : bs = [] := by
      cases bs with
      | nil => rfl
      | cons b bs =>
        have h1 := P.ne b List.mem_cons_self
        have h2 := P.all.length_eq
        rw [List.flatten_cons, List.length_append] at h2
        have : b.length = 0 := by simp at h2; simp [h2.1]
        exact absurd (List.length_eq_zero_iff.mp this) h1
    rw [this]; exact sort_nil
  · rintro rfl
    exact ⟨[], ⟨List.Perm.refl _, (fun _ h => by cases h), (fun _ h => by cases h)⟩, sort_nil.symm⟩
end K
end
section
set_option Elab.async false
set_option linter.all false
set_option maxRecDepth 100000
set_option maxHeartbeats 4000000
/-! rows of drawn items: the counts, the least number of boxes -/
namespace K
open PySem DL
theorem sortedI_at {M : Mem} {m : Nat} {fs : List Int} (h : M[m]? = some (.lst (fs.map .int))) (hs : strsOf (fs.map D.int) = none) : bfun .sorted [.ref m] M = some (.ok (.ref M.length), M ++ [.lst ((sortInts fs).map .int)]) := by
  have e : tlOf M (.ref m) = some (fs.map .int) := by
    unfold tlOf
    dsimp only
    rw [h]
  unfold bfun sortedB
  dsimp only
  rw [e]
  dsimp only
  rw [hs]
  dsimp only
  rw [mapO_int]
  rfl
theorem flat_len : ∀ (bs : List (List Int)), (∀ b ∈ bs, b ≠ []) → bs.length ≤ bs.flatten.length
  | [], _ => by simp
  | b :: bs, h => by
    have h1 := flat_len bs fun c hc => h c (List.mem_cons_of_mem _ hc)
    have h2 : 0 < b.length := List.length_pos_iff.mpr (h b List.mem_cons_self)
    rw [List.flatten_cons, List.length_append, List.length_cons]
    omega
theorem min_fold : ∀ (ns : List Int) (n : Int), (ns.foldl (fun a b => if b < a then b else a) n = n ∨ ns.foldl (fun a b => if b < a then b else a) n ∈ ns) ∧ ns.foldl (fun a b => if b < a then b else a) n ≤ n ∧ ∀ y ∈ ns, ns.foldl (fun a b => if b < a then b else a) n ≤ y
  | [], n => ⟨.inl rfl, Int.le_refl _, fun _ h => by cases h⟩
  | b :: ns, n => by
    obtain ⟨h1, h2, h3⟩ := min_fold ns (if b < n then b else n)
    rw [List.foldl_cons]
    generalize ns.foldl (fun a b => if b < a then b else a) (if b < n then b else n) = v at h1 h2 h3
    by_cases hb : b < n
    · rw [if_pos hb] at h1 h2
      refine ⟨.inr ?_, by omega, fun y hy => ?_⟩
      · rcases h1 with h1 | h1
        · rw [h1]; exact List.mem_cons_self
        · exact List.mem_cons_of_mem _ h1
      · rcases List.mem_cons.mp hy with e | hy
        · rw [e]; exact h2
        · exact h3 y hy
    · rw [if_neg hb] at h1 h2
      refine ⟨?_, h2, fun y hy => ?_⟩
      · rcases h1 with h1 | h1
        · exact .inl h1
        · exact .inr (List.mem_cons_of_mem _ h1)
      · rcases List.mem_cons.mp hy with e | hy
        · rw [e]; omega
        · exact h3 y hy
theorem minOf_ex {ns : List Int} (h : ns ≠ []) : ∃ v, minOf ns = some v ∧ v ∈ ns ∧ ∀ y ∈ ns, v ≤ y := by
  cases ns with
  | nil => exact absurd rfl h
  | cons n ns =>
    obtain ⟨h1, h2, h3⟩ := min_fold ns n
    refine ⟨_, rfl, ?_, fun y hy => ?_⟩
    · rcases h1 with h1 | h1
      · rw [h1]; exact List.mem_cons_self
      · exact List.mem_cons_of_mem _ h1
    · rcases List.mem_cons.mp hy with e | hy
      · rw [e]; exact h2
      · exact h3 y hy
theorem rise_nodup {ps : List (Str × Int)} (h : Rising (ps.map (·.1))) : (ps.map (·.1)).Nodup := by
  refine List.Pairwise.imp ?_ h
  intro a b hab e
  rw [e] at hab
  exact absurd hab (List.lt_irrefl _)
theorem cnts_nil : ∀ ps : List (Str × Int), exp (ps.map (·.2)) (cnts ps []) = []
  | [] => rfl
  | p :: ps => by
    have e : exp ((p :: ps).map (·.2)) (cnts (p :: ps) []) = List.replicate 0 p.2 ++ exp (ps.map (·.2)) (cnts ps []) := rfl
    rw [e, cnts_nil ps]
    rfl
theorem exp_cnts {ps : List (Str × Int)} (hn : (ps.map (·.1)).Nodup) : ∀ (its : List (Str × Int)), (∀ q ∈ its, q ∈ ps) → (its.map (·.2)).Perm (exp (ps.map (·.2)) (cnts ps (its.map (·.1))))
  | [], _ => by rw [List.map_nil, List.map_nil, cnts_nil]
  | q :: its, h => by
    have ih := exp_cnts hn its fun x hx => h x (List.mem_cons_of_mem _ hx)
    obtain ⟨A, B, e⟩ := List.append_of_mem (h q List.mem_cons_self)
    have hl : (cnts ps (q.1 :: its.map (·.1))).length = (ps.map (·.2)).length := by unfold cnts; rw [List.length_map, List.length_map]
    have hA : ∀ a ∈ A, a.1 ≠ q.1 := by
      intro a ha z
      rw [e, List.map_append, List.map_cons] at hn
      have := (List.nodup_append.mp hn).2.2 a.1 (List.mem_map_of_mem ha) q.1 List.mem_cons_self
      exact this z
    have hB : ∀ b ∈ B, b.1 ≠ q.1 := by
      intro b hb z
      rw [e, List.map_append, List.map_cons] at hn
      have := (List.nodup_cons.mp (List.nodup_append.mp hn).2.1).1
      rw [← z] at this
      exact this (List.mem_map_of_mem hb)
    have sp : ∀ row : List Str, cnts ps row = A.map (fun p => row.count p.1) ++ row.count q.1 :: B.map (fun p => row.count p.1) := by
      intro row
      unfold cnts
      rw [e, List.map_append, List.map_cons]
    have cA : A.map (fun p => (q.1 :: its.map (·.1)).count p.1) = A.map fun p => (its.map (·.1)).count p.1 := List.map_congr_left fun a ha => by
      rw [List.count_cons_of_ne (fun z => hA a ha z.symm)]
    have cB : B.map (fun p => (q.1 :: its.map (·.1)).count p.1) = B.map fun p => (its.map (·.1)).count p.1 := List.map_congr_left fun a ha => by
      rw [List.count_cons_of_ne (fun z => hB a ha z.symm)]
    have gd : (cnts ps (q.1 :: its.map (·.1))).getD A.length 0 = (its.map (·.1)).count q.1 + 1 := by
      rw [sp, List.getD_eq_getElem?_getD, List.getElem?_append_right (by rw [List.length_map]; omega), List.length_map, Nat.sub_self, List.count_cons_self]
      rfl
    have dc : dec (cnts ps (q.1 :: its.map (·.1))) A.length = cnts ps (its.map (·.1)) := by
      unfold dec
      rw [gd, sp, sp, cA, cB]
      rw [List.take_left' (by rw [List.length_map])]
      rw [show A.length + 1 = (A.map fun p => (its.map (·.1)).count p.1).length + 1 by rw [List.length_map]]
      rw [← List.drop_drop, List.drop_left]
      rfl
    obtain ⟨z, hz, P⟩ := exp_dec (zs := ps.map (·.2)) (i := A.length) hl (by rw [gd]; omega)
    rw [dc] at P
    have hzq : z = q.2 := by
      rw [e, List.map_append, List.getElem?_append_right (by rw [List.length_map]; omega), List.length_map, Nat.sub_self] at hz
      exact (Option.some.inj hz).symm
    rw [hzq] at P
    rw [List.map_cons, List.map_cons]
    exact (ih.cons q.2).trans P.symm
theorem cnts_perm {ps : List (Str × Int)} {a b : List Str} (h : a.Perm b) : cnts ps a = cnts ps b := by
  unfold cnts
  exact List.map_congr_left fun p _ => h.count_eq p.1
theorem maxOf_ex {ns : List Int} (h : ns ≠ []) : ∃ v, maxOf ns = some v ∧ v ∈ ns ∧ ∀ y ∈ ns, y ≤ v := by
  have fold : ∀ (ns : List Int) (n : Int), (ns.foldl (fun a b => if b > a then b else a) n = n ∨ ns.foldl (fun a b => if b > a then b else a) n ∈ ns) ∧ n ≤ ns.foldl (fun a b => if b > a then b else a) n ∧ ∀ y ∈ ns, y ≤ ns.foldl (fun a b => if b > a then b else a) n := by
    intro ns
    induction ns with
    | nil => exact fun n => ⟨.inl rfl, Int.le_refl _, fun _ h => by cases h⟩
    | cons b ns ih =>
      intro n
      obtain ⟨h1, h2, h3⟩ := ih (if b > n then b else n)
      rw [List.foldl_cons]
      generalize ns.foldl (fun a b => if b > a then b else a) (if b > n then b else n) = v at h1 h2 h3
      by_cases hb : b > n
      · rw [if_pos hb] at h1 h2
        refine ⟨.inr ?_, by omega, fun y hy => ?_⟩
        · rcases h1 with h1 | h1
          · rw [h1]; exact List.mem_cons_self
          · exact List.mem_cons_of_mem _ h1
        · rcases List.mem_cons.mp hy with e | hy
          · rw [e]; exact h2
          · exact h3 y hy
      · rw [if_neg hb] at h1 h2
        refine ⟨?_, h2, fun y hy => ?_⟩
        · rcases h1 with h1 | h1
          · exact .inl h1
          · exact .inr (List.mem_cons_of_mem _ h1)
        · rcases List.mem_cons.mp hy with e | hy
          · rw [e]; omega
          · exact h3 y hy
  cases ns with
  | nil => exact absurd rfl h
  | cons n ns =>
    obtain ⟨h1, h2, h3⟩ := fold ns n
    refine ⟨_, rfl, ?_, fun y hy => ?_⟩
    · rcases h1 with h1 | h1
      · rw [h1]; exact List.mem_cons_self
      · exact List.mem_cons_of_mem _ h1
    · rcases List.mem_cons.mp hy with e | hy
      · rw [e]; exact h2
      · exact h3 y hy
theorem kinds_max {wide : Int} {ps : List (Str × Int)} (K : Kinds wide ps) : ∃ low, maxOf (ps.map (·.2)) = some low ∧ (1 ≤ low ∧ low ≤ wide) ∧ ∀ p ∈ ps, p.2 ≤ low := by
  obtain ⟨v, h1, h2, h3⟩ := maxOf_ex (ns := ps.map (·.2)) (by
    intro e
    have h1 := congrArg List.length e
    rw [List.length_map, List.length_nil] at h1
    have h2 := K.len1
    omega)
  obtain ⟨p, hp, rfl⟩ := List.mem_map.mp h2
  exact ⟨_, h1, K.size p hp, fun q hq => h3 _ (List.mem_map_of_mem hq)⟩
/-- what least_boxes answers, for a row of these items in any order -/
theorem boxes_least {wide : Int} {ps : List (Str × Int)} (K : Kinds wide ps) {its : List (Str × Int)} (hi : ∀ q ∈ its, q ∈ ps) (hl : its.length ≤ 14) {far : Option Int} (hf : roomOk wide ps far) {m : Int} (hm : Least (far.getD wide) (its.map (·.2)) m) {row : List Str} (hr : row.Perm (its.map (·.1))) :
    f_least_boxes [Gv wide ps, rowD row, farD far] = ret (.int m) := by
  have l := hr.length_eq
  rw [List.length_map] at l
  rw [least_boxes_eq K (by omega) (fun x hx => by
    obtain ⟨q, hq, rfl⟩ := List.mem_map.mp (hr.mem_iff.mp hx)
    exact List.mem_map_of_mem (hi q hq)) hf]
  obtain ⟨low, h1, h2, h3⟩ := kinds_max K
  have hfar : low ≤ far.getD wide := by
    cases far with
    | none => exact h2.2
    | some r =>
      obtain ⟨m, hm, hle, _⟩ := hf r rfl
      rw [h1] at hm
      cases hm
      exact hle
  have := V_least (r := far.getD wide) (zs := ps.map (·.2)) (s := cnts ps row) (xs := its.map (·.2)) (by omega) (fun z hz => by
    obtain ⟨p, hp, rfl⟩ := List.mem_map.mp hz
    exact ⟨(K.size p hp).1, Int.le_trans (h3 p hp) hfar⟩) (by unfold cnts; rw [List.length_map, List.length_map]) (by
    rw [cnts_perm hr]
    exact exp_cnts (rise_nodup K.rise) its hi)
  rw [hm.eq this]
theorem Least.bounds {r : Int} {xs : List Int} {m : Int} (h : Least r xs m) : 0 ≤ m ∧ m ≤ xs.length := by
  obtain ⟨bs, P, rfl⟩ := h.ex
  have h1 := flat_len bs P.ne
  have h2 := P.all.length_eq
  omega
theorem Least.nil {r : Int} : Least r [] 0 := ⟨fun bs _ => by omega, [], ⟨List.Perm.refl _, (fun _ h => by cases h), (fun _ h => by cases h)⟩, rfl⟩
theorem Least.one {r x : Int} (h : x ≤ r) : Least r [x] 1 := by
  refine ⟨fun bs P => ?_, [[x]], ⟨List.Perm.refl _, (fun b hb => ?_), (fun b hb => ?_)⟩, rfl⟩
  · cases bs with
    | nil => have := P.all.length_eq; simp at this
    | cons b bs => simp only [List.length_cons]; omega
  · rw [List.mem_singleton.mp hb]; simp
  · rw [List.mem_singleton.mp hb]; simpa using h
end K
end
section
set_option Elab.async false
set_option linter.all false
set_option maxRecDepth 100000
set_option maxHeartbeats 4000000
/-! k19: the least number of boxes by sets that fit -/
namespace K
theorem leC_iff : ∀ {s t : List Nat}, leC s t ↔ s.length = t.length ∧ ∀ i, s.getD i 0 ≤ t.getD i 0
  | [], [] => by simp [leC]
  | [], b :: t => by simp [leC]
  | a :: s, [] => by simp [leC]
  | a :: s, b :: t => by
    have ih := leC_iff (s := s) (t := t)
    have e : leC (a :: s) (b :: t) ↔ a ≤ b ∧ leC s t := Iff.rfl
    rw [e, ih]
    constructor
    · rintro ⟨h1, h2, h3⟩
      refine ⟨by simp [h2], fun i => ?_⟩
      cases i with
      | zero => simpa using h1
      | succ i => simpa using h3 i
    · rintro ⟨h1, h2⟩
      refine ⟨by simpa using h2 0, by simpa using h1, fun i => by simpa using h2 (i + 1)⟩
/-- counts taken away -/
def subC : List Nat → List Nat → List Nat
  | a :: s, b :: p => (a - b) :: subC s p
  | _, _ => []
theorem subC_zip : ∀ (s p : List Nat), subC s p = List.zipWith (fun a b => a - b) s p
  | [], [] => rfl
  | [], _ :: _ => rfl
  | _ :: _, [] => rfl
  | a :: s, b :: p => by rw [subC, subC_zip s p]; rfl
theorem leC_trans : ∀ {s t u : List Nat}, leC s t → leC t u → leC s u
  | [], [], [], _, _ => trivial
  | [], [], _ :: _, _, h => h.elim
  | a :: s, b :: t, c :: u, h, g => ⟨Nat.le_trans h.1 g.1, leC_trans h.2 g.2⟩
  | [], _ :: _, _, h, _ => h.elim
  | _ :: _, [], _, h, _ => h.elim
  | _ :: _, _ :: _, [], _, g => g.elim
theorem subC_le : ∀ {s p : List Nat}, leC p s → leC (subC s p) s
  | [], [], _ => trivial
  | a :: s, b :: p, h => ⟨Nat.sub_le _ _, subC_le h.2⟩
  | [], _ :: _, h => h.elim
  | _ :: _, [], h => h.elim
theorem exp_sub : ∀ {zs : List Int} {s p : List Nat}, leC p s → (exp zs s).Perm (exp zs p ++ exp zs (subC s p))
  | [], s, p, h => by
    have : ∀ q : List Nat, exp [] q = [] := fun q => by cases q <;> rfl
    rw [this, this, this]
    exact List.Perm.refl _
  | z :: zs, [], [], _ => List.Perm.refl _
  | z :: zs, a :: s, b :: p, h => by
    have ih := exp_sub (zs := zs) h.2
    have e1 : exp (z :: zs) (a :: s) = List.replicate a z ++ exp zs s := rfl
    have e2 : exp (z :: zs) (b :: p) = List.replicate b z ++ exp zs p := rfl
    have e3 : exp (z :: zs) (subC (a :: s) (b :: p)) = List.replicate (a - b) z ++ exp zs (subC s p) := rfl
    rw [e1, e2, e3]
    have hr : List.replicate a z = List.replicate b z ++ List.replicate (a - b) z := by
      rw [List.replicate_append_replicate]
      congr 1
      have := h.1
      omega
    rw [hr]
    refine (List.Perm.append_left _ ih).trans ?_
    rw [List.append_assoc, List.append_assoc]
    refine List.Perm.append_left _ ?_
    rw [← List.append_assoc, ← List.append_assoc]
    exact List.Perm.append_right _ List.perm_append_comm
  | _ :: _, [], _ :: _, h => h.elim
  | _ :: _, _ :: _, [], h => h.elim
/-- a part of the items has counts -/
theorem part_counts {zs : List Int} : ∀ (b rest : List Int) (s : List Nat), s.length = zs.length → (b ++ rest).Perm (exp zs s) → ∃ p, leC p s ∧ b.Perm (exp zs p) ∧ rest.Perm (exp zs (subC s p))
  | [], rest, s, hl, h => by
    have z0 : ∀ (zs : List Int) (s : List Nat), s.length = zs.length → leC (s.map fun _ => 0) s ∧ exp zs (s.map fun _ => 0) = [] ∧ subC s (s.map fun _ => 0) = s := by
      intro zs
      induction zs with
      | nil => intro s h; have := List.length_eq_zero_iff.mp h; subst this; exact ⟨trivial, rfl, rfl⟩
      | cons z zs ih =>
        intro s h
        cases s with
        | nil => simp at h
        | cons a s =>
          obtain ⟨h1, h2, h3⟩ := ih s (by simpa using h)
          refine ⟨⟨Nat.zero_le _, h1⟩, ?_, ?_⟩
          · have e : exp (z :: zs) ((a :: s).map fun _ => 0) = List.replicate 0 z ++ exp zs (s.map fun _ => 0) := rfl
            rw [e, h2]; rfl
          · have e : subC (a :: s) ((a :: s).map fun _ => 0) = (a - 0) :: subC s (s.map fun _ => 0) := rfl
            rw [e, h3, Nat.sub_zero]
    obtain ⟨h1, h2, h3⟩ := z0 zs s hl
    exact ⟨_, h1, by rw [h2], by rw [h3]; exact h⟩
  | x :: b, rest, s, hl, h => by
    have hx : x ∈ exp zs s := h.mem_iff.mp (by simp)
    obtain ⟨i, hi, hzi⟩ := exp_mem hx
    obtain ⟨z, hz, P⟩ := exp_dec hl hi
    rw [hzi] at hz
    cases hz
    have h' : (b ++ rest).Perm (exp zs (dec s i)) := by
      have : (x :: (b ++ rest)).Perm (x :: exp zs (dec s i)) := h.trans P
      exact this.cons_inv
    have hil : i < s.length := by rw [hl]; exact (List.getElem?_eq_some_iff.mp hzi).1
    have ds : dec s i = s.set i (s.getD i 0 - 1) := by
      unfold dec
      rw [List.set_eq_take_append_cons_drop, if_pos hil]
    obtain ⟨p, p1, p2, p3⟩ := part_counts b rest (dec s i) (by rw [dec_len hi]; exact hl) h'
    have pl := leC_len p1
    rw [ds, List.length_set] at pl
    have up : ∀ (s p : List Nat) (i : Nat), i < s.length → 0 < s.getD i 0 → leC p (s.set i (s.getD i 0 - 1)) → leC (p.set i (p.getD i 0 + 1)) s ∧ subC (s.set i (s.getD i 0 - 1)) p = subC s (p.set i (p.getD i 0 + 1)) := by
      intro s
      induction s with
      | nil => intro p i h; simp at h
      | cons a s ih =>
        intro p i h h0 hp
        cases p with
        | nil => cases i <;> exact hp.elim
        | cons c p =>
          cases i with
          | zero =>
            have h0 : 0 < a := h0
            have hp : c ≤ a - 1 ∧ leC p s := hp
            refine ⟨⟨show c + 1 ≤ a by omega, hp.2⟩, ?_⟩
            show (a - 1 - c) :: subC s p = (a - (c + 1)) :: subC s p
            congr 1
            omega
          | succ i =>
            obtain ⟨g1, g2⟩ := ih p i (by simpa using h) (by simpa using h0) hp.2
            refine ⟨⟨hp.1, g1⟩, ?_⟩
            show (a - c) :: subC (s.set i (s.getD i 0 - 1)) p = (a - c) :: subC s (p.set i (p.getD i 0 + 1))
            rw [g2]
    obtain ⟨u1, u2⟩ := up s p i hil hi (by rw [← ds]; exact p1)
    refine ⟨p.set i (p.getD i 0 + 1), u1, ?_, by rw [← u2, ← ds]; exact p3⟩
    have hq : 0 < (p.set i (p.getD i 0 + 1)).getD i 0 := by
      rw [List.getD_eq_getElem?_getD, List.getElem?_set_self (by omega)]
      show 0 < p.getD i 0 + 1
      omega
    obtain ⟨z, hz, P2⟩ := exp_dec (zs := zs) (s := p.set i (p.getD i 0 + 1)) (i := i) (by rw [List.length_set]; omega) hq
    rw [hzi] at hz
    cases hz
    have hd : dec (p.set i (p.getD i 0 + 1)) i = p := by
      unfold dec
      have hl2 : i < (p.set i (p.getD i 0 + 1)).length := by rw [List.length_set]; omega
      rw [← if_pos (c := i < (p.set i (p.getD i 0 + 1)).length) (t := List.take i (p.set i (p.getD i 0 + 1)) ++ ((p.set i (p.getD i 0 + 1)).getD i 0 - 1) :: List.drop (i + 1) (p.set i (p.getD i 0 + 1))) (e := p.set i (p.getD i 0 + 1)) hl2, ← List.set_eq_take_append_cons_drop, List.set_set]
      have : (p.set i (p.getD i 0 + 1)).getD i 0 - 1 = p.getD i 0 := by
        rw [List.getD_eq_getElem?_getD, List.getElem?_set_self (by omega)]
        show p.getD i 0 + 1 - 1 = _
        omega
      rw [this]
      have hi2 : i < p.length := by omega
      rw [List.getD_eq_getElem?_getD, List.getElem?_eq_getElem hi2]
      exact List.set_getElem_self hi2
    rw [hd] at P2
    exact (p2.cons x).trans P2.symm
/-- how much counts weigh -/
def wt : List Int → List Nat → Int
  | z :: zs, k :: s => (k : Int) * z + wt zs s
  | _, _ => 0
theorem exp_sum : ∀ {zs : List Int} {s : List Nat}, (exp zs s).sum = wt zs s
  | [], s => by
    have : exp [] s = [] := by cases s <;> rfl
    rw [this]; cases s <;> rfl
  | z :: zs, [] => rfl
  | z :: zs, k :: s => by
    have e : exp (z :: zs) (k :: s) = List.replicate k z ++ exp zs s := rfl
    have rs : ∀ n : Nat, (List.replicate n z).sum = (n : Int) * z := by
      intro n
      induction n with
      | zero => simp
      | succ n ih => rw [List.replicate_succ, List.sum_cons, ih, Int.natCast_add, Int.add_mul]; simp [Int.add_comm]
    rw [e, List.sum_append, rs, exp_sum]
    rfl
/-- the sets that fit, and the least numbers -/
def fits (zs : List Int) (r : Int) (p : List Nat) : Prop := 0 < wt zs p ∧ wt zs p ≤ r
theorem least_step {zs : List Int} {r : Int} (hz : ∀ z ∈ zs, 1 ≤ z ∧ z ≤ r) {s : List Nat} (hl : s.length = zs.length) {b : List Nat → Int} (hb : ∀ p, leC p s → fits zs r p → Least r (exp zs (subC s p)) (b (subC s p))) {m : Int}
    (hm : (∀ p, leC p s → fits zs r p → m ≤ b (subC s p) + 1) ∧ ((∃ p, leC p s ∧ fits zs r p ∧ m = b (subC s p) + 1) ∨ (m = 0 ∧ s.sum = 0))) : Least r (exp zs s) m := by
  have pos : ∀ {q : List Nat} {x : Int}, x ∈ exp zs q → 1 ≤ x := fun {q x} h => by
    obtain ⟨i, _, hi⟩ := exp_mem h
    exact (hz x (List.mem_of_getElem? hi)).1
  have spos : ∀ (l : List Int), (∀ x ∈ l, 1 ≤ x) → l ≠ [] → 0 < l.sum := by
    intro l h hne
    cases l with
    | nil => exact absurd rfl hne
    | cons a l =>
      have h1 := h a List.mem_cons_self
      have h2 := sum_nn l fun z hzl => by have := h z (List.mem_cons_of_mem _ hzl); omega
      rw [List.sum_cons]
      omega
  constructor
  · intro bs P
    cases bs with
    | nil =>
      have h0 := P.all.length_eq
      rw [exp_len hl] at h0
      rcases hm.2 with ⟨p, h1, h2, _⟩ | ⟨h, _⟩
      · have := (exp_sub (zs := zs) h1).length_eq
        rw [exp_len hl, List.length_append] at this
        have hp : exp zs p = [] := List.length_eq_zero_iff.mp (by simp at h0; omega)
        have := exp_sum (zs := zs) (s := p)
        rw [hp] at this
        have h3 := h2.1
        rw [← this] at h3
        simp at h3
      · rw [h]; simp
    | cons c bs =>
      have hall : (c ++ bs.flatten).Perm (exp zs s) := P.all
      obtain ⟨p, p1, p2, p3⟩ := part_counts c bs.flatten s hl hall
      have hsum : c.sum = wt zs p := by rw [← exp_sum]; exact perm_sum p2
      have hf : fits zs r p := by
        refine ⟨?_, ?_⟩
        · rw [← hsum]
          exact spos c (fun x hx => pos (p2.mem_iff.mp hx)) (P.ne c List.mem_cons_self)
        · rw [← hsum]; exact P.fit c List.mem_cons_self
      have L := hb p p1 hf
      have h1 := L.le bs ⟨p3, fun d hd => P.ne d (List.mem_cons_of_mem _ hd), fun d hd => P.fit d (List.mem_cons_of_mem _ hd)⟩
      have h2 := hm.1 p p1 hf
      rw [List.length_cons]
      omega
  · rcases hm.2 with ⟨p, p1, p2, e⟩ | ⟨e, h0⟩
    · obtain ⟨bs, P, hbl⟩ := (hb p p1 p2).ex
      refine ⟨exp zs p :: bs, ⟨?_, fun d hd => ?_, fun d hd => ?_⟩, by rw [List.length_cons, e, ← hbl]; omega⟩
      · rw [List.flatten_cons]
        exact (List.Perm.append_left _ P.all).trans (exp_sub p1).symm
      · rcases List.mem_cons.mp hd with e2 | hd
        · rw [e2]
          intro z
          have := exp_sum (zs := zs) (s := p)
          rw [z] at this
          have h3 := p2.1
          rw [← this] at h3
          simp at h3
        · exact P.ne d hd
      · rcases List.mem_cons.mp hd with e2 | hd
        · rw [e2, exp_sum]; exact p2.2
        · exact P.fit d hd
    · have : exp zs s = [] := List.length_eq_zero_iff.mp (by rw [exp_len hl]; exact h0)
      rw [this, e]
      exact ⟨[], ⟨List.Perm.refl _, (fun _ h => by cases h), (fun _ h => by cases h)⟩, rfl⟩
end K
end
section
set_option Elab.async false
set_option linter.all false
set_option maxRecDepth 100000
set_option maxHeartbeats 4000000
/-! k19: the states -/
namespace K
open PySem DL
theorem cls_cs (L : List (List Nat)) : D.cls (L.map cD) = true := cls_map fun s _ => cls_c s
def extF (h : List Nat) (m : Nat) : List (List Nat) := (List.range (m + 1)).map fun k => h ++ [k]
theorem add_tupE (a b : List D) (h : a.length + b.length ≤ 16777216) : binD .add (.tup a) (.tup b) = DL.ret (.tup (a ++ b)) := by
  rw [add_tup, if_pos (by rw [sizeLine_eq]; exact h)]
theorem ext_frz {h : List Nat} {m : Nat} {L : List (List Nat)} (hl : h.length ≤ 100) (hm : m ≤ 1000) (hL : L.length + (m + 1) ≤ 16777216) {x0 x1 x5 : Option D} :
    frzR (evE t_w_states (.bin .add (.var 3) (.comp (.rng (.bin .add (.var 2) (.con (.int 1)))) (.nm 5) (.yes) e_w_states_1 [5])) [x0, x1, some (.int (m : Int)), some (.fl (L.map cD)), some (cD h), x5]) = DL.ret (.fl ((L ++ extF h m).map cD)) := by
  have hr : inR ((m : Int) + 1) = true := by unfold inR; simp; omega
  have c := evE_comp_map (T := t_w_states) (it := .rng (.bin .add (.var 2) (.con (.int 1)))) (g := .nm 5) (tt := .yes) (e := e_w_states_1) (own := [5]) (env := [x0, x1, some (.int (m : Int)), some (.fl (L.map cD)), some (cD h), x5]) (xs := List.range (m + 1)) (fun (k : Nat) => D.int (k : Int)) (fun k => cD (h ++ [k])) (by
    have : rangeD 0 ((m : Int) + 1).toNat = (List.range (m + 1)).map fun (k : Nat) => D.int (k : Int) := by
      rw [rangeD_map, show ((m : Int) + 1).toNat = m + 1 by omega]
      exact List.map_congr_left fun k _ => by rw [Int.zero_add]
    simp only [evI_rng, evE_bin, evE_var, evE_con, getVar_0, getVar_s, bnd_ret, add_int, rngD_int hr, this]) (by simp; omega) (by
    intro k hk
    have e : cD (h ++ [k]) = .tup (h.map (fun (i : Nat) => D.int i) ++ [.int (k : Int)]) := by unfold cD; rw [List.map_append]; rfl
    rw [e]
    have a := add_tupE (h.map (fun (i : Nat) => D.int i)) [.int (k : Int)] (by simp; omega)
    have t1 : tupD [.int (k : Int)] = DL.ret (.tup [.int (k : Int)]) := rfl
    simp only [turnL, wipeE, List.set, evG_nm, bnd_ret, evT_yes, if_true, e_w_states_1, evE_bin, evE_var, getVar_0, getVar_s, evE_tup, evEs_cons, evEs_nil, t1, bnd_assocS]
    rw [a, bnd_ret])
  have e2 : (List.range (m + 1)).map (fun k => cD (h ++ [k])) = (extF h m).map cD := by unfold extF; rw [List.map_map]; rfl
  rw [e2] at c
  rw [evE_bin, evE_var, getVar_s, getVar_s, getVar_s, getVar_0, bnd_ret, c]
  refine frz_pure fun M => ?_
  have g : (M ++ [O.lst ((extF h m).map cD)])[M.length]? = some (.lst ((extF h m).map cD)) := get_new
  refine ⟨.ref (M ++ [O.lst ((extF h m).map cD)]).length, M ++ [O.lst ((extF h m).map cD)] ++ [.lst ((L ++ extF h m).map cD)], ?_, by rw [List.append_assoc]; exact Ext.add _ _, frD_lst (by rw [List.length_append]; omega) get_new (cls_cs _)⟩
  show binD .add (.fl (L.map cD)) (.ref M.length) (M ++ [O.lst ((extF h m).map cD)]) = _
  show (match lstOf (M ++ [O.lst ((extF h m).map cD)]) (.fl (L.map cD)), lstOf (M ++ [O.lst ((extF h m).map cD)]) (.ref M.length) with | some xs, some ys => if xs.length + ys.length ≤ sizeLine then new (.lst (xs ++ ys)) (M ++ [O.lst ((extF h m).map cD)]) else none | _, _ => none) = _
  rw [lstOf_ref g]
  show (if (L.map cD).length + ((extF h m).map cD).length ≤ sizeLine then new (.lst (L.map cD ++ (extF h m).map cD)) (M ++ [O.lst ((extF h m).map cD)]) else none) = _
  rw [if_pos (by rw [sizeLine_eq, List.length_map, List.length_map]; unfold extF; rw [List.length_map, List.length_range]; exact hL), ← List.map_append]
  rfl
theorem states_turn {m : Nat} {F : List (List Nat)} (hF : ∀ h ∈ F, h.length ≤ 100) (hm : m ≤ 1000) (hz : F.length * (m + 1) ≤ 16777216) {x0 x3 x4 x5 v2 : Option D} :
    ∃ x4' , bodyF t_w_states (.nm 2) l_w_states_3 (.int (m : Int)) [x0, some (.fl (F.map cD)), v2, x3, x4, x5] = DL.ret (.nx [x0, some (.fl ((uptoF F m).map cD)), some (.int (m : Int)), some (.fl ((uptoF F m).map cD)), x4', x5]) := by
  obtain ⟨env', e, x4', rfl⟩ := forE0 (turn := bodyF t_w_states (.nm 4) l_w_states_2) (ds := F.map cD) (env := [x0, some (.fl (F.map cD)), some (.int (m : Int)), some (.fl []), x4, x5])
    (fun i env => ∃ x4, env = [x0, some (.fl (F.map cD)), some (.int (m : Int)), some (.fl ((uptoF (F.take i) m).map cD)), x4, x5]) ⟨x4, rfl⟩ (by
      rintro i d env hi ⟨x4, rfl⟩
      rw [List.getElem?_map] at hi
      cases hh : F[i]? with
      | none => rw [hh] at hi; cases hi
      | some h =>
        rw [hh] at hi
        cases hi
        have hil := (List.getElem?_eq_some_iff.mp hh).1
        have ul : (uptoF (F.take i) m).length + (m + 1) ≤ 16777216 := by
          rw [uptoF_len, List.length_take, Nat.min_eq_left (by omega)]
          have : (i + 1) * (m + 1) ≤ F.length * (m + 1) := Nat.mul_le_mul_right _ hil
          rw [Nat.add_mul] at this
          omega
        have fz := ext_frz (h := h) (m := m) (L := uptoF (F.take i) m) (hF h (List.mem_of_getElem? hh)) hm ul (x0 := x0) (x1 := some (.fl (F.map cD))) (x5 := x5)
        have e2 : uptoF (F.take (i + 1)) m = uptoF (F.take i) m ++ extF h m := by
          unfold uptoF extF
          rw [List.take_add_one, hh, List.flatMap_append]
          simp
        refine ⟨_, ?_, some (cD h), by rw [e2]⟩
        simp only [bodyF, l_w_states_2, evG_nm, bnd_ret, List.set, evSs_cons, evSs_nil, evS_asg, evE_frz, fz, thenS_nx])
  rw [List.length_map, List.take_length] at e
  have f0 : frzR (lstD []) = DL.ret (.fl []) := by
    show frzR (new (.lst [])) = _
    exact frz_new rfl
  refine ⟨x4', ?_⟩
  simp only [bodyF, l_w_states_3, evG_nm, bnd_ret, List.set, evSs_cons, evSs_nil, evS_asg, evE_frz, evE_lst, evEs_nil, f0, thenS_nx, evS_for, evI_of, evE_var, getVar_0, getVar_s, items_fl, e]
theorem states_eq {cs : List Nat} (hz : prodS cs ≤ 16777216) (hm : ∀ m ∈ cs, m ≤ 1000) (hl : cs.length ≤ 100) : f_w_states [.fl (cs.map fun (i : Nat) => D.int i)] = DL.ret (.fl ((upto cs).map cD)) := by
  have pre : ∀ i, i ≤ cs.length → prodS (cs.take i) ≤ prodS cs := by
    intro i hi
    have pos : ∀ (l : List Nat) (a : Nat), (l.map (· + 1)).foldl (· * ·) a = a * (l.map (· + 1)).foldl (· * ·) 1 := by
      intro l
      induction l with
      | nil => intro a; simp
      | cons b l ih => intro a; simp only [List.map_cons, List.foldl_cons, Nat.one_mul]; rw [ih (a * (b + 1)), ih (b + 1), Nat.mul_assoc]
    have one : ∀ l : List Nat, 1 ≤ (l.map (· + 1)).foldl (· * ·) 1 := by
      intro l
      induction l with
      | nil => simp
      | cons b l ih =>
        simp only [List.map_cons, List.foldl_cons, Nat.one_mul]
        rw [pos]
        exact Nat.mul_pos (by omega) ih
    have e : prodS cs = prodS (cs.take i) * prodS (cs.drop i) := by
      unfold prodS
      conv => lhs; rw [← List.take_append_drop i cs]
      rw [List.map_append, List.foldl_append, pos]
    rw [e]
    exact Nat.le_mul_of_pos_right _ (one _)
  obtain ⟨env', e, x2, x3, x4, rfl⟩ := forE0 (turn := bodyF t_w_states (.nm 2) l_w_states_3) (ds := cs.map fun (i : Nat) => D.int i) (env := [some (.fl (cs.map fun (i : Nat) => D.int i)), some (.fl [cD []]), none, none, none, none])
    (fun i env => ∃ x2 x3 x4, env = [some (.fl (cs.map fun (i : Nat) => D.int i)), some (.fl ((upto (cs.take i)).map cD)), x2, x3, x4, none]) ⟨none, none, none, rfl⟩ (by
      rintro i d env hi ⟨x2, x3, x4, rfl⟩
      rw [List.getElem?_map] at hi
      cases hh : cs[i]? with
      | none => rw [hh] at hi; cases hi
      | some m =>
        rw [hh] at hi
        cases hi
        have hil := (List.getElem?_eq_some_iff.mp hh).1
        have e2 : upto (cs.take (i + 1)) = uptoF (upto (cs.take i)) m := by
          unfold upto
          rw [List.take_add_one, hh, List.foldl_append]
          rfl
        have ln : (upto (cs.take (i + 1))).length = prodS (cs.take (i + 1)) := by
          have := upto_length (cs.take (i + 1)) [[]]
          unfold upto
          rw [this]
          simp
        obtain ⟨x4', e⟩ := states_turn (m := m) (F := upto (cs.take i)) (fun h hh => by
          have := leC_len (upto_mem.mp hh)
          rw [this, List.length_take]
          omega) (hm m (List.mem_of_getElem? hh)) (by
          rw [← uptoF_len, ← e2, ln]
          exact Nat.le_trans (pre (i + 1) hil) hz) (x0 := some (.fl (cs.map fun (i : Nat) => D.int i))) (x3 := x3) (x4 := x4) (x5 := none) (v2 := x2)
        exact ⟨_, e, _, _, _, by rw [e2]⟩)
  rw [List.length_map, List.take_length] at e
  have f0 : frzR (lstD [cD []]) = DL.ret (.fl [cD []]) := by
    show frzR (new (.lst [cD []])) = _
    exact frz_new (by simp [cls_c])
  have t0 : tupD [] = DL.ret (cD []) := rfl
  generalize hcs : (cs.map fun (i : Nat) => D.int i) = C at e ⊢
  simp only [f_w_states, runDef_eq, b_w_states, List.map, List.replicate, List.length_cons, List.length_nil, Nat.reduceAdd, Nat.reduceSub, List.cons_append, List.nil_append, evG_nm, bnd_ret, List.set, evSs_cons, evSs_nil, evS_asg, evE_frz, evE_lst, evE_tup, evEs_cons, evEs_nil, t0, f0, thenS_nx, evS_for, evI_of, evE_var, getVar_0, getVar_s, items_fl, e, evS_rt, thenS_rt, endF_rt, bnd_assocS]
end K
end
section
set_option Elab.async false
set_option linter.all false
set_option maxRecDepth 100000
set_option maxHeartbeats 4000000
/-! k19: the least number of sets that fit -/
namespace K
open PySem DL
theorem zip_ints : ∀ (s : List Nat) (zs : List Int), List.zipWith (fun d e => D.tup [d, e]) (s.map fun (i : Nat) => D.int i) (zs.map D.int) = (s.zip zs).map fun q => D.tup [.int (q.1 : Int), .int q.2]
  | [], _ => by simp
  | _ :: _, [] => by simp
  | a :: s, z :: zs => by
    have ih := zip_ints s zs
    rw [List.map_cons, List.map_cons, List.zipWith_cons_cons, ih, List.zip_cons_cons, List.map_cons]
theorem zip_nats : ∀ (s t : List Nat), List.zipWith (fun d e => D.tup [d, e]) (s.map fun (i : Nat) => D.int i) (t.map fun (i : Nat) => D.int i) = (s.zip t).map fun q => D.tup [.int (q.1 : Int), .int (q.2 : Int)]
  | [], _ => by simp
  | _ :: _, [] => by simp
  | a :: s, z :: zs => by
    have ih := zip_nats s zs
    rw [List.map_cons, List.map_cons, List.zipWith_cons_cons, ih, List.zip_cons_cons, List.map_cons]
theorem wt_zip : ∀ (zs : List Int) (s : List Nat), ((s.zip zs).map fun q => (q.1 : Int) * q.2).sum = wt zs s
  | [], s => by cases s <;> rfl
  | z :: zs, [] => rfl
  | z :: zs, k :: s => by
    rw [List.zip_cons_cons, List.map_cons, List.sum_cons, wt_zip zs s]
    rfl
theorem sum_ref {M : Mem} {m : Nat} {ns : List Int} (h : M[m]? = some (.lst (ns.map D.int))) : bfun .sum [.ref m] M = some (.ok (.int ns.sum), M) := by
  have e : tlOf M (.ref m) = some (ns.map D.int) := by
    unfold tlOf
    dsimp only
    rw [h]
  unfold bfun sumB
  dsimp only
  rw [e]
  dsimp only
  rw [mapO_int]
abbrev lenv (zs : List Int) (C : D) (r : Int) (x3 x4 x5 x6 x7 x8 x9 x10 x11 : Option D) : DL.Env := [some (.fl (zs.map D.int)), some C, some (.int r), x3, x4, x5, x6, x7, x8, x9, x10, x11]
theorem small_nat {k : Nat} (h : k ≤ 1000) (z : Int) : (small (k : Int) || small z) = true := by
  have : small (k : Int) = true := by unfold small; exact decide_eq_true ⟨by omega, by omega⟩
  rw [this]; rfl
theorem wt_frz {zs : List Int} {s : List Nat} (hs : ∀ k ∈ s, k ≤ 1000) (hl : s.length ≤ 100) {C : D} {r : Int} {x3 x5 x6 x7 x8 x9 x10 x11 : Option D} :
    frzR (evE t_w_least (.bcall .sum (.cons (.comp (.zipM (.var 4) (.var 0)) (.tup (.cons (.nm 9) (.cons (.nm 10) (.nil)))) (.yes) e_w_least_1 [9, 10]) (.nil))) (lenv zs C r x3 (some (cD s)) x5 x6 x7 x8 x9 x10 x11)) = DL.ret (.int (wt zs s)) := by
  have c := evE_comp_map (T := t_w_least) (it := .zipM (.var 4) (.var 0)) (g := .tup (.cons (.nm 9) (.cons (.nm 10) (.nil)))) (tt := .yes) (e := e_w_least_1) (own := [9, 10]) (env := lenv zs C r x3 (some (cD s)) x5 x6 x7 x8 x9 x10 x11) (xs := s.zip zs) (fun q => D.tup [.int (q.1 : Int), .int q.2]) (fun q => D.int ((q.1 : Int) * q.2)) (by
    have z := zip_ints s zs
    simp only [evI_zipM, evE_var, getVar_0, getVar_s, bnd_ret]
    show zipMD (.tup _) (.fl _) = _
    unfold zipMD
    dsimp only
    rw [z]) (by rw [List.length_zip]; omega) (by
    intro q hq
    have hk := hs q.1 (List.of_mem_zip hq).1
    have sm := small_nat hk q.2
    simp only [turnL, wipeE, List.set, evG_tup, evGs_cons, evGs_nil, evG_nm, len_cons, len_nil, List.length_cons, List.length_nil, Nat.reduceAdd, if_true, bnd_ret, evT_yes, e_w_least_1, evE_bin, evE_var, getVar_0, getVar_s, mul_int, sm])
  rw [evE_bcall, evEs_cons, evEs_nil, c]
  simp only [bnd_assocS, bnd_ret]
  refine frz_newB cl_int fun M => ?_
  have e : ((s.zip zs).map fun q => D.int ((q.1 : Int) * q.2)) = ((s.zip zs).map fun q => (q.1 : Int) * q.2).map D.int := by rw [List.map_map]; rfl
  rw [e]
  have := sum_ref (M := M ++ [O.lst (((s.zip zs).map fun q => (q.1 : Int) * q.2).map D.int)]) (m := M.length) (ns := (s.zip zs).map fun q => (q.1 : Int) * q.2) get_new
  rw [wt_zip] at this
  exact this
def fitB (zs : List Int) (r : Int) (p : List Nat) : Bool := decide (0 < wt zs p) && decide (wt zs p ≤ r)
theorem fitB_iff {zs : List Int} {r : Int} {p : List Nat} : fitB zs r p = true ↔ fits zs r p := by unfold fitB fits; simp
theorem sets_turn {M : Mem} {zs : List Int} {r : Int} {L : List (List Nat)} {s : List Nat} (hs : ∀ k ∈ s, k ≤ 1000) (hl : s.length ≤ 100) (hL : L.length < 16777216) {C : D} {x4 x5 x6 x7 x8 x9 x10 x11 : Option D} :
    bodyF t_w_least (.nm 4) l_w_least_2 (cD s) (lenv zs C r (some (.ref M.length)) x4 x5 x6 x7 x8 x9 x10 x11) (M ++ [.lst (L.map cD)]) = some (.ok (.nx (lenv zs C r (some (.ref M.length)) (some (cD s)) x5 x6 x7 x8 x9 x10 x11)), M ++ [.lst ((if fitB zs r s = true then L ++ [s] else L).map cD)]) := by
  have w := wt_frz (zs := zs) hs hl (C := C) (r := r) (x3 := some (.ref M.length)) (x5 := x5) (x6 := x6) (x7 := x7) (x8 := x8) (x9 := x9) (x10 := x10) (x11 := x11)
  have g : (M ++ [O.lst (L.map cD)])[M.length]? = some (.lst (L.map cD)) := get_new
  have ty : tyChk "list" (.ref M.length) (M ++ [O.lst (L.map cD)]) = some (.ok (), M ++ [O.lst (L.map cD)]) := by rw [tyChk_ref, g]; rfl
  have ap : bmeth .append (.ref M.length) [cD s] (M ++ [O.lst (L.map cD)]) = some (.ok .non, M ++ [O.lst ((L ++ [s]).map cD)]) := by
    rw [append_ref, g]
    dsimp only
    rw [if_pos (by rw [sizeLine_eq, List.length_map]; exact hL), set_mid, List.map_append]
    rfl
  unfold fitB
  generalize wt zs s = q at w
  generalize cD s = cd at *
  by_cases h0 : 0 < q
  · by_cases h1 : q ≤ r
    · simp only [bodyF, l_w_least_2, evG_nm, bnd_ret, List.set, evSs_cons, evSs_nil, evS_cond, evT_bl, evE_chain, evE_con, evE_frz, w, lt_int, le_int, h0, h1, decide_true, Bool.and_self, asBl_bl, if_true, evE_var, getVar_0, getVar_s, evS_ex, evE_bmeth, bmTy_a, evEs_cons, evEs_nil, bnd_assocS, bnd_at, ty, ap, ret_at, thenS_nx]
    · simp only [bodyF, l_w_least_2, evG_nm, bnd_ret, List.set, evSs_cons, evSs_nil, evS_cond, evT_bl, evE_chain, evE_con, evE_frz, w, lt_int, le_int, h0, h1, decide_true, decide_false, Bool.and_false, Bool.false_eq_true, asBl_bl, if_true, if_false, evE_var, getVar_0, getVar_s, bnd_assocS, bnd_at, thenS_nx, ret_at, Bool.and_self, Bool.true_and]
  · simp only [bodyF, l_w_least_2, evG_nm, bnd_ret, List.set, evSs_cons, evSs_nil, evS_cond, evT_bl, evE_chain, evE_con, evE_frz, w, lt_int, le_int, h0, decide_false, Bool.false_and, Bool.false_eq_true, asBl_bl, if_false, evE_var, getVar_0, getVar_s, bnd_assocS, bnd_at, thenS_nx, ret_at, Bool.and_self, Bool.true_and]
theorem sets_loop {M : Mem} {zs : List Int} {r : Int} {U : List (List Nat)} (hs : ∀ s ∈ U, ∀ k ∈ s, k ≤ 1000) (hl : ∀ s ∈ U, s.length ≤ 100) (hU : U.length < 16777216) {C : D} {x4 x5 x6 x7 x8 x9 x10 x11 : Option D} :
    ∃ x4', forL none (bodyF t_w_least (.nm 4) l_w_least_2) (U.map cD) (lenv zs C r (some (.ref M.length)) x4 x5 x6 x7 x8 x9 x10 x11) (M ++ [.lst []]) = some (.ok (.nx (lenv zs C r (some (.ref M.length)) x4' x5 x6 x7 x8 x9 x10 x11)), M ++ [.lst ((U.filter (fitB zs r)).map cD)]) := by
  obtain ⟨env', M', e, ⟨x4', rfl⟩, rfl⟩ := forL_0 (g := none) (turn := bodyF t_w_least (.nm 4) l_w_least_2) (ds := U.map cD) (M := M ++ [.lst []]) (env := lenv zs C r (some (.ref M.length)) x4 x5 x6 x7 x8 x9 x10 x11)
    (fun i env M' => (∃ x4, env = lenv zs C r (some (.ref M.length)) x4 x5 x6 x7 x8 x9 x10 x11) ∧ M' = M ++ [.lst (((U.take i).filter (fitB zs r)).map cD)]) (fun _ _ _ _ => rfl) ⟨⟨x4, rfl⟩, rfl⟩ (by
      rintro i d env M1 hi ⟨⟨x4, rfl⟩, rfl⟩
      rw [List.getElem?_map] at hi
      cases hh : U[i]? with
      | none => rw [hh] at hi; cases hi
      | some s =>
        rw [hh] at hi
        cases hi
        have hil := (List.getElem?_eq_some_iff.mp hh).1
        have hm := List.mem_of_getElem? hh
        have fl : ((U.take i).filter (fitB zs r)).length < 16777216 := by
          have := List.length_filter_le (fitB zs r) (U.take i)
          rw [List.length_take] at this
          omega
        refine ⟨_, _, sets_turn (hs s hm) (hl s hm) fl, ⟨_, rfl⟩, ?_⟩
        rw [List.take_add_one, hh, List.filter_append]
        by_cases hf : fitB zs r s = true
        · rw [if_pos hf]
          simp [hf]
        · rw [if_neg hf]
          simp [hf])
  rw [List.length_map, List.take_length] at e
  exact ⟨x4', e⟩
end K
end
section
set_option Elab.async false
set_option linter.all false
set_option maxRecDepth 100000
set_option maxHeartbeats 4000000
/-! statement by statement -/
namespace K
open PySem DL
theorem evSs_nxL {T : Tab} {s : CS} {ss : CSs} {env env2 : DL.Env} {M M2 : Mem} (h : evS T s env M = some (.ok (.nx env2), M2)) : evSs T (.cons s ss) env M = evSs T ss env2 M2 := by
  rw [evSs_cons, bnd_ok h, thenS_nx]
theorem evSs_rtL {T : Tab} {s : CS} {ss : CSs} {env : DL.Env} {M M2 : Mem} {d : D} (h : evS T s env M = some (.ok (.rt d), M2)) : evSs T (.cons s ss) env M = some (.ok (.rt d), M2) := by
  rw [evSs_cons, bnd_ok h, thenS_rt, ret_at]
theorem run_rtL {T : Tab} {n : Nat} {b : CSs} {vs : List D} {M M2 : Mem} {d : D} (h : evSs T b (vs.map some ++ List.replicate (n - vs.length) none) M = some (.ok (.rt d), M2)) : runDef T n b vs M = some (.ok d, M2) := by
  rw [runDef_eq, bnd_ok h, endF_rt, ret_at]
end K
end
section
set_option Elab.async false
set_option linter.all false
set_option maxRecDepth 100000
set_option maxHeartbeats 4000000
namespace K
open PySem DL
def leB (p s : List Nat) : Bool := (p.zip s).all fun q => decide (q.1 ≤ q.2)
theorem leB_iff : ∀ {p s : List Nat}, p.length = s.length → (leB p s = true ↔ leC p s)
  | [], [], _ => by simp [leB, leC]
  | a :: p, b :: s, h => by
    have ih := leB_iff (p := p) (s := s) (by simpa using h)
    have e : leC (a :: p) (b :: s) ↔ a ≤ b ∧ leC p s := Iff.rfl
    rw [e, ← ih]
    unfold leB
    rw [List.zip_cons_cons, List.all_cons, Bool.and_eq_true, decide_eq_true_eq]
  | [], _ :: _, h => by simp at h
  | _ :: _, [], h => by simp at h
theorem le_frz {zs : List Int} {s p : List Nat} (hl : s.length ≤ 100) {C : D} {r : Int} {x3 x5 x6 x8 x9 x10 x11 : Option D} :
    frzR (evE t_w_least (.bcall .all (.cons (.comp (.zip (.var 7) (.var 4)) (.tup (.cons (.nm 9) (.cons (.nm 11) (.nil)))) (.yes) e_w_least_3 [9, 11]) (.nil))) (lenv zs C r x3 (some (cD s)) x5 x6 (some (cD p)) x8 x9 x10 x11)) = DL.ret (.bl (leB p s)) := by
  have c := evE_comp_map (T := t_w_least) (it := .zip (.var 7) (.var 4)) (g := .tup (.cons (.nm 9) (.cons (.nm 11) (.nil)))) (tt := .yes) (e := e_w_least_3) (own := [9, 11]) (env := lenv zs C r x3 (some (cD s)) x5 x6 (some (cD p)) x8 x9 x10 x11) (xs := p.zip s) (fun q => D.tup [.int (q.1 : Int), .int (q.2 : Int)]) (fun q => D.bl (decide (q.1 ≤ q.2))) (by
    have z := zip_nats p s
    simp only [evI_zip, evE_var, getVar_0, getVar_s, bnd_ret]
    show zipTD (.tup _) (.tup _) = _
    unfold zipTD
    dsimp only
    rw [z]) (by rw [List.length_zip]; omega) (by
    intro q hq
    have e : decide ((q.1 : Int) ≤ (q.2 : Int)) = decide (q.1 ≤ q.2) := by
      by_cases h : q.1 ≤ q.2
      · rw [decide_eq_true h, decide_eq_true (by omega)]
      · rw [decide_eq_false h, decide_eq_false (by omega)]
    simp only [turnL, wipeE, List.set, evG_tup, evGs_cons, evGs_nil, evG_nm, len_cons, len_nil, List.length_cons, List.length_nil, Nat.reduceAdd, if_true, bnd_ret, evT_yes, e_w_least_3, evE_cmp, evE_var, getVar_0, getVar_s, le_int, e])
  rw [evE_bcall, evEs_cons, evEs_nil, c]
  simp only [bnd_assocS, bnd_ret]
  have e : ((p.zip s).map fun q => D.bl (decide (q.1 ≤ q.2))) = ((p.zip s).map fun q => decide (q.1 ≤ q.2)).map D.bl := by rw [List.map_map]; rfl
  have e2 : leB p s = (((p.zip s).map fun q => decide (q.1 ≤ q.2)).all id) := by unfold leB; rw [List.all_map]; rfl
  rw [e, e2]
  exact all_new
theorem sub_map : ∀ {p s : List Nat}, leC p s → ((p.zip s).map fun q => D.int ((q.2 : Int) - (q.1 : Int))) = (subC s p).map fun (i : Nat) => D.int i
  | [], [], _ => rfl
  | a :: p, b :: s, h => by
    have ih := sub_map (p := p) (s := s) h.2
    rw [List.zip_cons_cons, List.map_cons, ih]
    show D.int ((b : Int) - (a : Int)) :: _ = D.int ((b - a : Nat) : Int) :: _
    have h1 : a ≤ b := h.1
    rw [Int.ofNat_sub h1]
  | [], _ :: _, h => h.elim
  | _ :: _, [], h => h.elim
theorem sub_frz {zs : List Int} {s p : List Nat} (hl : s.length ≤ 100) (h : leC p s) {C : D} {r : Int} {x3 x5 x6 x8 x9 x10 x11 : Option D} :
    frzR (evE t_w_least (.bcall .tuple (.cons (.comp (.zip (.var 7) (.var 4)) (.tup (.cons (.nm 9) (.cons (.nm 11) (.nil)))) (.yes) e_w_least_4 [9, 11]) (.nil))) (lenv zs C r x3 (some (cD s)) x5 x6 (some (cD p)) x8 x9 x10 x11)) = DL.ret (cD (subC s p)) := by
  have c := evE_comp_map (T := t_w_least) (it := .zip (.var 7) (.var 4)) (g := .tup (.cons (.nm 9) (.cons (.nm 11) (.nil)))) (tt := .yes) (e := e_w_least_4) (own := [9, 11]) (env := lenv zs C r x3 (some (cD s)) x5 x6 (some (cD p)) x8 x9 x10 x11) (xs := p.zip s) (fun q => D.tup [.int (q.1 : Int), .int (q.2 : Int)]) (fun q => D.int ((q.2 : Int) - (q.1 : Int))) (by
    have z := zip_nats p s
    simp only [evI_zip, evE_var, getVar_0, getVar_s, bnd_ret]
    show zipTD (.tup _) (.tup _) = _
    unfold zipTD
    dsimp only
    rw [z]) (by rw [List.length_zip]; omega) (by
    intro q hq
    simp only [turnL, wipeE, List.set, evG_tup, evGs_cons, evGs_nil, evG_nm, len_cons, len_nil, List.length_cons, List.length_nil, Nat.reduceAdd, if_true, bnd_ret, evT_yes, e_w_least_4, evE_bin, evE_var, getVar_0, getVar_s, sub_int])
  rw [evE_bcall, evEs_cons, evEs_nil, c]
  simp only [bnd_assocS, bnd_ret]
  rw [sub_map h]
  refine tuple_new ?_
  have := cls_c (subC s p)
  rwa [cl_tup] at this
def bK (kvs : List (List L2.Key × D)) (t : List Nat) : Int := match getK kvs (keyC t) with | some (.int m) => m | _ => 0
def stepL (b : List Nat → Int) (s : List Nat) (low : Int) (p : List Nat) : Int :=
  if leB p s = true then (if low = 0 then b (subC s p) + 1 else if b (subC s p) + 1 < low then b (subC s p) + 1 else low) else low
theorem part_turn {M : Mem} {zs : List Int} {r : Int} {s p : List Nat} {n5 : Nat} {kvs : List (List L2.Key × D)} {low : Int} (hM : M[n5]? = some (.dct false kvs)) (hl : s.length ≤ 100) (hp : p.length = s.length) (hg : leC p s → ∃ m, getK kvs (keyC (subC s p)) = some (.int m)) {C : D} {x3 x7 x8 x9 x10 x11 : Option D} :
    ∃ x8', bodyF t_w_least (.nm 7) l_w_least_5 (cD p) (lenv zs C r x3 (some (cD s)) (some (.ref n5)) (some (.int low)) x7 x8 x9 x10 x11) M = some (.ok (.nx (lenv zs C r x3 (some (cD s)) (some (.ref n5)) (some (.int (stepL (bK kvs) s low p))) (some (cD p)) x8' x9 x10 x11)), M) := by
  have f1 := le_frz (zs := zs) (s := s) (p := p) hl (C := C) (r := r) (x3 := x3) (x5 := some (.ref n5)) (x6 := some (.int low)) (x8 := x8) (x9 := x9) (x10 := x10) (x11 := x11)
  by_cases hle : leB p s = true
  · have hc := (leB_iff hp).mp hle
    have f2 := sub_frz (zs := zs) (s := s) (p := p) hl hc (C := C) (r := r) (x3 := x3) (x5 := some (.ref n5)) (x6 := some (.int low)) (x8 := x8) (x9 := x9) (x10 := x10) (x11 := x11)
    obtain ⟨m, hm⟩ := hg hc
    have dg := dget_at hM hm
    have hb : bK kvs (subC s p) = m := by unfold bK; rw [hm]
    rw [hle] at f1
    refine ⟨some (.int (m + 1)), ?_⟩
    unfold stepL
    rw [if_pos hle, hb]
    generalize cD (subC s p) = cq at *
    generalize hlow : (if low = 0 then m + 1 else if m + 1 < low then m + 1 else low) = low'
    unfold bodyF l_w_least_5
    rw [evG_nm, bnd_ret]
    show evSs t_w_least _ (lenv zs C r x3 (some (cD s)) (some (.ref n5)) (some (.int low)) (some (cD p)) x8 x9 x10 x11) M = _
    generalize t_w_least = T at *
    generalize cD p = pd at *
    generalize cD s = sd at *
    refine (evSs_nxL (env2 := lenv zs C r x3 (some sd) (some (.ref n5)) (some (.int low')) (some pd) (some (.int (m + 1))) x9 x10 x11) (M2 := M) ?_).trans (by rw [evSs_nil, ret_at])
    rw [evS_cond, evT_val, evE_frz, f1, bnd_ret, tru_bl, bnd_ret, if_pos rfl]
    refine (evSs_nxL (env2 := lenv zs C r x3 (some sd) (some (.ref n5)) (some (.int low)) (some pd) (some (.int (m + 1))) x9 x10 x11) (M2 := M) ?_).trans ?_
    · simp only [evS_asg, evE_bin, evE_dget, evE_var, evE_con, evE_frz, getVar_0, getVar_s, bnd_ret, f2]
      rw [bnd_assocS, bnd_ok dg]
      simp only [add_int, bnd_ret, evG_nm, List.set, ret_at]
    refine (evSs_nxL (env2 := lenv zs C r x3 (some sd) (some (.ref n5)) (some (.int low')) (some pd) (some (.int (m + 1))) x9 x10 x11) (M2 := M) ?_).trans (by rw [evSs_nil, ret_at])
    by_cases h0 : low = 0
    · have hq : (low == 0) = true := by simp [h0]
      rw [if_pos h0] at hlow
      subst hlow
      simp only [evS_asg, evE_ite, evT_bl, evE_cmp, evE_var, evE_con, getVar_0, getVar_s, bnd_ret, eq_int, hq, asBl_bl, if_true, evG_nm, List.set, ret_at]
    · have hq : (low == 0) = false := by simp [h0]
      rw [if_neg h0] at hlow
      have mn : bfun .min [.int low, .int (m + 1)] = DL.ret (.int low') := by rw [min_int, hlow]
      simp only [evS_asg, evE_ite, evT_bl, evE_cmp, evE_var, evE_con, getVar_0, getVar_s, bnd_ret, eq_int, hq, asBl_bl, Bool.false_eq_true, if_false, evE_bcall, evEs_cons, evEs_nil, mn, evG_nm, List.set, ret_at]
  · have hf : leB p s = false := by simpa using hle
    rw [hf] at f1
    refine ⟨x8, ?_⟩
    unfold stepL
    rw [if_neg hle]
    simp only [bodyF, l_w_least_5, evG_nm, bnd_ret, bnd_at, List.set, evSs_cons, evSs_nil, evS_cond, evT_val, evE_frz, f1, tru_bl, Bool.false_eq_true, if_false, ret_at, thenS_nx]
theorem part_loop {M : Mem} {zs : List Int} {r : Int} {s : List Nat} {n3 n5 : Nat} {kvs : List (List L2.Key × D)} {S : List (List Nat)} (hM : M[n5]? = some (.dct false kvs)) (h3 : M[n3]? = some (.lst (S.map cD))) (hl : s.length ≤ 100) (hp : ∀ p ∈ S, p.length = s.length) (hg : ∀ p ∈ S, leC p s → ∃ m, getK kvs (keyC (subC s p)) = some (.int m)) {C : D} {x3 x7 x8 x9 x10 x11 : Option D} (low : Int) :
    ∃ x7' x8', forL (some (n3, S.map cD)) (bodyF t_w_least (.nm 7) l_w_least_5) (S.map cD) (lenv zs C r x3 (some (cD s)) (some (.ref n5)) (some (.int low)) x7 x8 x9 x10 x11) M = some (.ok (.nx (lenv zs C r x3 (some (cD s)) (some (.ref n5)) (some (.int (S.foldl (stepL (bK kvs) s) low))) x7' x8' x9 x10 x11)), M) := by
  obtain ⟨env', M', e, rfl, x7', x8', rfl⟩ := forL_0 (g := some (n3, S.map cD)) (turn := bodyF t_w_least (.nm 7) l_w_least_5) (ds := S.map cD) (M := M) (env := lenv zs C r x3 (some (cD s)) (some (.ref n5)) (some (.int low)) x7 x8 x9 x10 x11)
    (fun i env M' => M' = M ∧ ∃ x7 x8, env = lenv zs C r x3 (some (cD s)) (some (.ref n5)) (some (.int ((S.take i).foldl (stepL (bK kvs) s) low))) x7 x8 x9 x10 x11) (fun _ _ _ h => by rw [h.1]; exact chk_ref h3) ⟨rfl, x7, x8, rfl⟩ (by
      rintro i d env M1 hi ⟨rfl, x7, x8, rfl⟩
      rw [List.getElem?_map] at hi
      cases hh : S[i]? with
      | none => rw [hh] at hi; cases hi
      | some p =>
        rw [hh] at hi
        cases hi
        have hm := List.mem_of_getElem? hh
        obtain ⟨x8', e⟩ := part_turn (zs := zs) (r := r) (low := (S.take i).foldl (stepL (bK kvs) s) low) hM hl (hp p hm) (hg p hm) (C := C) (x3 := x3) (x7 := x7) (x8 := x8) (x9 := x9) (x10 := x10) (x11 := x11)
        refine ⟨_, _, e, rfl, some (cD p), x8', ?_⟩
        rw [List.take_add_one, hh, List.foldl_append]
        rfl)
  refine ⟨x7', x8', ?_⟩
  rw [List.length_map, List.take_length] at e
  exact e
theorem fold_spec {b : List Nat → Int} {s : List Nat} : ∀ (S : List (List Nat)) (low : Int), (∀ p ∈ S, leB p s = true → 0 ≤ b (subC s p)) → 0 ≤ low →
    0 ≤ S.foldl (stepL b s) low ∧ (low ≠ 0 → S.foldl (stepL b s) low ≤ low ∧ S.foldl (stepL b s) low ≠ 0) ∧ (∀ p ∈ S, leB p s = true → S.foldl (stepL b s) low ≤ b (subC s p) + 1 ∧ S.foldl (stepL b s) low ≠ 0) ∧ (S.foldl (stepL b s) low = low ∨ ∃ p ∈ S, leB p s = true ∧ S.foldl (stepL b s) low = b (subC s p) + 1)
  | [], low, _, h => ⟨h, fun h0 => ⟨Int.le_refl _, h0⟩, (fun _ h => by cases h), .inl rfl⟩
  | q :: S, low, hb, h => by
    have hq := hb q List.mem_cons_self
    have key : 0 ≤ stepL b s low q ∧ (low ≠ 0 → stepL b s low q ≤ low ∧ stepL b s low q ≠ 0) ∧ (leB q s = true → stepL b s low q ≤ b (subC s q) + 1 ∧ stepL b s low q ≠ 0) ∧ (stepL b s low q = low ∨ (leB q s = true ∧ stepL b s low q = b (subC s q) + 1)) := by
      unfold stepL
      by_cases hl : leB q s = true
      · have h1 := hq hl
        rw [if_pos hl]
        by_cases h0 : low = 0
        · rw [if_pos h0]
          exact ⟨by omega, fun z => absurd h0 z, fun _ => ⟨by omega, by omega⟩, .inr ⟨hl, rfl⟩⟩
        · rw [if_neg h0]
          by_cases h2 : b (subC s q) + 1 < low
          · rw [if_pos h2]
            exact ⟨by omega, fun _ => ⟨by omega, by omega⟩, fun _ => ⟨by omega, by omega⟩, .inr ⟨hl, rfl⟩⟩
          · rw [if_neg h2]
            exact ⟨h, fun _ => ⟨Int.le_refl _, h0⟩, fun _ => ⟨by omega, h0⟩, .inl rfl⟩
      · rw [if_neg hl]
        exact ⟨h, fun h0 => ⟨Int.le_refl _, h0⟩, fun z => absurd z hl, .inl rfl⟩
    obtain ⟨k1, k2, k3, k4⟩ := key
    obtain ⟨i1, i2, i3, i4⟩ := fold_spec S (stepL b s low q) (fun p hp => hb p (List.mem_cons_of_mem _ hp)) k1
    rw [List.foldl_cons]
    refine ⟨i1, fun h0 => ?_, fun p hp hl => ?_, ?_⟩
    · obtain ⟨a1, a2⟩ := k2 h0
      obtain ⟨b1, b2⟩ := i2 a2
      exact ⟨by omega, b2⟩
    · rcases List.mem_cons.mp hp with e | hp
      · subst e
        obtain ⟨a1, a2⟩ := k3 hl
        obtain ⟨b1, b2⟩ := i2 a2
        exact ⟨by omega, b2⟩
      · exact i3 p hp hl
    · rcases i4 with e | ⟨p, hp, hl, e⟩
      · rw [e]
        rcases k4 with e2 | ⟨hl, e2⟩
        · exact .inl e2
        · exact .inr ⟨q, List.mem_cons_self, hl, e2⟩
      · exact .inr ⟨p, List.mem_cons_of_mem _ hp, hl, e⟩
theorem leC_lx : ∀ {t s : List Nat}, leC t s → t = s ∨ lx t s
  | [], [], _ => .inl rfl
  | a :: t, b :: s, h => by
    rcases leC_lx h.2 with e | e
    · rcases Nat.lt_or_eq_of_le h.1 with q | q
      · exact .inr (.inl q)
      · exact .inl (by rw [q, e])
    · rcases Nat.lt_or_eq_of_le h.1 with q | q
      · exact .inr (.inl q)
      · exact .inr (.inr ⟨q, e⟩)
  | [], _ :: _, h => h.elim
  | _ :: _, [], h => h.elim
theorem upto_before {cs : List Nat} {j : Nat} {s t : List Nat} (h : (upto cs)[j]? = some s) (ht : leC t s) (hne : t ≠ s) : t ∈ (upto cs).take j := by
  have hs : leC s cs := upto_mem.mp (List.mem_of_getElem? h)
  have hd : t ∈ upto cs := upto_mem.mpr (leC_trans ht hs)
  obtain ⟨j', hj', e'⟩ := List.getElem_of_mem hd
  obtain ⟨hj, e⟩ := List.getElem?_eq_some_iff.mp h
  have pw := List.pairwise_iff_getElem.mp (pw_upto cs)
  rcases leC_lx ht with q0 | l
  · exact absurd q0 hne
  rcases Nat.lt_trichotomy j' j with q | q | q
  · rw [← e']
    exact List.mem_take_iff_getElem.mpr ⟨j', by omega, by simp⟩
  · subst q
    rw [e] at e'
    exact absurd e'.symm hne
  · have := pw j j' hj hj' q
    rw [e, e'] at this
    exact absurd l (lx_asymm this)
end K
end
section
set_option Elab.async false
set_option linter.all false
set_option maxRecDepth 100000
set_option maxHeartbeats 4000000
namespace K
open PySem DL
theorem state_turn {M : Mem} {zs : List Int} {r : Int} {s : List Nat} {n3 n5 : Nat} {kvs : List (List L2.Key × D)} {S : List (List Nat)} (hM : M[n5]? = some (.dct false kvs)) (hk : kvs.length < 16777216) (h3 : M[n3]? = some (.lst (S.map cD))) (hl : s.length ≤ 100) (hp : ∀ p ∈ S, p.length = s.length) (hg : ∀ p ∈ S, leC p s → ∃ m, getK kvs (keyC (subC s p)) = some (.int m)) {C : D} {x4 x6 x7 x8 x9 x10 x11 : Option D} :
    ∃ x7' x8', bodyF t_w_least (.nm 4) l_w_least_6 (cD s) (lenv zs C r (some (.ref n3)) x4 (some (.ref n5)) x6 x7 x8 x9 x10 x11) M = some (.ok (.nx (lenv zs C r (some (.ref n3)) (some (cD s)) (some (.ref n5)) (some (.int (S.foldl (stepL (bK kvs) s) 0))) x7' x8' x9 x10 x11)), M.set n5 (.dct false (setK kvs (keyC s) (.int (S.foldl (stepL (bK kvs) s) 0))))) := by
  obtain ⟨x7', x8', e⟩ := part_loop (zs := zs) (r := r) hM h3 hl hp hg (C := C) (x3 := some (.ref n3)) (x7 := x7) (x8 := x8) (x9 := x9) (x10 := x10) (x11 := x11) 0
  have it := items_at h3
  have ds := dset_at (s := s) (d := .int (S.foldl (stepL (bK kvs) s) 0)) hM hk
  refine ⟨x7', x8', ?_⟩
  generalize S.foldl (stepL (bK kvs) s) 0 = L at *
  generalize S.map cD = SC at *
  generalize cD s = c at *
  simp only [bodyF, l_w_least_6, evG_nm, bnd_ret, bnd_at, List.set, evSs_cons, evSs_nil, evS_asg, evE_con, ret_at, thenS_nx, evS_for, evI_of, evE_var, getVar_0, getVar_s, it, e, evG_dsub, ds]
theorem least_eq {zs : List Int} {cs : List Nat} {r : Int} (hz : ∀ z ∈ zs, 1 ≤ z ∧ z ≤ r) (hl : cs.length = zs.length) (hl6 : cs.length ≤ 6) (hc : ∀ m ∈ cs, m ≤ 14) : ∃ m, frzR (f_w_least [.fl (zs.map D.int), .fl (cs.map fun (i : Nat) => D.int i), .int r]) = DL.ret (.int m) ∧ Least r (exp zs cs) m := by
  have hp : prodS cs ≤ 16777215 := by
    refine Nat.le_trans (prod_le _ hc) ?_
    have : (15 : Nat) ^ cs.length ≤ 15 ^ 6 := Nat.pow_le_pow_right (by omega) hl6
    exact Nat.le_trans this (by decide)
  have hst := states_eq (cs := cs) (by omega) (fun m hm => by have := hc m hm; omega) (by omega)
  have ulen : (upto cs).length ≤ 16777215 := by
    have := upto_length cs [[]]
    unfold upto
    rw [this]
    simpa using hp
  have uk : ∀ s ∈ upto cs, ∀ k ∈ s, k ≤ 1000 := fun s hs k hk => by
    obtain ⟨g1, g2⟩ := leC_iff.mp (upto_mem.mp hs)
    obtain ⟨i, hi⟩ := List.mem_iff_getElem?.mp hk
    have h1 := g2 i
    rw [List.getD_eq_getElem?_getD, hi] at h1
    have h2 : cs.getD i 0 ≤ 14 := by
      rw [List.getD_eq_getElem?_getD]
      cases h : cs[i]? with
      | none => simp
      | some m => exact hc m (List.mem_of_getElem? h)
    have h3 : k ≤ cs.getD i 0 := h1
    omega
  have ul : ∀ s ∈ upto cs, s.length = cs.length := fun s hs => leC_len (upto_mem.mp hs)
  have go : ∀ M : Mem, ∃ m M', f_w_least [.fl (zs.map D.int), .fl (cs.map fun (i : Nat) => D.int i), .int r] M = some (.ok (.int m), M') ∧ Ext M M' ∧ Least r (exp zs cs) m := by
    intro M
    obtain ⟨x4, e1⟩ := sets_loop (M := M) (zs := zs) (r := r) (U := upto cs) uk (fun s hs => by rw [ul s hs]; omega) (by omega) (C := .fl (cs.map fun (i : Nat) => D.int i)) (x4 := none) (x5 := none) (x6 := none) (x7 := none) (x8 := none) (x9 := none) (x10 := none) (x11 := none)
    generalize hS : (upto cs).filter (fitB zs r) = S at *
    have hSm : ∀ p ∈ S, p ∈ upto cs ∧ fits zs r p := fun p hp => by
      rw [← hS] at hp
      obtain ⟨a, b⟩ := List.mem_filter.mp hp
      exact ⟨a, fitB_iff.mp b⟩
    obtain ⟨env', M', e2, x4', x6, x7, x8, kvs, rfl, rfl, kl, kg⟩ := forL_0 (g := none) (turn := bodyF t_w_least (.nm 4) l_w_least_6) (ds := (upto cs).map cD) (M := M ++ [.lst (S.map cD), .dct false []]) (env := lenv zs (.fl (cs.map fun (i : Nat) => D.int i)) r (some (.ref M.length)) x4 (some (.ref (M.length + 1))) none none none none none none)
      (fun j env M' => ∃ x4 x6 x7 x8 kvs, env = lenv zs (.fl (cs.map fun (i : Nat) => D.int i)) r (some (.ref M.length)) x4 (some (.ref (M.length + 1))) x6 x7 x8 none none none ∧ M' = M ++ [O.lst (S.map cD), .dct false kvs] ∧ kvs.length ≤ j ∧ ∀ t ∈ (upto cs).take j, ∃ m, getK kvs (keyC t) = some (.int m) ∧ Least r (exp zs t) m) (fun _ _ _ _ => rfl)
      ⟨x4, none, none, none, [], rfl, rfl, by simp, fun t ht => by simp at ht⟩ (by
        rintro j d env M1 hi ⟨x4, x6, x7, x8, kvs, rfl, rfl, kl, kg⟩
        rw [List.getElem?_map] at hi
        cases hh : (upto cs)[j]? with
        | none => rw [hh] at hi; cases hi
        | some s =>
          rw [hh] at hi
          cases hi
          have hjl := (List.getElem?_eq_some_iff.mp hh).1
          have hsm := List.mem_of_getElem? hh
          have hsl := ul s hsm
          have bef : ∀ p ∈ S, leC p s → subC s p ∈ (upto cs).take j := fun p hp hle => by
            refine upto_before hh (subC_le hle) fun z => ?_
            have h1 := perm_sum (exp_sub (zs := zs) hle)
            rw [List.sum_append, exp_sum, exp_sum, exp_sum, z] at h1
            have := (hSm p hp).2.1
            omega
          have g5 : (M ++ [O.lst (S.map cD), .dct false kvs])[M.length + 1]? = some (.dct false kvs) := by
            rw [List.getElem?_append_right (by omega)]
            simp
          obtain ⟨x7', x8', e⟩ := state_turn (M := M ++ [O.lst (S.map cD), .dct false kvs]) (zs := zs) (r := r) (s := s) (n3 := M.length) (n5 := M.length + 1) g5 (by omega) get_new (by omega) (fun p hp => by rw [hsl]; exact ul p (hSm p hp).1) (fun p hp hle => by
            obtain ⟨m, hm, _⟩ := kg _ (bef p hp hle)
            exact ⟨m, hm⟩) (C := .fl (cs.map fun (i : Nat) => D.int i)) (x4 := x4) (x6 := x6) (x7 := x7) (x8 := x8) (x9 := none) (x10 := none) (x11 := none)
          have lst : ∀ p ∈ S, leC p s → Least r (exp zs (subC s p)) (bK kvs (subC s p)) := fun p hp hle => by
            obtain ⟨m, hm, L⟩ := kg _ (bef p hp hle)
            have : bK kvs (subC s p) = m := by unfold bK; rw [hm]
            rw [this]; exact L
          have pl : ∀ p ∈ S, p.length = s.length := fun p hp => by rw [hsl]; exact ul p (hSm p hp).1
          obtain ⟨f1, _, f3, f4⟩ := fold_spec (b := bK kvs) (s := s) S 0 (fun p hp hle => (lst p hp ((leB_iff (pl p hp)).mp hle)).bounds.1) (Int.le_refl _)
          have inS : ∀ p, leC p s → fits zs r p → p ∈ S := fun p h1 h2 => by
            rw [← hS]
            exact List.mem_filter.mpr ⟨upto_mem.mpr (leC_trans h1 (upto_mem.mp hsm)), fitB_iff.mpr h2⟩
          have L := least_step (zs := zs) (r := r) hz (s := s) (by rw [hsl, hl]) (b := bK kvs) (fun p h1 h2 => lst p (inS p h1 h2) h1) (m := S.foldl (stepL (bK kvs) s) 0) ⟨fun p h1 h2 => (f3 p (inS p h1 h2) ((leB_iff (pl p (inS p h1 h2))).mpr h1)).1, by
            rcases f4 with e0 | ⟨p, hp, hle, e0⟩
            · right
              refine ⟨e0, ?_⟩
              cases hx : exp zs s with
              | nil =>
                have := exp_len (zs := zs) (s := s) (by rw [hsl, hl])
                rw [hx] at this
                exact this.symm
              | cons x rest =>
                exfalso
                obtain ⟨p, p1, p2, _⟩ := part_counts [x] rest s (by rw [hsl, hl]) (by rw [hx]; exact List.Perm.refl _)
                have hxm : x ∈ exp zs s := by rw [hx]; exact List.mem_cons_self
                obtain ⟨i, _, hi⟩ := exp_mem hxm
                have hxz := hz x (List.mem_of_getElem? hi)
                have hw : wt zs p = x := by
                  rw [← exp_sum, ← perm_sum p2]
                  simp
                have hf : fits zs r p := ⟨by rw [hw]; omega, by rw [hw]; exact hxz.2⟩
                exact (f3 p (inS p p1 hf) ((leB_iff (pl p (inS p p1 hf))).mpr p1)).2 e0
            · exact .inl ⟨p, (leB_iff (pl p hp)).mp hle, (hSm p hp).2, e0⟩⟩
          refine ⟨_, _, e, _, _, _, _, setK kvs (keyC s) (.int (S.foldl (stepL (bK kvs) s) 0)), rfl, ?_, Nat.le_trans (setK_len _ _ _) (by omega), fun t ht => ?_⟩
          · rw [List.set_append_right _ _ (by omega)]
            simp
          · rw [List.take_add_one, hh] at ht
            rcases List.mem_append.mp ht with ht | ht
            · by_cases hts : t = s
              · subst hts
                exact ⟨_, getK_setK_eq _ _ _, L⟩
              · obtain ⟨m, hm, Lm⟩ := kg t ht
                refine ⟨m, ?_, Lm⟩
                rw [getK_setK_ne _ (fun z => hts (keyC_inj z).symm)]
                exact hm
            · have : t = s := by simpa using ht
              subst this
              exact ⟨_, getK_setK_eq _ _ _, L⟩)
    rw [List.length_map, List.take_length] at kg
    obtain ⟨m, hm, L⟩ := kg cs (upto_mem.mpr (leC_refl cs))
    have g5 : (M ++ [O.lst (S.map cD), .dct false kvs])[M.length + 1]? = some (.dct false kvs) := by
      rw [List.getElem?_append_right (by omega)]
      simp
    have dg := dget_at g5 hm
    have tf : bfun .tuple [.fl (cs.map fun (i : Nat) => D.int i)] = DL.ret (cD cs) := by funext N; rfl
    have fz : frzR (DL.ret (.fl ((upto cs).map cD))) = DL.ret (.fl ((upto cs).map cD)) := frz_ret (by rw [cl_fl]; exact cls_cs _)
    have n3 : lstD [] M = some (.ok (.ref M.length), M ++ [.lst []]) := rfl
    have n5 : new (.dct false []) (M ++ [.lst (S.map cD)]) = some (.ok (.ref (M.length + 1)), M ++ [.lst (S.map cD), .dct false []]) := by
      show some (Except.ok (D.ref (M ++ [O.lst (S.map cD)]).length), M ++ [O.lst (S.map cD)] ++ [O.dct false []]) = _
      simp
    refine ⟨m, M ++ [O.lst (S.map cD), .dct false kvs], run_rtL ?_, Ext.add _ _, L⟩
    have t7 : t_w_least.fn 1007 = f_w_states := tf_w_least_w_states
    unfold b_w_least
    generalize t_w_least = T at *
    generalize f_w_states = F at *
    show evSs T _ (lenv zs (.fl (cs.map fun (i : Nat) => D.int i)) r none none none none none none none none none) M = _
    have w3 : evI T (.of (.frz (.own 1007 (.cons (.var 1) (.nil)) (.nil) [.arg 0]))) (lenv zs (.fl (cs.map fun (i : Nat) => D.int i)) r (some (.ref M.length)) none none none none none none none none) = DL.ret ((upto cs).map cD, none) := by
      simp only [evI_of, evE_frz, evE_own, evEs_cons, evEs_nil, evE_var, getVar_0, getVar_s, bnd_ret, selD_arg, selD_nil, opt_some, List.cons_append, List.nil_append, List.append_nil, List.getElem?_cons_zero, t7, frz_noErr, hst, fz, items_fl]
    have w5 : ∀ y4 y5, evI T (.of (.frz (.own 1007 (.cons (.var 1) (.nil)) (.nil) [.arg 0]))) (lenv zs (.fl (cs.map fun (i : Nat) => D.int i)) r (some (.ref M.length)) y4 y5 none none none none none none) = DL.ret ((upto cs).map cD, none) := fun y4 y5 => by
      simp only [evI_of, evE_frz, evE_own, evEs_cons, evEs_nil, evE_var, getVar_0, getVar_s, bnd_ret, selD_arg, selD_nil, opt_some, List.cons_append, List.nil_append, List.append_nil, List.getElem?_cons_zero, t7, frz_noErr, hst, fz, items_fl]
    refine (evSs_nxL (env2 := lenv zs (.fl (cs.map fun (i : Nat) => D.int i)) r (some (.ref M.length)) none none none none none none none none) (M2 := M ++ [.lst []]) ?_).trans ?_
    · rw [evS_asg, evE_lst, evEs_nil, bnd_ret, bnd_ok n3, evG_nm, bnd_ret, ret_at]
      rfl
    refine (evSs_nxL (env2 := lenv zs (.fl (cs.map fun (i : Nat) => D.int i)) r (some (.ref M.length)) x4 none none none none none none none) (M2 := M ++ [.lst (S.map cD)]) ?_).trans ?_
    · rw [evS_for, w3, bnd_ret]
      exact e1
    refine (evSs_nxL (env2 := lenv zs (.fl (cs.map fun (i : Nat) => D.int i)) r (some (.ref M.length)) x4 (some (.ref (M.length + 1))) none none none none none none) (M2 := M ++ [.lst (S.map cD), .dct false []]) ?_).trans ?_
    · rw [evS_asg, evE_dnew, bnd_ok n5, evG_nm, bnd_ret, ret_at]
      rfl
    refine (evSs_nxL (env2 := lenv zs (.fl (cs.map fun (i : Nat) => D.int i)) r (some (.ref M.length)) x4' (some (.ref (M.length + 1))) x6 x7 x8 none none none) (M2 := M ++ [.lst (S.map cD), .dct false kvs]) ?_).trans ?_
    · rw [evS_for, w5, bnd_ret]
      exact e2
    refine evSs_rtL ?_
    simp only [evS_rt, evE_dget, evE_bcall, evEs_cons, evEs_nil, evE_var, getVar_0, getVar_s, bnd_ret, tf]
    rw [bnd_ok dg, ret_at]
  obtain ⟨m, _, _, _, hm⟩ := go []
  refine ⟨m, frz_pure fun M => ?_, hm⟩
  obtain ⟨m', M', e, x, hm'⟩ := go M
  rw [hm'.eq hm] at e
  exact ⟨_, M', e, x, frD_cl cl_int _⟩
end K
end
section
set_option Elab.async false
set_option linter.all false
set_option maxRecDepth 100000
set_option maxHeartbeats 4000000
/-! the packing that is read off the table, without the program -/
namespace K
open PySem
theorem V_zero {r : Int} {zs : List Int} {s : List Nat} (h : s.sum = 0) : V r zs s = (0, r, none) := by
  unfold V; rw [h]; rfl
theorem V_last {r : Int} {zs : List Int} {s : List Nat} (hl : s.length = zs.length) (hn : 0 < s.sum) : ∃ k z, (V r zs s).2.2 = some k ∧ zs[k]? = some z ∧ 0 < s.getD k 0 ∧ look r zs s = put r (look r zs (dec s k)) z := by
  have hex : ∃ z, z ∈ exp zs s := by
    have := exp_len hl
    cases h : exp zs s with
    | nil => rw [h] at this; simp at this; omega
    | cons z l => exact ⟨z, List.mem_cons_self⟩
  obtain ⟨z0, hz0⟩ := hex
  obtain ⟨i0, hi0, hzi0⟩ := exp_mem hz0
  obtain ⟨b', e', _⟩ := (best_spec (r := r) (l := look r zs) (s := s) zs 0 none).1 i0 z0 hzi0 (by rw [Nat.zero_add]; exact hi0)
  have ev : look r zs s = (b'.1, b'.2.1) := by
    show ((V r zs s).1, (V r zs s).2.1) = _
    rw [V_eq, e']
    rfl
  rcases (best_spec (r := r) (l := look r zs) (s := s) zs 0 none).2.2 b' e' with h | ⟨i, z, hzi, hi, hk, hp⟩
  · cases h
  rw [Nat.zero_add] at hi hp hk
  refine ⟨i, z, ?_, hzi, hi, ev.trans hp⟩
  rw [V_eq, e']
  show some b'.2.2 = _
  rw [hk]
theorem dec_set {s : List Nat} {k : Nat} (h : k < s.length) : dec s k = s.set k (s.getD k 0 - 1) := by
  unfold dec
  rw [List.set_eq_take_append_cons_drop, if_pos h]
theorem dec_getD {s : List Nat} {k : Nat} (h : k < s.length) (j : Nat) : (dec s k).getD j 0 = if j = k then s.getD k 0 - 1 else s.getD j 0 := by
  rw [dec_set h]
  by_cases e : j = k
  · rw [if_pos e, e, List.getD_eq_getElem?_getD, List.getElem?_set_self h]
    rfl
  · rw [if_neg e, List.getD_eq_getElem?_getD, List.getElem?_set_ne (fun z => e z.symm), ← List.getD_eq_getElem?_getD]
/-- the kinds of the items, the last one first -/
def chain (r : Int) (zs : List Int) : Nat → List Nat → List Nat
  | 0, _ => []
  | n + 1, s => match (V r zs s).2.2 with | none => [] | some k => k :: chain r zs n (dec s k)
/-- boxes, the fill of the last one, the items that wait -/
structure BP where
  Bs : List (List Nat)
  fill : Int
  Ws : List (List Nat)
inductive BStep (r : Int) (zs : List Int) : BP → Nat → BP → Prop
  | new {Bs : List (List Nat)} {fill : Int} {Ws : List (List Nat)} {k : Nat} {z : Int} {w : List Nat} {i : Nat} (hz : zs[k]? = some z) (hw : Ws[k]? = some (w ++ [i])) (h : r < fill + z) : BStep r zs ⟨Bs, fill, Ws⟩ k ⟨Bs ++ [[i]], z, Ws.set k w⟩
  | put {Bs : List (List Nat)} {b : List Nat} {fill : Int} {Ws : List (List Nat)} {k : Nat} {z : Int} {w : List Nat} {i : Nat} (hz : zs[k]? = some z) (hw : Ws[k]? = some (w ++ [i])) (h : fill + z ≤ r) : BStep r zs ⟨Bs ++ [b], fill, Ws⟩ k ⟨Bs ++ [b ++ [i]], fill + z, Ws.set k w⟩
inductive Runs (r : Int) (zs : List Int) : BP → List Nat → BP → Prop
  | nil {st : BP} : Runs r zs st [] st
  | cons {a b c : BP} {k : Nat} {l : List Nat} (h : BStep r zs a k b) (t : Runs r zs b l c) : Runs r zs a (k :: l) c
theorem Runs.snoc {r : Int} {zs : List Int} {a b c : BP} {k : Nat} {l : List Nat} (h : Runs r zs a l b) (t : BStep r zs b k c) : Runs r zs a (l ++ [k]) c := by
  induction h with
  | nil => exact .cons t .nil
  | cons h1 _ ih => exact .cons h1 (ih t)
theorem flat_set : ∀ {Ws : List (List Nat)} {k : Nat} {w : List Nat} {i : Nat}, Ws[k]? = some (w ++ [i]) → Ws.flatten.Perm (i :: (Ws.set k w).flatten)
  | [], k, w, i, h => by simp at h
  | v :: Ws, 0, w, i, h => by
    have : v = w ++ [i] := Option.some.inj h
    rw [this, List.set_cons_zero, List.flatten_cons, List.flatten_cons, List.append_assoc]
    exact List.perm_middle
  | v :: Ws, k + 1, w, i, h => by
    have ih := flat_set (Ws := Ws) (k := k) (w := w) (i := i) (by simpa using h)
    rw [List.set_cons_succ, List.flatten_cons, List.flatten_cons]
    exact (ih.append_left v).trans List.perm_middle
structure BInv (r : Int) (zs : List Int) (sz : Nat → Int) (n0 : Nat → Nat) (all : List Nat) (u : List Nat) (st : BP) : Prop where
  wl : st.Ws.length = zs.length
  cnt : ∀ (k : Nat) (w : List Nat), st.Ws[k]? = some w → w.length + u.getD k 0 = n0 k
  wsz : ∀ (k : Nat) (z : Int) (w : List Nat), zs[k]? = some z → st.Ws[k]? = some w → ∀ i ∈ w, sz i = z
  lk : ((st.Bs.length : Int), st.fill) = look r zs u
  perm : (st.Bs.flatten ++ st.Ws.flatten).Perm all
  ok : ∀ b ∈ st.Bs, b ≠ [] ∧ (b.map sz).sum ≤ r
  last : (st.Bs = [] ∧ st.fill = r) ∨ ∃ B b, st.Bs = B ++ [b] ∧ st.fill = (b.map sz).sum
theorem chain_run {r : Int} {zs : List Int} {sz : Nat → Int} {n0 : Nat → Nat} {all : List Nat} {W0 : List (List Nat)} (hz : ∀ z ∈ zs, 1 ≤ z ∧ z ≤ r) (wl : W0.length = zs.length) (cnt : ∀ (k : Nat) (w : List Nat), W0[k]? = some w → w.length = n0 k)
    (wsz : ∀ (k : Nat) (z : Int) (w : List Nat), zs[k]? = some z → W0[k]? = some w → ∀ i ∈ w, sz i = z) (perm : W0.flatten.Perm all) : ∀ (n : Nat) (s : List Nat), s.sum = n → s.length = zs.length → (∀ k, k < zs.length → s.getD k 0 ≤ n0 k) → ∃ st, Runs r zs ⟨[], r, W0⟩ (chain r zs n s).reverse st ∧ BInv r zs sz n0 all s st
  | 0, s, hn, hl, _ => by
    refine ⟨_, .nil, wl, fun k w hw => ?_, wsz, ?_, by simpa using perm, fun _ h => (by cases h), .inl ⟨rfl, rfl⟩⟩
    · have : s.getD k 0 = 0 := by
        rw [List.getD_eq_getElem?_getD]
        cases h : s[k]? with
        | none => rfl
        | some v => exact List.sum_eq_zero_iff_forall_eq_nat.mp hn v (List.mem_of_getElem? h)
      rw [this]
      exact cnt k w hw
    · unfold look
      rw [V_zero hn]
      rfl
  | n + 1, s, hn, hl, hb => by
    obtain ⟨k, z, e1, e2, e3, e4⟩ := V_last (r := r) hl (by omega)
    have hk : k < zs.length := (List.getElem?_eq_some_iff.mp e2).1
    have hk' : k < s.length := by omega
    have gd := dec_getD hk'
    obtain ⟨st, R, I⟩ := chain_run hz wl cnt wsz perm n (dec s k) (by have := dec_sum e3; omega) (by rw [dec_len e3]; exact hl) (fun j hj => by
      rw [gd]
      have := hb j hj
      split
      · subst_vars; omega
      · exact this)
    have ch : (chain r zs (n + 1) s).reverse = (chain r zs n (dec s k)).reverse ++ [k] := by
      have : chain r zs (n + 1) s = k :: chain r zs n (dec s k) := by
        show (match (V r zs s).2.2 with | none => [] | some k => k :: chain r zs n (dec s k)) = _
        rw [e1]
      rw [this, List.reverse_cons]
    obtain ⟨Bs, fill, Ws⟩ := st
    obtain ⟨i1, i2, i3, i4, i5, i6, i7⟩ := I
    simp only at i1 i2 i3 i4 i5 i6 i7
    obtain ⟨v, hv⟩ : ∃ v, Ws[k]? = some v := ⟨Ws[k]'(by omega), List.getElem?_eq_getElem (by omega)⟩
    have hvl := i2 k v hv
    rw [gd, if_pos rfl] at hvl
    have hbk := hb k hk
    obtain ⟨w, i, rfl⟩ : ∃ w i, v = w ++ [i] := by
      have : v ≠ [] := fun e => by rw [e, List.length_nil] at hvl; omega
      exact ⟨v.dropLast, v.getLast this, (List.dropLast_concat_getLast this).symm⟩
    have hsi : sz i = z := i3 k z _ e2 hv i (by simp)
    have hzz := hz z (List.mem_of_getElem? e2)
    have fs := flat_set hv
    have wl' : (Ws.set k w).length = zs.length := by rw [List.length_set]; exact i1
    have cnt' : ∀ (j : Nat) (w' : List Nat), (Ws.set k w)[j]? = some w' → w'.length + s.getD j 0 = n0 j := by
      intro j w' hj
      by_cases e : j = k
      · subst e
        rw [List.getElem?_set_self (by omega)] at hj
        cases hj
        rw [List.length_append, List.length_singleton] at hvl
        omega
      · rw [List.getElem?_set_ne (fun z => e z.symm)] at hj
        have := i2 j w' hj
        rw [gd, if_neg e] at this
        exact this
    have wsz' : ∀ (j : Nat) (y : Int) (w' : List Nat), zs[j]? = some y → (Ws.set k w)[j]? = some w' → ∀ i ∈ w', sz i = y := by
      intro j y w' hy hj x hx
      by_cases e : j = k
      · subst e
        rw [List.getElem?_set_self (by omega)] at hj
        cases hj
        exact i3 j y _ hy hv x (List.mem_append_left _ hx)
      · rw [List.getElem?_set_ne (fun z => e z.symm)] at hj
        exact i3 j y w' hy hj x hx
    rw [ch]
    by_cases hf : fill + z ≤ r
    · rcases i7 with ⟨rfl, rfl⟩ | ⟨B, b, rfl, hfb⟩
      · omega
      · refine ⟨_, R.snoc (.put e2 hv hf), wl', cnt', wsz', ?_, ?_, ?_, .inr ⟨B, b ++ [i], rfl, ?_⟩⟩
        · rw [e4, ← i4]
          unfold put
          rw [if_pos hf]
          simp
        · refine List.Perm.trans ?_ i5
          show ((B ++ [b ++ [i]]).flatten ++ (Ws.set k w).flatten).Perm ((B ++ [b]).flatten ++ Ws.flatten)
          refine List.Perm.trans ?_ (fs.symm.append_left _)
          simp only [List.flatten_append, List.flatten_cons, List.flatten_nil, List.append_nil, List.append_assoc]
          exact List.Perm.refl _
        · intro c hc
          rcases List.mem_append.mp hc with hc | hc
          · exact i6 c (List.mem_append_left _ hc)
          · rw [List.mem_singleton.mp hc]
            refine ⟨by simp, ?_⟩
            rw [List.map_append, List.sum_append, ← hfb]
            simpa [hsi] using hf
        · rw [List.map_append, List.sum_append, ← hfb]
          simp [hsi]
    · refine ⟨_, R.snoc (.new e2 hv (by omega)), wl', cnt', wsz', ?_, ?_, ?_, .inr ⟨Bs, [i], rfl, by simp [hsi]⟩⟩
      · rw [e4, ← i4]
        unfold put
        rw [if_neg hf]
        simp
      · refine List.Perm.trans ?_ i5
        show ((Bs ++ [[i]]).flatten ++ (Ws.set k w).flatten).Perm (Bs.flatten ++ Ws.flatten)
        refine List.Perm.trans ?_ (fs.symm.append_left _)
        simp only [List.flatten_append, List.flatten_cons, List.flatten_nil, List.append_nil, List.append_assoc]
        exact List.Perm.refl _
      · intro c hc
        rcases List.mem_append.mp hc with hc | hc
        · exact i6 c hc
        · rw [List.mem_singleton.mp hc]
          refine ⟨by simp, ?_⟩
          simpa [hsi] using hzz.2
/-- the places of a name -/
def places (t : Str) : Nat → List Str → List Nat
  | _, [] => []
  | k, x :: xs => if x == t then k :: places t (k + 1) xs else places t (k + 1) xs
theorem places_cons {t x : Str} {k : Nat} {xs : List Str} : places t k (x :: xs) = if x == t then k :: places t (k + 1) xs else places t (k + 1) xs := rfl
theorem places_len (t : Str) : ∀ (k : Nat) (xs : List Str), (places t k xs).length = xs.count t
  | k, [] => rfl
  | k, x :: xs => by
    unfold places
    rw [List.count_cons]
    split
    · rw [List.length_cons, places_len t]
    · rw [places_len t]; rfl
theorem places_at (t : Str) : ∀ (xs : List Str) (k i : Nat), i ∈ places t k xs → ∃ j, i = k + j ∧ xs[j]? = some t
  | [], k, i, h => by cases h
  | x :: xs, k, i, h => by
    unfold places at h
    have go : i ∈ places t (k + 1) xs → ∃ j, i = k + j ∧ (x :: xs)[j]? = some t := fun h => by
      obtain ⟨j, e, q⟩ := places_at t xs (k + 1) i h
      exact ⟨j + 1, by omega, by simpa using q⟩
    split at h
    · rename_i hx
      rcases List.mem_cons.mp h with e | h
      · exact ⟨0, by omega, by simpa using hx⟩
      · exact go h
    · exact go h
theorem flat_nils {α β : Type} : ∀ l : List α, (l.map fun _ => ([] : List β)).flatten = []
  | [] => rfl
  | _ :: l => by rw [List.map_cons, List.flatten_cons, flat_nils l]; rfl
theorem places_flat {names : List Str} (hn : names.Nodup) : ∀ (row : List Str) (k : Nat), (∀ x ∈ row, x ∈ names) → (names.map fun t => places t k row).flatten.Perm (List.range' k row.length)
  | [], k, _ => by
    have : (names.map fun t => places t k []).flatten = [] := flat_nils names
    rw [this]
    exact List.Perm.refl _
  | x :: row, k, h => by
    have ih := places_flat hn row (k + 1) fun y hy => h y (List.mem_cons_of_mem _ hy)
    obtain ⟨A, B, e⟩ := List.append_of_mem (h x List.mem_cons_self)
    have hA : ∀ t ∈ A, places t k (x :: row) = places t (k + 1) row := by
      intro t ht
      have : x ≠ t := by
        rintro rfl
        rw [e] at hn
        exact (List.nodup_append.mp hn).2.2 x ht x List.mem_cons_self rfl
      rw [places_cons, if_neg (by simpa using this)]
    have hB : ∀ t ∈ B, places t k (x :: row) = places t (k + 1) row := by
      intro t ht
      have : x ≠ t := by
        rintro rfl
        rw [e] at hn
        exact (List.nodup_cons.mp (List.nodup_append.mp hn).2.1).1 ht
      rw [places_cons, if_neg (by simpa using this)]
    have hx : places x k (x :: row) = k :: places x (k + 1) row := by
      rw [places_cons, if_pos (by simp)]
    rw [List.length_cons, List.range'_succ]
    refine List.Perm.trans ?_ (ih.cons k)
    rw [e, List.map_append, List.map_cons, List.map_append, List.map_cons, List.map_congr_left hA, List.map_congr_left hB, hx]
    simp only [List.flatten_append, List.flatten_cons, List.cons_append]
    exact List.perm_middle
end K
end
section
set_option Elab.async false
set_option linter.all false
set_option maxRecDepth 100000
set_option maxHeartbeats 4000000
namespace K
open PySem DL
def drawA (a c : Int) : Int := ((a * 48271 + (c + 1) * 104729 + 7) % 2147483587 * ((a * 48271 + (c + 1) * 104729 + 7) % 2147483587) + 30011 * (c + 1)) % 2147483549
theorem draw_eq (M : Mem) (n : Nat) (a b c : Int) (k : Int) (h : M[n]? = some (.lst [.int a, .int b, .int c])) (hk : 1 ≤ k) (hk2 : k ≤ 1000) :
    f_w_draw [.ref n, .int k] M = some (.ok (.int (if 0 < b then b % k else drawA a c / 64 % k)), M.set n (.lst [.int (drawA a c), .int (if 0 < b then b / k else b), .int (c + 1)])) := by
  have h1 := get_set h
  have k1 : 0 < k := by omega
  have k2 : k < 1073741824 := by omega
  have s1 : ∀ z : Int, -18446744073709551616 < z % 2147483587 := fun z => by omega
  have s2 : ∀ z : Int, z % 2147483587 < 18446744073709551616 := fun z => by omega
  by_cases hb : 0 < b
  · simp [f_w_draw, runDef_eq, b_w_draw, bnd_at, ix_ref, setIx_ref, h, h1, L2.atI, L2.ixN, small, hb, k1, k2, s1, s2, drawA]
  · simp [f_w_draw, runDef_eq, b_w_draw, bnd_at, ix_ref, setIx_ref, h, h1, L2.atI, L2.ixN, small, hb, k1, k2, s1, s2, drawA]
/-- the pool at n, and nothing else, is changed -/
def PS (n : Nat) (M M' : Mem) : Prop := ∃ o, isPool o ∧ M' = M.set n o ∧ n < M.length
theorem PS.get {n : Nat} {M M' : Mem} (h : PS n M M') : ∃ o, M'[n]? = some o ∧ isPool o := by
  obtain ⟨o, p, rfl, hn⟩ := h
  exact ⟨o, by rw [List.getElem?_set_self hn], p⟩
theorem PS.refl {n : Nat} {M : Mem} (h : ∃ o, M[n]? = some o ∧ isPool o) : PS n M M := by
  obtain ⟨o, h, p⟩ := h
  obtain ⟨hn, e⟩ := List.getElem?_eq_some_iff.mp h
  exact ⟨o, p, by rw [← e, List.set_getElem_self hn], hn⟩
theorem PS.trans {n : Nat} {A B C : Mem} (h : PS n A B) (g : PS n B C) : PS n A C := by
  obtain ⟨o, p, rfl, hn⟩ := h
  obtain ⟨o', p', rfl, _⟩ := g
  exact ⟨o', p', by rw [List.set_set], hn⟩
theorem pool_low {n : Nat} {o : O} (h : isPool o) : O.low n o = true := by
  obtain ⟨a, b, c, rfl⟩ := h
  simp [O.low, D.lows, D.low]
/-- a computation that draws and makes things: let go -/
theorem frz_ps {m : R D} {M M1 M' : Mem} {n : Nat} {d d' : D} (h : m M = some (.ok d, M')) (p : PS n M M1) (e : Ext M1 M') (hd : frD M' M.length 20 d = some d') : frzR m M = some (.ok d', M1) := by
  obtain ⟨o, po, rfl, hn⟩ := p
  exact frz_set h e (pool_low po) hd
theorem draw_frz {M : Mem} {n : Nat} {k : Int} (h : ∃ o, M[n]? = some o ∧ isPool o) (hk : 1 ≤ k) (hk2 : k ≤ 1000) : ∃ d M', frzR (f_w_draw [.ref n, .int k]) M = some (.ok (.int d), M') ∧ 0 ≤ d ∧ d < k ∧ PS n M M' := by
  obtain ⟨o, h, a, b, c, rfl⟩ := h
  have k1 : 0 < k := by omega
  have hn := (List.getElem?_eq_some_iff.mp h).1
  refine ⟨_, _, frz_ps (draw_eq M n a b c k h hk hk2) ⟨_, ⟨_, _, _, rfl⟩, rfl, hn⟩ (Ext.refl _) (frD_cl cl_int _), ?_, ?_, ⟨_, ⟨_, _, _, rfl⟩, rfl, hn⟩⟩
  · split
    · exact Int.emod_nonneg _ (by omega)
    · exact Int.emod_nonneg _ (by omega)
  · split
    · exact Int.emod_lt_of_pos _ k1
    · exact Int.emod_lt_of_pos _ k1
theorem pool_spec (M : Mem) (c : Int) : ∃ o, f_w_pool [.int c] M = some (.ok (.ref M.length), M ++ [o]) ∧ isPool o := by
  refine ⟨.lst [.int (c % 2147483629), .int (if c < 0 ∨ 1000000000000000000 ≤ c then (if c < 0 then -c else c) else 0), .int 0], ?_, _, _, _, rfl⟩
  by_cases h1 : c < 0
  · simp [f_w_pool, runDef_eq, b_w_pool, bnd_at, lstD_eq, sizeLine_eq, h1]
  · by_cases h2 : 1000000000000000000 ≤ c
    · simp [f_w_pool, runDef_eq, b_w_pool, bnd_at, lstD_eq, sizeLine_eq, h1, h2]
    · simp [f_w_pool, runDef_eq, b_w_pool, bnd_at, lstD_eq, sizeLine_eq, h1, h2]
end K
end
section
set_option Elab.async false
set_option linter.all false
set_option maxRecDepth 100000
set_option maxHeartbeats 4000000
/-! best_packing: its loops -/
namespace K
open PySem DL
abbrev ltI (w : List Nat) : O := .lst (w.map fun (i : Nat) => D.int i)
theorem get_mid {A C : Mem} {Ws : List (List Nat)} {k : Nat} {w : List Nat} (h : Ws[k]? = some w) : (A ++ (Ws.map ltI ++ C))[A.length + k]? = some (ltI w) := by
  have hk := (List.getElem?_eq_some_iff.mp h).1
  rw [List.getElem?_append_right (by omega), Nat.add_sub_cancel_left, List.getElem?_append_left (by rw [List.length_map]; exact hk), List.getElem?_map, h]
  rfl
theorem set_midW {A C : Mem} {Ws : List (List Nat)} {k : Nat} {w : List Nat} (hk : k < Ws.length) : (A ++ (Ws.map ltI ++ C)).set (A.length + k) (ltI w) = A ++ ((Ws.set k w).map ltI ++ C) := by
  rw [List.set_append_right _ _ (by omega), Nat.add_sub_cancel_left, List.set_append_left _ _ (by rw [List.length_map]; exact hk), List.map_set]
theorem at_natB {α β : Type} {f : α → β} {xs : List α} {k : Nat} (hk : k < xs.length) : L2.atI (xs.map f) (k : Int) = some (f xs[k]) := by
  rw [at_pos (by omega) (by rw [List.length_map]; omega)]
  show (xs.map f)[k]? = _
  rw [List.getElem?_map, List.getElem?_eq_getElem hk]
  rfl
abbrev refs (L n : Nat) : List D := (List.range' L n).map D.ref
theorem refs_at {L n k : Nat} (h : k < n) : L2.atI (refs L n) (k : Int) = some (.ref (L + k)) := by
  rw [at_pos (by omega) (by rw [List.length_map, List.length_range']; omega)]
  show (refs L n)[k]? = _
  rw [List.getElem?_map, List.getElem?_range' h]
  simp
theorem refs_last {L n : Nat} : L2.atI (refs L (n + 1)) (-1) = some (.ref (L + n)) := by
  have hl : (refs L (n + 1)).length = n + 1 := by rw [List.length_map, List.length_range']
  unfold L2.atI L2.ixN
  rw [hl, if_neg (by omega), if_pos (by omega)]
  show (refs L (n + 1))[((-1 : Int) + ((n + 1 : Nat) : Int)).toNat]? = _
  rw [show ((-1 : Int) + ((n + 1 : Nat) : Int)).toNat = n by omega, List.getElem?_map, List.getElem?_range' (by omega)]
  simp
theorem refs_succ {L n : Nat} : refs L n ++ [.ref (L + n)] = refs L (n + 1) := by
  unfold refs
  rw [List.range'_concat, List.map_append]
  simp
/-! the items, the last one first -/
theorem whileL_false {t : DL.Env → R Bool} {b : DL.Env → R Fl} {n : Nat} {env : DL.Env} {M : Mem} (h : t env M = some (.ok false, M)) : whileL t b (n + 1) env M = some (.ok (.nx env), M) := by
  show bnd (t env) _ M = _
  rw [bnd_ok h]
  rfl
theorem whileL_true {t : DL.Env → R Bool} {b : DL.Env → R Fl} {n : Nat} {env e2 : DL.Env} {M M2 : Mem} (h : t env M = some (.ok true, M)) (h2 : b env M = some (.ok (.nx e2), M2)) : whileL t b (n + 1) env M = whileL t b n e2 M2 := by
  show bnd (t env) _ M = _
  rw [bnd_ok h]
  show bnd (b env) _ M = _
  rw [bnd_ok h2]
abbrev benv (gv rd fd : D) (r : Int) (s : D) (d o : Nat) (v7 v8 v9 v10 v11 v12 v13 v14 : Option D) : DL.Env := [some gv, some rd, some fd, some (.int r), some s, some (.ref d), some (.ref o), v7, v8, v9, v10, v11, v12, v13, v14]
theorem chain_walk {r : Int} {zs : List Int} {gv rd fd : D} {kvs : List (List L2.Key × D)} {cs : List Nat} {M : Mem} (hg : ∀ s, leC s cs → getK kvs (keyC s) = some (tripD (V r zs s))) (hl : cs.length = zs.length) (hz : zs.length ≤ 100) {v8 v9 v10 v11 v12 v13 v14 : Option D} :
    ∀ (n : Nat) (s : List Nat) (acc : List Nat) (v7 : Option D) (m : Nat), s.sum = n → leC s cs → n + acc.length ≤ 1000 → ∃ v7' s', whileL (evT t_best_packing (.bl (.cmp .isNot (.ix (.dget (.var 5) (.var 4)) (.con (.int 2))) (.con .non)))) (evSs t_best_packing l_best_packing_1) (n + 1 + m) (benv gv rd fd r (cD s) M.length (M.length + 1) v7 v8 v9 v10 v11 v12 v13 v14) (M ++ [.dct false kvs, ltI acc]) =
      some (.ok (.nx (benv gv rd fd r s' M.length (M.length + 1) v7' v8 v9 v10 v11 v12 v13 v14)), M ++ [.dct false kvs, ltI (acc ++ chain r zs n s)])
  | 0, s, acc, v7, m, hn, hs, ha => by
    have e1 := dget_at (M := M ++ [.dct false kvs, ltI acc]) (n := M.length) (fz := false) get_new (hg s hs)
    rw [V_zero hn] at e1
    refine ⟨v7, cD s, ?_⟩
    have t0 : evT t_best_packing (.bl (.cmp .isNot (.ix (.dget (.var 5) (.var 4)) (.con (.int 2))) (.con .non))) (benv gv rd fd r (cD s) M.length (M.length + 1) v7 v8 v9 v10 v11 v12 v13 v14) (M ++ [.dct false kvs, ltI acc]) = some (.ok false, M ++ [.dct false kvs, ltI acc]) := by
      generalize cD s = c at e1 ⊢
      simp [bnd_at, e1, tripD, kD']
    rw [show 0 + 1 + m = m + 1 by omega, whileL_false t0]
    show _ = some (Except.ok _, M ++ [O.dct false kvs, ltI (acc ++ [])])
    rw [List.append_nil]
  | n + 1, s, acc, v7, m, hn, hs, ha => by
    have hls := (leC_len hs).trans hl
    obtain ⟨k, z, q1, q2, q3, _⟩ := V_last (r := r) hls (by omega)
    have hk : k < s.length := by rw [hls]; exact (List.getElem?_eq_some_iff.mp q2).1
    have e1 := dget_at (M := M ++ [.dct false kvs, ltI acc]) (n := M.length) (fz := false) get_new (hg s hs)
    obtain ⟨v7', s', e⟩ := chain_walk (gv := gv) (rd := rd) (fd := fd) (M := M) hg hl hz (v8 := v8) (v9 := v9) (v10 := v10) (v11 := v11) (v12 := v12) (v13 := v13) (v14 := v14) n (dec s k) (acc ++ [k]) (some (.int (k : Int))) m (by have := dec_sum q3; omega) (leC_dec hs q3) (by simp; omega)
    have tr : tripD (V r zs s) = .tup [.int (V r zs s).1, .int (V r zs s).2.1, .int (k : Int)] := by unfold tripD; rw [q1]; rfl
    rw [tr] at e1
    have hno : cmpD .isNot (.int (k : Int)) .non = DL.ret (.bl true) := isNot_int
    have t1 : evT t_best_packing (.bl (.cmp .isNot (.ix (.dget (.var 5) (.var 4)) (.con (.int 2))) (.con .non))) (benv gv rd fd r (cD s) M.length (M.length + 1) v7 v8 v9 v10 v11 v12 v13 v14) (M ++ [.dct false kvs, ltI acc]) = some (.ok true, M ++ [.dct false kvs, ltI acc]) := by
      generalize cD s = c at e1 ⊢
      simp [bnd_at, e1]
    have lo := less_one_eq (s := s) (i := k) hk q3 (by omega)
    have fz : frzR (DL.ret (cD (dec s k))) = DL.ret (cD (dec s k)) := frz_ret (cls_c _)
    have g1 : (M ++ [O.dct false kvs, ltI acc])[M.length + 1]? = some (ltI acc) := by
      rw [List.getElem?_append_right (by omega)]
      simp
    have ap : bmeth .append (.ref (M.length + 1)) [.int (k : Int)] (M ++ [.dct false kvs, ltI acc]) = some (.ok .non, M ++ [.dct false kvs, ltI (acc ++ [k])]) := by
      rw [append_ref, g1]
      dsimp only
      rw [if_pos (by rw [sizeLine_eq, List.length_map]; omega), List.set_append_right _ _ (by omega), Nat.add_sub_cancel_left]
      simp [ltI]
    have ty : tyChk "list" (.ref (M.length + 1)) (M ++ [.dct false kvs, ltI acc]) = some (.ok (), M ++ [.dct false kvs, ltI acc]) := by
      rw [tyChk_ref, g1]
      rfl
    have b1 : evSs t_best_packing l_best_packing_1 (benv gv rd fd r (cD s) M.length (M.length + 1) v7 v8 v9 v10 v11 v12 v13 v14) (M ++ [.dct false kvs, ltI acc]) = some (.ok (.nx (benv gv rd fd r (cD (dec s k)) M.length (M.length + 1) (some (.int (k : Int))) v8 v9 v10 v11 v12 v13 v14)), M ++ [.dct false kvs, ltI (acc ++ [k])]) := by
      generalize cD s = c at e1 lo ⊢
      generalize cD (dec s k) = c2 at lo fz ⊢
      generalize ltI acc = la at *
      generalize ltI (acc ++ [k]) = lb at *
      simp [l_best_packing_1, bnd_at, e1, lo, fz, ap, ty]
    refine ⟨v7', s', ?_⟩
    rw [show n + 1 + 1 + m = (n + 1 + m) + 1 by omega, whileL_true t1 b1, e]
    have : chain r zs (n + 1) s = k :: chain r zs n (dec s k) := by
      show (match (V r zs s).2.2 with | none => [] | some k => k :: chain r zs n (dec s k)) = _
      rw [q1]
    rw [this, List.append_assoc]
    rfl
end K
end
section
set_option Elab.async false
set_option linter.all false
set_option maxRecDepth 100000
set_option maxHeartbeats 4000000
/-! best_packing: the items that wait, and the boxes -/
namespace K
open PySem DL
/-- what a turn over the numbered row gives -/
def plF (t : Str) : D → Option D
  | .tup [.int i, .str x] => if x == t then some (.int i) else none
  | _ => none
theorem places_fm (t : Str) : ∀ (row : List Str) (k : Nat), (numbered k (row.map D.str)).filterMap (plF t) = (places t k row).map fun (i : Nat) => D.int i
  | [], _ => rfl
  | x :: row, k => by
    have ih := places_fm t row (k + 1)
    have e : numbered k ((x :: row).map D.str) = .tup [.int (k : Int), .str x] :: numbered (k + 1) (row.map D.str) := rfl
    rw [e, places_cons]
    by_cases hx : (x == t) = true
    · rw [if_pos hx, List.filterMap_cons_some (b := D.int (k : Int)) (by show (if x == t then some (D.int (k : Int)) else none) = _; rw [if_pos hx]), ih]
      rfl
    · rw [if_neg hx, List.filterMap_cons_none (by show (if x == t then some (D.int (k : Int)) else none) = _; rw [if_neg hx]), ih]
theorem places_comp {t : Str} {row : List Str} (hl : row.length ≤ 1000) (ht : PyData.strOk t = true) (hr : ∀ x ∈ row, PyData.strOk x = true) {v0 v2 v3 v4 v5 v6 v7 v8 v9 v10 v12 v13 v14 : Option D} :
    evE t_best_packing e_best_packing_3 [v0, some (rowD row), v2, v3, v4, v5, v6, v7, v8, v9, v10, some (.str t), v12, v13, v14] = new (ltI (places t 0 row)) := by
  have c := evE_comp_fm (T := t_best_packing) (it := .enum (.var 1)) (g := .tup (.cons (.nm 13) (.cons (.nm 12) (.nil)))) (tt := .bl (.cmp .eq (.var 12) (.var 11))) (e := e_best_packing_2) (own := [13, 12]) (env := [v0, some (rowD row), v2, v3, v4, v5, v6, v7, v8, v9, v10, some (.str t), v12, v13, v14]) (ds := numbered 0 (row.map D.str)) (plF t) (by simp) (by rw [numbered_len, List.length_map]; omega) (by
    intro d hd
    obtain ⟨i, hi⟩ := List.mem_iff_getElem?.mp hd
    rw [numbered_get, List.getElem?_map] at hi
    cases hx : row[i]? with
    | none => rw [hx] at hi; cases hi
    | some x =>
      rw [hx] at hi
      cases hi
      have hm := hr x (List.mem_of_getElem? hx)
      have eq := eq_str hm ht
      by_cases hxt : (x == t) = true
      · simp [turnL, wipeE, e_best_packing_2, eq, plF, hxt, -beq_iff_eq]
      · simp [turnL, wipeE, e_best_packing_2, eq, plF, hxt, -beq_iff_eq])
  rw [places_fm] at c
  exact c
/-- the comprehension of comprehensions: the outer list, and one list for each name -/
theorem waits_go {turn : D → R (Option D)} {names : List Str} {f : Str → List Nat} (ht : ∀ t ∈ names, ∀ M, turn (.str t) M = some (.ok (some (.ref M.length)), M ++ [ltI (f t)])) (M : Mem) : ∀ (xs ys : List Str), ys ++ xs = names → names.length ≤ 1000 →
    compL none M.length turn (xs.map D.str) (M ++ .lst (refs (M.length + 1) ys.length) :: ys.map fun t => ltI (f t)) = some (.ok (), M ++ .lst (refs (M.length + 1) names.length) :: names.map fun t => ltI (f t))
  | [], ys, e, _ => by
    rw [List.append_nil] at e
    subst e
    rfl
  | x :: xs, ys, e, hl => by
    have ih := waits_go ht M xs (ys ++ [x]) (by rw [← e]; simp) hl
    have hx : x ∈ names := by rw [← e]; simp
    have hyl : ys.length ≤ 1000 := by rw [← e] at hl; simp at hl; omega
    have e1 := ht x hx (M ++ .lst (refs (M.length + 1) ys.length) :: ys.map fun t => ltI (f t))
    have ln : (M ++ O.lst (refs (M.length + 1) ys.length) :: ys.map fun t => ltI (f t)).length = M.length + 1 + ys.length := by simp; omega
    rw [ln] at e1
    rw [List.map_cons]
    show bnd (turn (.str x)) _ _ = _
    rw [bnd_ok e1]
    dsimp only
    have hp : push M.length (.ref (M.length + 1 + ys.length)) (M ++ .lst (refs (M.length + 1) ys.length) :: (ys.map (fun t => ltI (f t))) ++ [ltI (f x)]) = some (.ok (), M ++ .lst (refs (M.length + 1) (ys ++ [x]).length) :: (ys ++ [x]).map fun t => ltI (f t)) := by
      unfold push
      rw [List.append_assoc, List.cons_append, get_new]
      dsimp only
      rw [if_pos (by rw [sizeLine_eq, List.length_map, List.length_range']; omega), set_mid, refs_succ]
      simp
    rw [bnd_ok hp]
    exact ih
theorem waits_comp {names row : List Str} (hn : names.length ≤ 1000) (hl : row.length ≤ 1000) (ht : ∀ t ∈ names, PyData.strOk t = true) (hr : ∀ x ∈ row, PyData.strOk x = true) {gv : D} (hgv : frzR (getAt t_best_packing gv "names") = DL.ret (.tup (names.map D.str))) {v2 v3 v4 v5 v6 v7 v8 v9 v10 v11 v12 v13 v14 : Option D} (M : Mem) :
    evE t_best_packing (.comp (.of (.frz (.attr (.var 0) "names"))) (.nm 11) (.yes) e_best_packing_3 [11]) [some gv, some (rowD row), v2, v3, v4, v5, v6, v7, v8, v9, v10, v11, v12, v13, v14] M = some (.ok (.ref M.length), M ++ .lst (refs (M.length + 1) names.length) :: (names.map (fun t => places t 0 row)).map ltI) := by
  have hi : evI t_best_packing (.of (.frz (.attr (.var 0) "names"))) [some gv, some (rowD row), v2, v3, v4, v5, v6, v7, v8, v9, v10, v11, v12, v13, v14] = DL.ret (names.map D.str, none) := by
    rw [evI_of, evE_frz, evE_attr, evE_var, getVar_0, bnd_ret, hgv, bnd_ret, items_tup]
  rw [evE_comp, hi, bnd_ret]
  show bnd (compL none M.length (turnL t_best_packing (.nm 11) .yes e_best_packing_3 [11] [some gv, some (rowD row), v2, v3, v4, v5, v6, v7, v8, v9, v10, v11, v12, v13, v14]) (names.map D.str)) (fun _ => DL.ret (D.ref M.length)) (M ++ [O.lst []]) = _
  have go := waits_go (turn := turnL t_best_packing (.nm 11) .yes e_best_packing_3 [11] [some gv, some (rowD row), v2, v3, v4, v5, v6, v7, v8, v9, v10, v11, v12, v13, v14]) (names := names) (f := fun t => places t 0 row) (by
    intro t htm N
    have pc := places_comp (t := t) hl (ht t htm) hr (v0 := some gv) (v2 := v2) (v3 := v3) (v4 := v4) (v5 := v5) (v6 := v6) (v7 := v7) (v8 := v8) (v9 := v9) (v10 := v10) (v12 := v12) (v13 := v13) (v14 := v14)
    unfold turnL
    simp only [wipeE, evG_nm, List.set, evT_yes]
    rw [bnd_ret, bnd_ret, if_pos rfl, pc]
    rfl) M names [] rfl hn
  have go : compL none M.length (turnL t_best_packing (.nm 11) .yes e_best_packing_3 [11] [some gv, some (rowD row), v2, v3, v4, v5, v6, v7, v8, v9, v10, v11, v12, v13, v14]) (names.map D.str) (M ++ [O.lst []]) = some (.ok (), M ++ .lst (refs (M.length + 1) names.length) :: names.map fun t => ltI (places t 0 row)) := go
  rw [bnd_ok go]
  show some (Except.ok (D.ref M.length), _) = _
  rw [List.map_map]
  rfl
/-! the boxes -/
/-- the store: what stood before, the lists that wait, the list of the boxes, the boxes -/
abbrev bmem (A : Mem) (st : BP) : Mem := A ++ (st.Ws.map ltI ++ .lst (refs (A.length + st.Ws.length + 1) st.Bs.length) :: st.Bs.map ltI)
abbrev kenv (gv rd fd : D) (r : Int) (s : D) (d o : Nat) (v7 : Option D) (w p : Nat) (f : Int) (v11 v12 v13 v14 : Option D) : DL.Env := benv gv rd fd r s d o v7 (some (.ref w)) (some (.ref p)) (some (.int f)) v11 v12 v13 v14
theorem getP {A : Mem} {Ws Bs : List (List Nat)} {o : O} {l : List O} : (A ++ (Ws.map ltI ++ o :: l))[A.length + Ws.length]? = some o := by
  rw [List.getElem?_append_right (by omega), Nat.add_sub_cancel_left, List.getElem?_append_right (by rw [List.length_map]; omega), List.length_map, Nat.sub_self]
  rfl
theorem setP {A : Mem} {Ws : List (List Nat)} {o x : O} {l : List O} : (A ++ (Ws.map ltI ++ o :: l)).set (A.length + Ws.length) x = A ++ (Ws.map ltI ++ x :: l) := by
  rw [List.set_append_right _ _ (by omega), Nat.add_sub_cancel_left, List.set_append_right _ _ (by rw [List.length_map]; omega), List.length_map, Nat.sub_self]
  rfl
theorem getB {A : Mem} {Ws Bs : List (List Nat)} {o : O} {b : List Nat} : (A ++ (Ws.map ltI ++ o :: (Bs ++ [b]).map ltI))[A.length + Ws.length + 1 + Bs.length]? = some (ltI b) := by
  rw [List.getElem?_append_right (by omega), List.getElem?_append_right (by rw [List.length_map]; omega), List.length_map]
  rw [show A.length + Ws.length + 1 + Bs.length - A.length - Ws.length = Bs.length + 1 by omega, List.getElem?_cons_succ, List.map_append, List.getElem?_append_right (by rw [List.length_map]; omega), List.length_map, Nat.sub_self]
  rfl
theorem setB {A : Mem} {Ws Bs : List (List Nat)} {o : O} {b c : List Nat} : (A ++ (Ws.map ltI ++ o :: (Bs ++ [b]).map ltI)).set (A.length + Ws.length + 1 + Bs.length) (ltI c) = A ++ (Ws.map ltI ++ o :: (Bs ++ [c]).map ltI) := by
  rw [List.set_append_right _ _ (by omega), List.set_append_right _ _ (by rw [List.length_map]; omega), List.length_map]
  rw [show A.length + Ws.length + 1 + Bs.length - A.length - Ws.length = Bs.length + 1 by omega, List.set_cons_succ, List.map_append, List.set_append_right _ _ (by rw [List.length_map]; omega), List.length_map, Nat.sub_self]
  rw [List.map_append]
  rfl
end K
end
section
set_option Elab.async false
set_option linter.all false
set_option maxRecDepth 100000
set_option maxHeartbeats 4000000
/-! best_packing: one item more -/
namespace K
open PySem DL
theorem pop_ref {M : Mem} {n : Nat} {w : List Nat} {i : Nat} (h : M[n]? = some (ltI (w ++ [i]))) : bmeth .pop (.ref n) [] M = some (.ok (.int (i : Int)), M.set n (ltI w)) := by
  unfold bmeth popM
  dsimp only
  rw [h]
  dsimp only
  have e : ((w ++ [i]).map fun (i : Nat) => D.int i) = (w.map fun (i : Nat) => D.int i) ++ [.int (i : Int)] := by simp
  rw [e]
  have g : ((w.map fun (i : Nat) => D.int i) ++ [D.int (i : Int)])[((w.map fun (i : Nat) => D.int i) ++ [D.int (i : Int)]).length - 1]? = some (.int (i : Int)) := by
    rw [List.length_append, List.length_singleton, Nat.add_sub_cancel, List.getElem?_append_right (Nat.le_refl _), Nat.sub_self]
    rfl
  rw [g]
  dsimp only
  rw [List.dropLast_concat]
theorem app_ref {M : Mem} {n : Nat} {w : List Nat} {i : Nat} (h : M[n]? = some (ltI w)) (hl : w.length ≤ 1000) : bmeth .append (.ref n) [.int (i : Int)] M = some (.ok .non, M.set n (ltI (w ++ [i]))) := by
  rw [append_ref, h]
  dsimp only
  rw [if_pos (by rw [sizeLine_eq, List.length_map]; omega)]
  simp [ltI]
theorem tyL {M : Mem} {n : Nat} {ds : List D} (h : M[n]? = some (.lst ds)) : tyChk "list" (.ref n) M = some (.ok (), M) := by
  rw [tyChk_ref, h]
  rfl
theorem ixL {M : Mem} {n : Nat} {ds : List D} {k : Int} {d : D} (h : M[n]? = some (.lst ds)) (e : L2.atI ds k = some d) : getIx (.ref n) (.int k) M = some (.ok d, M) := by
  rw [ix_ref, h]
  dsimp only
  rw [e]
theorem bmTy_pop : bmTy .pop = "list" := rfl
theorem box_turn {A : Mem} {r : Int} {zs : List Int} {gv rd fd s : D} {d o w0 nW : Nat} {a b : BP} {k : Nat} (hs : BStep r zs a k b) (hgv : frzR (getAt t_best_packing gv "sizes") = DL.ret (.tup (zs.map D.int)))
    (hw : A[w0]? = some (.lst (refs A.length nW))) (hn : a.Ws.length = nW) (hB : a.Bs.length ≤ 1000) (hb : ∀ c ∈ a.Bs, c.length ≤ 1000) {v7 v11 v12 v13 v14 : Option D} :
    bodyF t_best_packing (.nm 7) l_best_packing_4 (.int (k : Int)) (kenv gv rd fd r s d o v7 w0 (A.length + nW) a.fill v11 v12 v13 v14) (bmem A a) = some (.ok (.nx (kenv gv rd fd r s d o (some (.int (k : Int))) w0 (A.length + nW) b.fill v11 v12 v13 v14)), bmem A b) := by
  subst hn
  have wlt := (List.getElem?_eq_some_iff.mp hw).1
  have gtl : ∀ C : Mem, (A ++ C)[w0]? = some (.lst (refs A.length a.Ws.length)) := fun C => get_app hw C
  cases hs with
  | @put Bs c fill Ws k z w i hz hwk hf =>
    have hk := (List.getElem?_eq_some_iff.mp hwk).1
    have sz : getIx (.tup (zs.map D.int)) (.int (k : Int)) = DL.ret (.int z) := by
      have hkz := (List.getElem?_eq_some_iff.mp hz).1
      refine ix_tupE ?_
      rw [at_natB hkz]
      rw [(List.getElem?_eq_some_iff.mp hz).2]
    have hlast : (Bs ++ [c]).length = Bs.length + 1 := by simp
    have p1 := ixL (M := bmem A ⟨Bs ++ [c], fill, Ws⟩) (n := A.length + Ws.length) (getP (Bs := Bs)) (by rw [hlast]; exact refs_last)
    have p2 := tyL (M := bmem A ⟨Bs ++ [c], fill, Ws⟩) (n := A.length + Ws.length + 1 + Bs.length) getB
    have p3 := ixL (M := bmem A ⟨Bs ++ [c], fill, Ws⟩) (n := w0) (gtl _) (refs_at hk)
    have g4 : (bmem A ⟨Bs ++ [c], fill, Ws⟩)[A.length + k]? = some (ltI (w ++ [i])) := get_mid hwk
    have p4 := tyL g4
    have p5 := pop_ref g4
    have e5 : (bmem A ⟨Bs ++ [c], fill, Ws⟩).set (A.length + k) (ltI w) = A ++ ((Ws.set k w).map ltI ++ .lst (refs (A.length + Ws.length + 1) (Bs ++ [c]).length) :: (Bs ++ [c]).map ltI) := set_midW hk
    rw [e5] at p5
    have p6 := app_ref (M := A ++ ((Ws.set k w).map ltI ++ .lst (refs (A.length + Ws.length + 1) (Bs ++ [c]).length) :: (Bs ++ [c]).map ltI)) (n := A.length + Ws.length + 1 + Bs.length) (w := c) (i := i) (by
      have := getB (A := A) (Ws := Ws.set k w) (Bs := Bs) (o := .lst (refs (A.length + Ws.length + 1) (Bs ++ [c]).length)) (b := c)
      rw [List.length_set] at this
      exact this) (hb c (by simp))
    have e6 := setB (A := A) (Ws := Ws.set k w) (Bs := Bs) (o := .lst (refs (A.length + Ws.length + 1) (Bs ++ [c]).length)) (b := c) (c := c ++ [i])
    rw [List.length_set] at e6
    rw [e6] at p6
    have e7 : bmem A ⟨Bs ++ [c ++ [i]], fill + z, Ws.set k w⟩ = A ++ ((Ws.set k w).map ltI ++ .lst (refs (A.length + Ws.length + 1) (Bs ++ [c]).length) :: (Bs ++ [c ++ [i]]).map ltI) := by
      unfold bmem
      simp only [List.length_set, List.length_append, List.length_singleton]
    rw [e7]
    have hf' : ¬ r < fill + z := by omega
    simp only at p1 p2 p3 p4 p5 p6 ⊢
    generalize bmem A ⟨Bs ++ [c], fill, Ws⟩ = MA at p1 p2 p3 p4 p5 ⊢
    generalize A ++ ((Ws.set k w).map ltI ++ .lst (refs (A.length + Ws.length + 1) (Bs ++ [c]).length) :: (Bs ++ [c]).map ltI) = MB at p5 p6
    generalize A ++ ((Ws.set k w).map ltI ++ .lst (refs (A.length + Ws.length + 1) (Bs ++ [c]).length) :: (Bs ++ [c ++ [i]]).map ltI) = MC at p6 ⊢
    simp [bodyF, l_best_packing_4, hgv, sz, bnd_at, hf', negD, p1, p2, p3, p4, p5, p6, bmTy_pop]
  | @new Bs fill Ws k z w i hz hwk hf =>
    have hk := (List.getElem?_eq_some_iff.mp hwk).1
    have sz : getIx (.tup (zs.map D.int)) (.int (k : Int)) = DL.ret (.int z) := by
      have hkz := (List.getElem?_eq_some_iff.mp hz).1
      refine ix_tupE ?_
      rw [at_natB hkz]
      rw [(List.getElem?_eq_some_iff.mp hz).2]
    -- the new box
    have lM : (bmem A ⟨Bs, fill, Ws⟩).length = A.length + Ws.length + 1 + Bs.length := by simp [bmem]; omega
    have n1 : lstD [] (bmem A ⟨Bs, fill, Ws⟩) = some (.ok (.ref (A.length + Ws.length + 1 + Bs.length)), A ++ (Ws.map ltI ++ .lst (refs (A.length + Ws.length + 1) Bs.length) :: (Bs ++ [[]]).map ltI)) := by
      show some (Except.ok (D.ref (bmem A ⟨Bs, fill, Ws⟩).length), bmem A ⟨Bs, fill, Ws⟩ ++ [O.lst []]) = _
      rw [lM]
      unfold bmem
      simp
    have q2 : bmeth .append (.ref (A.length + Ws.length)) [.ref (A.length + Ws.length + 1 + Bs.length)] (A ++ (Ws.map ltI ++ .lst (refs (A.length + Ws.length + 1) Bs.length) :: (Bs ++ [[]]).map ltI)) = some (.ok .non, A ++ (Ws.map ltI ++ .lst (refs (A.length + Ws.length + 1) (Bs.length + 1)) :: (Bs ++ [[]]).map ltI)) := by
      rw [append_ref, getP (Bs := Bs)]
      dsimp only
      rw [if_pos (by rw [sizeLine_eq, List.length_map, List.length_range']; have : Bs.length ≤ 1000 := hB; omega), setP, refs_succ]
    have q1 := tyL (M := bmem A ⟨Bs, fill, Ws⟩) (n := A.length + Ws.length) (getP (Bs := Bs))
    generalize hN : A ++ (Ws.map ltI ++ .lst (refs (A.length + Ws.length + 1) (Bs.length + 1)) :: (Bs ++ [[]]).map ltI) = N at q2
    have p1 := ixL (M := N) (n := A.length + Ws.length) (k := -1) (ds := refs (A.length + Ws.length + 1) (Bs.length + 1)) (by rw [← hN]; exact getP (Bs := Bs)) refs_last
    have p2 := tyL (M := N) (n := A.length + Ws.length + 1 + Bs.length) (ds := []) (by rw [← hN]; exact getB (b := []))
    have p3 := ixL (M := N) (n := w0) (by rw [← hN]; exact gtl _) (refs_at hk)
    have g4 : N[A.length + k]? = some (ltI (w ++ [i])) := by rw [← hN]; exact get_mid hwk
    have p4 := tyL g4
    have p5 := pop_ref g4
    have e5 : N.set (A.length + k) (ltI w) = A ++ ((Ws.set k w).map ltI ++ .lst (refs (A.length + Ws.length + 1) (Bs.length + 1)) :: (Bs ++ [[]]).map ltI) := by rw [← hN]; exact set_midW hk
    rw [e5] at p5
    have p6 := app_ref (M := A ++ ((Ws.set k w).map ltI ++ .lst (refs (A.length + Ws.length + 1) (Bs.length + 1)) :: (Bs ++ [[]]).map ltI)) (n := A.length + Ws.length + 1 + Bs.length) (w := []) (i := i) (by
      have := getB (A := A) (Ws := Ws.set k w) (Bs := Bs) (o := .lst (refs (A.length + Ws.length + 1) (Bs.length + 1))) (b := [])
      rw [List.length_set] at this
      exact this) (by simp)
    have e6 := setB (A := A) (Ws := Ws.set k w) (Bs := Bs) (o := .lst (refs (A.length + Ws.length + 1) (Bs.length + 1))) (b := []) (c := [] ++ [i])
    rw [List.length_set] at e6
    rw [e6] at p6
    have e7 : bmem A ⟨Bs ++ [[i]], z, Ws.set k w⟩ = A ++ ((Ws.set k w).map ltI ++ .lst (refs (A.length + Ws.length + 1) (Bs.length + 1)) :: (Bs ++ [[] ++ [i]]).map ltI) := by
      unfold bmem
      simp only [List.length_set, List.length_append, List.length_singleton, List.nil_append]
    rw [e7]
    simp only at p1 p2 p3 p4 p5 p6 q1 ⊢
    generalize bmem A ⟨Bs, fill, Ws⟩ = MA at q1 n1 ⊢
    generalize A ++ (Ws.map ltI ++ .lst (refs (A.length + Ws.length + 1) Bs.length) :: (Bs ++ [[]]).map ltI) = MZ at n1 q2
    generalize A ++ ((Ws.set k w).map ltI ++ .lst (refs (A.length + Ws.length + 1) (Bs.length + 1)) :: (Bs ++ [[]]).map ltI) = MB at p5 p6
    generalize A ++ ((Ws.set k w).map ltI ++ .lst (refs (A.length + Ws.length + 1) (Bs.length + 1)) :: (Bs ++ [[] ++ [i]]).map ltI) = MC at p6 ⊢
    simp [bodyF, l_best_packing_4, hgv, sz, bnd_at, hf, negD, q1, n1, q2, p1, p2, p3, p4, p5, p6, bmTy_pop]
end K
end
section
set_option Elab.async false
set_option linter.all false
set_option maxRecDepth 100000
set_option maxHeartbeats 4000000
/-! best_packing: all of it -/
namespace K
open PySem DL
abbrev natI (b : List Nat) : List Int := b.map fun (i : Nat) => (i : Int)
abbrev boxT (b : List Nat) : D := .tup ((sortInts (natI b)).map D.int)
theorem ltI_ints (b : List Nat) : (b.map fun (i : Nat) => D.int i) = (natI b).map D.int := by rw [List.map_map]; rfl
theorem Runs.len {r : Int} {zs : List Int} {a b : BP} {l : List Nat} (h : Runs r zs a l b) : b.Ws.length = a.Ws.length := by
  induction h with
  | nil => rfl
  | cons h _ ih => rw [ih]; cases h <;> simp
theorem BStep.grow {r : Int} {zs : List Int} {a b : BP} {k n : Nat} (h : BStep r zs a k b) (h1 : a.Bs.length ≤ n) (h2 : ∀ c ∈ a.Bs, c.length ≤ n) : b.Bs.length ≤ n + 1 ∧ ∀ c ∈ b.Bs, c.length ≤ n + 1 := by
  cases h with
  | new _ _ _ =>
    refine ⟨by simp only [List.length_append, List.length_singleton] at h1 ⊢; omega, fun c hc => ?_⟩
    rcases List.mem_append.mp hc with hc | hc
    · have := h2 c hc; omega
    · rw [List.mem_singleton.mp hc]; simp
  | put _ _ _ =>
    refine ⟨by simp only [List.length_append, List.length_singleton] at h1 ⊢; omega, fun c hc => ?_⟩
    rcases List.mem_append.mp hc with hc | hc
    · have := h2 c (List.mem_append_left _ hc); omega
    · rw [List.mem_singleton.mp hc]
      have := h2 _ (List.mem_append_right _ List.mem_cons_self)
      simp only [List.length_append, List.length_singleton]
      omega
theorem box_loop {A : Mem} {r : Int} {zs : List Int} {gv rd fd s : D} {d o w0 nW : Nat} (hgv : frzR (getAt t_best_packing gv "sizes") = DL.ret (.tup (zs.map D.int)))
    (hw : A[w0]? = some (.lst (refs A.length nW))) {v11 v12 v13 v14 : Option D} {a b : BP} {l : List Nat} (h : Runs r zs a l b) : ∀ (n : Nat) (v7 : Option D), a.Ws.length = nW → a.Bs.length ≤ n → (∀ c ∈ a.Bs, c.length ≤ n) → n + l.length ≤ 1000 →
    ∃ v7', forL none (bodyF t_best_packing (.nm 7) l_best_packing_4) (l.map fun (k : Nat) => D.int k) (kenv gv rd fd r s d o v7 w0 (A.length + nW) a.fill v11 v12 v13 v14) (bmem A a) = some (.ok (.nx (kenv gv rd fd r s d o v7' w0 (A.length + nW) b.fill v11 v12 v13 v14)), bmem A b) := by
  induction h with
  | nil => exact fun n v7 _ _ _ _ => ⟨v7, rfl⟩
  | @cons a b c k l h t ih =>
    intro n v7 hn h1 h2 h3
    rw [List.length_cons] at h3
    have e := box_turn (gv := gv) (rd := rd) (fd := fd) (s := s) (d := d) (o := o) h hgv hw hn (by omega) (fun c hc => by have := h2 c hc; omega) (v7 := v7) (v11 := v11) (v12 := v12) (v13 := v13) (v14 := v14)
    obtain ⟨g1, g2⟩ := h.grow h1 h2
    obtain ⟨v7', e2⟩ := ih (n + 1) (some (.int (k : Int))) (by have := (Runs.cons h Runs.nil).len; omega) g1 g2 (by omega)
    refine ⟨v7', ?_⟩
    rw [List.map_cons]
    exact (forL_step rfl e).trans e2
theorem sorted_box {M : Mem} {n : Nat} {b : List Nat} (h : M[n]? = some (ltI b)) (hb : b ≠ []) : frzR (bnd (bfun .sorted [.ref n]) fun x => bfun .tuple [x]) M = some (.ok (boxT b), M) := by
  have hs : strsOf ((natI b).map D.int) = none := by
    cases b with
    | nil => exact absurd rfl hb
    | cons a b => rfl
  have h' : M[n]? = some (.lst ((natI b).map D.int)) := by rw [← ltI_ints]; exact h
  have e1 := sortedI_at h' hs
  refine frz_ext (d := boxT b) (M' := M ++ [.lst ((sortInts (natI b)).map D.int)]) ?_ (Ext.add _ _) (frD_cl (by rw [cl_tup]; exact cls_ints _) _)
  rw [bnd_ok e1]
  exact tuple_at get_new
theorem boxes_go {g : Option (Nat × List D)} {turn : D → R (Option D)} {N : Mem} {α : Type} (a b : α → D) (hg : ∀ acc, chk g (N ++ [.lst acc]) = some (.ok (), N ++ [.lst acc])) : ∀ (xs : List α) (acc : List D), acc.length + xs.length ≤ 1000 → (∀ x ∈ xs, ∀ acc, turn (a x) (N ++ [.lst acc]) = some (.ok (some (b x)), N ++ [.lst acc])) →
    compL g N.length turn (xs.map a) (N ++ [.lst acc]) = some (.ok (), N ++ [.lst (acc ++ xs.map b)])
  | [], acc, _, _ => by
    show chk g _ = _
    rw [hg]
    simp
  | x :: xs, acc, hz, ht => by
    rw [List.map_cons]
    show bnd (chk g) _ _ = _
    rw [bnd_ok (hg acc), bnd_ok (ht x List.mem_cons_self acc)]
    dsimp only
    have hp : push N.length (b x) (N ++ [.lst acc]) = some (.ok (), N ++ [.lst (acc ++ [b x])]) := by
      unfold push
      rw [get_new]
      dsimp only
      rw [if_pos (by rw [sizeLine_eq]; simp only [List.length_cons] at hz; omega), set_mid]
    rw [bnd_ok hp, boxes_go a b hg xs (acc ++ [b x]) (by simp only [List.length_append, List.length_cons, List.length_nil] at hz ⊢; omega) fun y hy => ht y (List.mem_cons_of_mem _ hy)]
    simp
theorem last_comp {A : Mem} {st : BP} {v0 v1 v2 v3 v4 v5 v6 v7 v8 v10 v11 v12 v13 v14 : Option D} (hB : st.Bs.length ≤ 1000) (hb : ∀ b ∈ st.Bs, b ≠ []) :
    frzR (evE t_best_packing (.bcall .tuple (.cons (.comp (.of (.var 9)) (.nm 14) (.yes) e_best_packing_5 [14]) (.nil))) [v0, v1, v2, v3, v4, v5, v6, v7, v8, some (.ref (A.length + st.Ws.length)), v10, v11, v12, v13, v14]) (bmem A st) = some (.ok (.tup (st.Bs.map boxT)), bmem A st) := by
  have gp : (bmem A st)[A.length + st.Ws.length]? = some (.lst (refs (A.length + st.Ws.length + 1) st.Bs.length)) := getP (Bs := st.Bs)
  have gb : ∀ (j : Nat) (b : List Nat), st.Bs[j]? = some b → (bmem A st)[A.length + st.Ws.length + 1 + j]? = some (ltI b) := by
    intro j b hj
    unfold bmem
    rw [List.getElem?_append_right (by omega), List.getElem?_append_right (by rw [List.length_map]; omega), List.length_map]
    rw [show A.length + st.Ws.length + 1 + j - A.length - st.Ws.length = j + 1 by omega, List.getElem?_cons_succ, List.getElem?_map, hj]
    rfl
  generalize bmem A st = N at gp gb
  generalize A.length + st.Ws.length = P at gp gb
  have go := boxes_go (g := some (P, refs (P + 1) st.Bs.length)) (turn := turnL t_best_packing (.nm 14) .yes e_best_packing_5 [14] [v0, v1, v2, v3, v4, v5, v6, v7, v8, some (.ref P), v10, v11, v12, v13, v14]) (N := N) (fun j => D.ref (P + 1 + j)) (fun j => boxT (st.Bs.getD j [])) (fun acc => chk_ref (get_app gp _)) (List.range st.Bs.length) [] (by simp; omega) (by
    intro j hj acc
    have hj := List.mem_range.mp hj
    have hm : st.Bs[j]? = some st.Bs[j] := List.getElem?_eq_getElem hj
    have e := sorted_box (M := N ++ [.lst acc]) (get_app (gb j _ hm) _) (hb _ (List.getElem_mem hj))
    have gd : st.Bs.getD j [] = st.Bs[j] := by rw [List.getD_eq_getElem?_getD, hm]; rfl
    rw [gd]
    generalize boxT st.Bs[j] = bt at e ⊢
    simp [turnL, wipeE, e_best_packing_5, bnd_at, e])
  have e1 : (List.range st.Bs.length).map (fun j => D.ref (P + 1 + j)) = refs (P + 1) st.Bs.length := by
    unfold refs
    rw [List.range'_eq_map_range, List.map_map]
    rfl
  have e2 : (List.range st.Bs.length).map (fun j => boxT (st.Bs.getD j [])) = st.Bs.map boxT := by
    refine List.ext_getElem? fun j => ?_
    rw [List.getElem?_map, List.getElem?_map]
    by_cases hj : j < st.Bs.length
    · rw [List.getElem?_range hj, List.getElem?_eq_getElem hj]
      show some (boxT (st.Bs.getD j [])) = some (boxT st.Bs[j])
      rw [List.getD_eq_getElem?_getD, List.getElem?_eq_getElem hj]
      rfl
    · rw [List.getElem?_eq_none (by rw [List.length_range]; omega), List.getElem?_eq_none (by omega)]
      rfl
  rw [e1, e2, List.nil_append] at go
  have cl : D.cls (st.Bs.map boxT) = true := cls_map fun b _ => by rw [cl_tup]; exact cls_ints _
  refine frz_ext (d := .tup (st.Bs.map boxT)) (M' := N ++ [.lst (st.Bs.map boxT)]) ?_ (Ext.add _ _) (frD_cl (by rw [cl_tup]; exact cl) _)
  have it := items_at gp
  have tp := tuple_at (M := N ++ [.lst (st.Bs.map boxT)]) (m := N.length) (ds := st.Bs.map boxT) get_new
  generalize st.Bs.map boxT = TB at *
  simp [bnd_at, it, go, tp]
end K
end
section
set_option Elab.async false
set_option linter.all false
set_option maxRecDepth 100000
set_option maxHeartbeats 4000000
namespace K
open PySem DL
theorem evS_whileE {T : Tab} {t : CT} {b : CSs} {env : DL.Env} : evS T (.whileS t b) env = whileL (evT T t) (evSs T b) T.fuel env := by rw [evS]
theorem flat_len' (bs : List (List Nat)) (h : ∀ b ∈ bs, b ≠ []) : bs.length ≤ bs.flatten.length := by
  induction bs with
  | nil => simp
  | cons b bs ih =>
    have h1 := ih fun c hc => h c (List.mem_cons_of_mem _ hc)
    have h2 : 0 < b.length := List.length_pos_iff.mpr (h b List.mem_cons_self)
    rw [List.flatten_cons, List.length_append, List.length_cons]
    omega
theorem good_okS {w : Str} (g : GoodW w) : PyData.strOk w = true := Low.ok fun c hc => by
  have h : ∀ c ∈ LET, c < 256 := by decide +kernel
  have h2 : ∀ c ∈ DIG, c < 256 := by decide +kernel
  rcases g.al c hc with q | q
  · exact h c q
  · exact h2 c q
theorem cnts_sum {ps : List (Str × Int)} (hn : (ps.map (·.1)).Nodup) {its : List (Str × Int)} (h : ∀ q ∈ its, q ∈ ps) : (cnts ps (its.map (·.1))).sum = its.length := by
  have h1 := (exp_cnts hn its h).length_eq
  rw [List.length_map, exp_len (by unfold cnts; rw [List.length_map, List.length_map])] at h1
  exact h1.symm
theorem cnts_at {ps : List (Str × Int)} {row : List Str} {k : Nat} {p : Str × Int} (h : ps[k]? = some p) : (cnts ps row).getD k 0 = row.count p.1 := by
  unfold cnts
  rw [List.getD_eq_getElem?_getD, List.getElem?_map, h]
  rfl
theorem chain_len {r : Int} {zs : List Int} : ∀ (n : Nat) (s : List Nat), (chain r zs n s).length ≤ n
  | 0, _ => Nat.le_refl _
  | n + 1, s => by
    show (match (V r zs s).2.2 with | none => [] | some k => k :: chain r zs n (dec s k)).length ≤ n + 1
    split
    · simp
    · rw [List.length_cons]
      exact Nat.succ_le_succ (chain_len n _)
/-- the packing of these items -/
theorem packing_of {wide r low : Int} {ps : List (Str × Int)} (K : Kinds wide ps) (hr : ∀ p ∈ ps, p.2 ≤ r) {its : List (Str × Int)} (hi : ∀ q ∈ its, q ∈ ps) :
    ∃ st, Runs r (ps.map (·.2)) ⟨[], r, (ps.map (·.1)).map fun t => places t 0 (its.map (·.1))⟩ (chain r (ps.map (·.2)) its.length (cnts ps (its.map (·.1)))).reverse st ∧ (st.Bs.length : Int) = (V r (ps.map (·.2)) (cnts ps (its.map (·.1)))).1 ∧ st.Bs.flatten.Perm (List.range its.length) ∧ ∀ b ∈ st.Bs, b ≠ [] ∧ (b.map fun i => (its.map (·.2)).getD i 0).sum ≤ r := by
  have hn := rise_nodup K.rise
  obtain ⟨st, R, I⟩ := chain_run (r := r) (zs := ps.map (·.2)) (sz := fun i => (its.map (·.2)).getD i 0) (n0 := fun k => (cnts ps (its.map (·.1))).getD k 0) (all := List.range its.length) (W0 := (ps.map (·.1)).map fun t => places t 0 (its.map (·.1)))
    (fun z hz => by
      obtain ⟨p, hp, rfl⟩ := List.mem_map.mp hz
      exact ⟨(K.size p hp).1, hr p hp⟩)
    (by simp)
    (fun k w hw => by
      rw [List.getElem?_map, List.getElem?_map] at hw
      cases hp : ps[k]? with
      | none => rw [hp] at hw; cases hw
      | some p =>
        rw [hp] at hw
        cases hw
        show (places p.1 0 (its.map (·.1))).length = (cnts ps (its.map (·.1))).getD k 0
        rw [places_len, cnts_at hp])
    (fun k z w hz hw i hiw => by
      rw [List.getElem?_map, List.getElem?_map] at hw
      rw [List.getElem?_map] at hz
      cases hp : ps[k]? with
      | none => rw [hp] at hw; cases hw
      | some p =>
        rw [hp] at hw hz
        cases hw
        cases hz
        obtain ⟨j, e, hj⟩ := places_at _ _ _ _ hiw
        rw [Nat.zero_add] at e
        subst e
        rw [List.getElem?_map] at hj
        cases hq : its[i]? with
        | none => rw [hq] at hj; cases hj
        | some q =>
          rw [hq] at hj
          have e1 : q.1 = p.1 := Option.some.inj hj
          have hqm := hi q (List.mem_of_getElem? hq)
          have hpm := List.mem_of_getElem? hp
          show (its.map (·.2)).getD i 0 = p.2
          rw [List.getD_eq_getElem?_getD, List.getElem?_map, hq]
          show q.2 = p.2
          obtain ⟨a, ha⟩ := List.mem_iff_getElem?.mp hqm
          have h1 : (ps.map (·.1))[a]? = some q.1 := by rw [List.getElem?_map, ha]; rfl
          have h2 : (ps.map (·.1))[k]? = some q.1 := by rw [List.getElem?_map, hp, e1]; rfl
          have hak : a = k := (List.getElem?_inj (List.getElem?_eq_some_iff.mp h1).1 hn).mp (h1.trans h2.symm)
          rw [hak, hp] at ha
          cases ha
          rfl)
    (by
      have := places_flat hn (its.map (·.1)) 0 (fun x hx => by
        obtain ⟨q, hq, rfl⟩ := List.mem_map.mp hx
        exact List.mem_map_of_mem (hi q hq))
      rw [List.length_map] at this
      rw [List.range_eq_range']
      exact this)
    its.length (cnts ps (its.map (·.1))) (cnts_sum hn hi) (by unfold cnts; rw [List.length_map, List.length_map]) (fun k _ => Nat.le_refl _)
  refine ⟨st, R, ?_, ?_, I.ok⟩
  · exact congrArg Prod.fst I.lk
  · have hw : st.Ws.flatten = [] := by
      rw [List.flatten_eq_nil_iff]
      intro w hw
      obtain ⟨k, hk⟩ := List.mem_iff_getElem?.mp hw
      have := I.cnt k w hk
      exact List.length_eq_zero_iff.mp (by omega)
    have := I.perm
    rw [hw, List.append_nil] at this
    exact this
theorem rev_frz {M : Mem} {n : Nat} {ds : List D} (h : M[n]? = some (.lst ds)) (c : D.cls ds = true) : frzR (revD (.ref n)) M = some (.ok (.fl ds.reverse), M) := by
  have e : revD (.ref n) M = some (.ok (.ref M.length), M ++ [.lst ds.reverse]) := by
    unfold revD
    dsimp only
    rw [lstOf_ref h]
    rfl
  refine frz_ext e (Ext.add _ _) (frD_lst (Nat.le_refl _) get_new ?_)
  rw [D.cls_iff] at c ⊢
  exact fun d hd => c d (List.mem_reverse.mp hd)
theorem best_packing_eq {wide : Int} {ps : List (Str × Int)} (K : Kinds wide ps) {its : List (Str × Int)} (hi : ∀ q ∈ its, q ∈ ps) (hl : its.length ≤ 14) {far : Option Int} (hf : roomOk wide ps far) :
    ∃ Bs : List (List Nat), frzR (f_best_packing [Gv wide ps, rowD (its.map (·.1)), farD far]) = ret (.tup (Bs.map boxT)) ∧ (Bs.length : Int) = (V (far.getD wide) (ps.map (·.2)) (cnts ps (its.map (·.1)))).1 ∧ Bs.flatten.Perm (List.range its.length) ∧ ∀ b ∈ Bs, b ≠ [] ∧ (b.map fun i => (its.map (·.2)).getD i 0).sum ≤ far.getD wide := by
  obtain ⟨low, h1, h2, h3⟩ := kinds_max K
  have hfar : low ≤ far.getD wide := by
    cases far with
    | none => exact h2.2
    | some r =>
      obtain ⟨m, hm, hle, _⟩ := hf r rfl
      rw [h1] at hm
      cases hm
      exact hle
  have hn := rise_nodup K.rise
  have hrow : ∀ x ∈ its.map (·.1), x ∈ ps.map (·.1) := fun x hx => by
    obtain ⟨q, hq, rfl⟩ := List.mem_map.mp hx
    exact List.mem_map_of_mem (hi q hq)
  obtain ⟨st, R, p1, p2, p3⟩ := packing_of (r := far.getD wide) (low := low) K (fun p hp => Int.le_trans (h3 p hp) hfar) hi
  refine ⟨st.Bs, frz_pure fun M => ?_, p1, p2, p3⟩
  have e1 := checked_room_eq K (row := its.map (·.1)) (by rw [List.length_map]; exact hl) hrow hf
  have e2 := counts_of_eq K (row := its.map (·.1))
  have e2' : (D.tup (ps.map fun p => D.int ((its.map (·.1)).count p.1))) = cD (cnts ps (its.map (·.1))) := by
    unfold cnts
    rw [cD, List.map_map]
    rfl
  rw [e2'] at e2
  have cpr : c_best_packing_Goods.prop "sizes" = some f_Goods_sizes := by
    show (if ("sizes" : Str) = "names" then some f_Goods_names else if ("sizes" : Str) = "sizes" then some f_Goods_sizes else none) = _
    rw [if_neg (by decide +kernel), if_pos rfl]
  have cpn : c_best_packing_Goods.prop "names" = some f_Goods_names := by
    show (if ("names" : Str) = "names" then some f_Goods_names else if ("names" : Str) = "sizes" then some f_Goods_sizes else none) = _
    rw [if_pos rfl]
  have zc : D.cl (.tup ((ps.map (·.2)).map D.int)) = true := by rw [cl_tup]; exact cls_ints _
  have nc : D.cl (.tup ((ps.map (·.1)).map D.str)) = true := by rw [cl_tup]; exact cls_strs _
  have at1 : frzR (getAt t_best_packing (Gv wide ps) "sizes") = DL.ret (.tup ((ps.map (·.2)).map D.int)) := by
    rw [attr_prop tc_best_packing_Goods cpr, sizes_eq K, noErr_ret, show (ps.map fun p => D.int p.2) = (ps.map (·.2)).map D.int by rw [List.map_map]; rfl, frz_ret zc]
  have at2 : frzR (getAt t_best_packing (Gv wide ps) "names") = DL.ret (.tup ((ps.map (·.1)).map D.str)) := by
    rw [attr_prop tc_best_packing_Goods cpn, names_eq K, noErr_ret, show (ps.map fun p => D.str p.1) = (ps.map (·.1)).map D.str by rw [List.map_map]; rfl, frz_ret nc]
  have h14 : ∀ m ∈ cnts ps (its.map (·.1)), m ≤ 14 := fun m hm => by
    obtain ⟨p, _, rfl⟩ := List.mem_map.mp hm
    exact Nat.le_trans List.count_le_length (by rw [List.length_map]; exact hl)
  have hlen : (cnts ps (its.map (·.1))).length = ps.length := List.length_map _
  have hsum := cnts_sum hn hi
  have hp : prodS (cnts ps (its.map (·.1))) ≤ 16777215 := by
    refine Nat.le_trans (prod_le _ h14) ?_
    have : (15 : Nat) ^ (cnts ps (its.map (·.1))).length ≤ 15 ^ 6 := Nat.pow_le_pow_right (by omega) (by rw [hlen]; exact K.len6)
    exact Nat.le_trans this (by decide)
  have hz6 : (ps.map (·.2)).length ≤ 6 := by rw [List.length_map]; exact K.len6
  have hnm : ∀ t ∈ ps.map (·.1), PyData.strOk t = true := fun t ht => by
    obtain ⟨p, hp, rfl⟩ := List.mem_map.mp ht
    exact good_okS (K.good p hp)
  have fr : ∀ i : Int, frzR (DL.ret (.int i)) = DL.ret (.int i) := fun i => frz_ret cl_int
  have fc := frz_ret (cls_c (cnts ps (its.map (·.1))))
  obtain ⟨kvs, ek, gk⟩ := packings_eq2 (zs := ps.map (·.2)) (cs := cnts ps (its.map (·.1))) (r := far.getD wide) hp (fun m hm => Nat.le_trans (h14 m hm) (by omega)) (by rw [hlen, List.length_map]) (by rw [hlen]; have := K.len6; omega) M
  generalize hcs : cnts ps (its.map (·.1)) = cs at *
  generalize hr : far.getD wide = r at *
  -- the kinds of the items
  obtain ⟨v7, s', ew⟩ := chain_walk (gv := Gv wide ps) (rd := rowD (its.map (·.1))) (fd := farD far) (M := M) gk (by rw [hlen, List.length_map]) (by omega) (v8 := none) (v9 := none) (v10 := none) (v11 := none) (v12 := none) (v13 := none) (v14 := none) its.length cs [] none (19 - its.length) hsum (leC_refl _) (by simp; omega)
  rw [show its.length + 1 + (19 - its.length) = 20 by omega, List.nil_append] at ew
  have chl := chain_len (r := r) (zs := ps.map (·.2)) its.length cs
  generalize chain r (ps.map (·.2)) its.length cs = ch at *
  -- the items that wait
  have ew2 := waits_comp (names := ps.map (·.1)) (row := its.map (·.1)) (by rw [List.length_map]; have := K.len6; omega) (by rw [List.length_map]; omega) hnm (fun x hx => hnm x (hrow x hx)) at2 (v2 := some (farD far)) (v3 := some (.int r)) (v4 := some s') (v5 := some (.ref M.length)) (v6 := some (.ref (M.length + 1))) (v7 := v7) (v8 := none) (v9 := none) (v10 := none) (v11 := none) (v12 := none) (v13 := none) (v14 := none) (M ++ [.dct false kvs, ltI ch])
  generalize hW : (ps.map (·.1)).map (fun t => places t 0 (its.map (·.1))) = W0 at *
  have hWl : W0.length = (ps.map (·.1)).length := by rw [← hW, List.length_map]
  have hM2 : (M ++ [O.dct false kvs, ltI ch]).length = M.length + 2 := by simp
  rw [hM2] at ew2
  generalize hA : M ++ [O.dct false kvs, ltI ch] ++ [.lst (refs (M.length + 2 + 1) (ps.map (·.1)).length)] = A
  have hAl : A.length = M.length + 3 := by rw [← hA]; simp
  have eA : M ++ [O.dct false kvs, ltI ch] ++ O.lst (refs (M.length + 2 + 1) (ps.map (·.1)).length) :: W0.map ltI = A ++ W0.map ltI := by rw [← hA]; simp
  rw [eA] at ew2
  have n1 : lstD [] (A ++ W0.map ltI) = some (.ok (.ref (A.length + (ps.map (·.1)).length)), bmem A ⟨[], r, W0⟩) := by
    show some (Except.ok (D.ref (A ++ W0.map ltI).length), (A ++ W0.map ltI) ++ [O.lst []]) = _
    have l1 : (A ++ W0.map ltI).length = A.length + (ps.map (·.1)).length := by rw [List.length_append, List.length_map, hWl]
    rw [l1]
    unfold bmem
    simp
  have hw0 : A[M.length + 2]? = some (.lst (refs A.length (ps.map (·.1)).length)) := by
    rw [← hA, List.getElem?_append_right (by rw [hM2]; omega), hM2, Nat.sub_self]
    rw [hA, hAl]
    rfl
  have ho : (bmem A ⟨[], r, W0⟩)[M.length + 1]? = some (ltI ch) := by
    refine get_app ?_ _
    rw [← hA]
    refine get_app ?_ _
    rw [List.getElem?_append_right (by omega)]
    simp
  have erv := rev_frz ho (cls_map fun _ _ => cl_int)
  have erv2 : (ch.map fun (k : Nat) => D.int k).reverse = ch.reverse.map fun (k : Nat) => D.int k := by rw [List.map_reverse]
  rw [erv2] at erv
  obtain ⟨v7', el⟩ := box_loop (A := A) (gv := Gv wide ps) (rd := rowD (its.map (·.1))) (fd := farD far) (s := s') (d := M.length) (o := M.length + 1) at1 hw0 R 0 v7 hWl (by simp) (fun _ h => by cases h) (by rw [List.length_reverse]; omega) (v11 := none) (v12 := none) (v13 := none) (v14 := none)
  have stl : st.Ws.length = (ps.map (·.1)).length := R.len.trans hWl
  have hBl : st.Bs.length ≤ 1000 := by
    have := flat_len' st.Bs fun b hb => (p3 b hb).1
    have h2 := p2.length_eq
    rw [List.length_range] at h2
    omega
  have ec := last_comp (A := A) (st := st) (v0 := some (Gv wide ps)) (v1 := some (rowD (its.map (·.1)))) (v2 := some (farD far)) (v3 := some (.int r)) (v4 := some s') (v5 := some (.ref M.length)) (v6 := some (.ref (M.length + 1))) (v7 := v7') (v8 := some (.ref (M.length + 2))) (v10 := some (.int st.fill)) (v11 := none) (v12 := none) (v13 := none) (v14 := none) hBl fun b hb => (p3 b hb).1
  rw [stl] at ec
  have cl : D.cl (.tup (st.Bs.map boxT)) = true := by rw [cl_tup]; exact cls_map fun b _ => by rw [cl_tup]; exact cls_ints _
  refine ⟨.tup (st.Bs.map boxT), bmem A st, ?_, ?_, frD_cl cl _⟩
  · have n0 : lstD [] (M ++ [O.dct false kvs]) = some (.ok (.ref (M.length + 1)), M ++ [.dct false kvs, ltI []]) := by
      show some (Except.ok (D.ref (M ++ [O.dct false kvs]).length), M ++ [O.dct false kvs] ++ [O.lst []]) = _
      simp
    have tupE : ∀ a b : D, tupD [a, b] = DL.ret (.tup [a, b]) := fun _ _ => rfl
    have ek' : noErr (f_packings_of [.tup ((ps.map (·.2)).map D.int), cD cs, .int r]) M = some (.ok (.ref M.length), M ++ [.dct false kvs]) := by rw [noErr_at, ek]
    have ew' := ew
    have fu : t_best_packing.fuel = 20 := rfl
    generalize (D.tup ((ps.map (·.2)).map D.int)) = zt at *
    generalize (D.tup ((ps.map (·.1)).map D.str)) = nt at *
    generalize Gv wide ps = gv at *
    generalize rowD (its.map (·.1)) = rd at *
    generalize farD far = fd at *
    generalize cD cs = cd at *
    generalize (D.tup (st.Bs.map boxT)) = rt at *
    generalize bmem A ⟨[], r, W0⟩ = MB at *
    generalize bmem A st = MC at *
    generalize M ++ [O.dct false kvs, ltI ch] = MX at *
    generalize M ++ [O.dct false kvs, ltI []] = MY at *
    generalize M ++ [O.dct false kvs] = MZ at *
    generalize A ++ W0.map ltI = MW at *
    simp only [f_best_packing, runDef_eq, b_best_packing, List.map, List.replicate, List.length_cons, List.length_nil, Nat.reduceAdd, Nat.reduceSub, List.cons_append, List.nil_append, List.append_nil, evG_nm, evG_tup, evGs_nil, evGs_cons, len_cons, len_nil, if_true, bnd_ret, List.set, evSs_cons, evSs_nil, evS_asg, evS_rt, evS_for, evE_tup, evEs_cons, evEs_nil, evE_frz, evE_own, evE_attr, evE_lst, evE_var, getVar_0, getVar_s, selD_arg, selD_nil, opt_some, List.getElem?_cons_zero, List.getElem?_cons_succ, tf_best_packing_checked_room, tf_best_packing_counts_of, tf_best_packing_packings_of, frz_noErr, e1, e2, fr, fc, tupE, bnd_assocS, thenS_nx, at1, bnd_at, ek', n0, ret_at, evS_whileE, fu, ew, ew2, n1, evI_of, evE_revS, erv, items_fl, el, ec, thenS_rt, endF_rt]
  · unfold bmem
    rw [← hA, List.append_assoc, List.append_assoc]
    exact Ext.add _ _
end K
end
section
set_option Elab.async false
set_option linter.all false
set_option maxRecDepth 100000
set_option maxHeartbeats 4000000
/-! k19: packings are right -/
namespace K
open PySem DL
abbrev pyI (xs : List Int) : List PyData := xs.map PyData.int
theorem toPys (M : Mem) (k : Nat) : ∀ xs : List Int, mapO (toPy M (k + 1)) (xs.map D.int) = some (pyI xs) := fun xs => mapO_map D.int PyData.int xs fun i _ => rfl
theorem okI {xs : List Int} (h : ∀ x ∈ xs, x.natAbs ≤ 1000) : okPs (pyI xs) = true := okPs_map PyData.int xs fun x hx => by
  simp only [okP]
  exact decide_eq_true (by have := h x hx; omega)
theorem depI (xs : List Int) : PyData.depthAll (pyI xs) ≤ 1 := depth_map PyData.int 1 xs fun p hp => by simp [PyData.depth]
theorem weiI {xs : List Int} (h : ∀ x ∈ xs, x.natAbs ≤ 1000) : PyData.weightAll (pyI xs) ≤ xs.length * 1002 := weight_map PyData.int 1001 xs fun x hx => weight_int (h x hx)
theorem repr_tupI {xs : List Int} (h : ∀ x ∈ xs, x.natAbs ≤ 1000) (hl : xs.length ≤ 100) : bfun .repr [.tup (xs.map D.int)] = DL.ret (.str (PyData.tuple (pyI xs)).shown) := by
  funext M
  have e : toPy M 20 (.tup (xs.map D.int)) = some (.tuple (pyI xs)) := by
    show (mapO (toPy M 19) (xs.map D.int)).map _ = _
    rw [toPys]
    rfl
  refine repr_at e ?_ ?_ ?_
  · simp only [okP]; exact okI h
  · simp only [PyData.depth]; have := depI xs; omega
  · simp only [PyData.weight]; have := weiI h; omega
theorem repr_refI {M : Mem} {m : Nat} {xs : List Int} (hm : M[m]? = some (.lst (xs.map D.int))) (h : ∀ x ∈ xs, x.natAbs ≤ 1000) (hl : xs.length ≤ 100) : bfun .repr [.ref m] M = some (.ok (.str (PyData.list (pyI xs)).shown), M) := by
  have e : toPy M 20 (.ref m) = some (.list (pyI xs)) := by
    show (match M[m]? with | some (.lst ds) => (mapO (toPy M 19) ds).map PyData.list | _ => none) = _
    rw [hm]
    show (mapO (toPy M 19) (xs.map D.int)).map PyData.list = _
    rw [toPys]
    rfl
  refine repr_at e ?_ ?_ ?_
  · simp only [okP]; exact okI h
  · simp only [PyData.depth]; have := depI xs; omega
  · simp only [PyData.weight]; have := weiI h; omega
theorem lowT {xs : List Int} (h : ∀ x ∈ xs, x.natAbs ≤ 1000) : Low (PyData.tuple (pyI xs)).shown := shown_low _ (by simp only [okP]; exact okI h)
theorem lowL {xs : List Int} (h : ∀ x ∈ xs, x.natAbs ≤ 1000) : Low (PyData.list (pyI xs)).shown := shown_low _ (by simp only [okP]; exact okI h)
theorem shaped_tup {xs : List Int} (h : ∀ x ∈ xs, x.natAbs ≤ 1000) : SeqAt.shaped (.tuple (pyI xs)) = true := by
  have a := ok_lay (.tuple (pyI xs)) (by simp only [okP]; exact okI h)
  have b := depI xs
  unfold SeqAt.shaped
  rw [a]
  simp only [PyData.depth, Bool.true_and]
  exact decide_eq_true (by omega)
theorem shaped_lst {xs : List Int} (h : ∀ x ∈ xs, x.natAbs ≤ 1000) : SeqAt.shaped (.list (pyI xs)) = true := by
  have a := ok_lay (.list (pyI xs)) (by simp only [okP]; exact okI h)
  have b := depI xs
  unfold SeqAt.shaped
  rw [a]
  simp only [PyData.depth, Bool.true_and]
  exact decide_eq_true (by omega)
theorem eq_nil {xs : List Int} (h : ∀ x ∈ xs, x.natAbs ≤ 1000) (hne : xs ≠ []) : cmpD .eq (.tup (xs.map D.int)) (.tup []) = DL.ret (.bl false) := by
  funext M
  have e : toPy M 20 (.tup (xs.map D.int)) = some (.tuple (pyI xs)) := by
    show (mapO (toPy M 19) (xs.map D.int)).map _ = _
    rw [toPys]
    rfl
  have q : eqD (.tup (xs.map D.int)) (.tup []) M = some (.ok false, M) := by
    unfold eqD
    rw [e, show toPy M 20 (.tup []) = some (.tuple []) from rfl]
    dsimp only
    have s1 := shaped_tup h
    have s2 : SeqAt.shaped (.tuple []) = true := shaped_tup (xs := []) (fun _ h => by cases h)
    rw [s1, s2]
    have : PyData.eqv (.tuple (pyI xs)) (.tuple []) = false := by
      cases xs with
      | nil => exact absurd rfl hne
      | cons x xs => simp [PyData.eqv, PyData.eqvAll]
    rw [this]
    rfl
  show bnd (eqD _ _) _ M = _
  rw [bnd_ok q]
theorem ne_lst {xs : List Int} (h : ∀ x ∈ xs, x.natAbs ≤ 1000) {M : Mem} {m : Nat} (hm : M[m]? = some (.lst (xs.map D.int))) : cmpD .ne (.fl (xs.map D.int)) (.ref m) M = some (.ok (.bl false), M) := by
  have e1 : toPy M 20 (.fl (xs.map D.int)) = some (.list (pyI xs)) := by
    show (mapO (toPy M 19) (xs.map D.int)).map _ = _
    rw [toPys]
    rfl
  have e2 : toPy M 20 (.ref m) = some (.list (pyI xs)) := by
    show (match M[m]? with | some (.lst ds) => (mapO (toPy M 19) ds).map PyData.list | _ => none) = _
    rw [hm]
    show (mapO (toPy M 19) (xs.map D.int)).map PyData.list = _
    rw [toPys]
    rfl
  have q : eqD (.fl (xs.map D.int)) (.ref m) M = some (.ok true, M) := by
    unfold eqD
    rw [e1, e2]
    dsimp only
    have s1 := shaped_lst h
    rw [s1]
    have : PyData.eqv (.list (pyI xs)) (.list (pyI xs)) = true := SeqAt.eqv_refl _ (ok_lay _ (by simp only [okP]; exact okI h))
    rw [this]
    rfl
  show bnd (eqD _ _) _ M = _
  rw [bnd_ok q]
  rfl
theorem ne_same {x : Str} (h : Low x) : cmpD .ne (.str x) (.str x) = DL.ret (.bl false) := by
  rw [ne_str h.ok h.ok]
  simp
theorem eq_same {x : Str} (h : Low x) : cmpD .eq (.str x) (.str x) = DL.ret (.bl true) := by
  rw [eq_str h.ok h.ok]
  simp
theorem repr1 {m : Int} (h : 0 ≤ m ∧ m ≤ 1000) : bfun .repr [.int m] = DL.ret (.str (PyData.int m).shown) := by
  funext M
  have w := weight_int (i := m) (by omega)
  exact repr_at (M := M) (x := .int m) (p := .int m) rfl (by simp only [okP]; exact decide_eq_true (by omega)) (by simp [PyData.depth]) (by omega)
theorem low_1 {m : Int} : Low (PyData.int m).shown := by
  simp only [PyData.shown]
  exact int_low m
theorem sort_id {l : List Int} (h : l.Pairwise (fun a b => a ≤ b)) : sortInts l = l :=
  List.Perm.eq_of_pairwise (le := fun a b : Int => a ≤ b) (fun a b _ _ h1 h2 => Int.le_antisymm h1 h2) (sort_sorted l) h (sort_perm l)
theorem sort2_frz {G : List Int} (h : G ≠ []) (hs : G.Pairwise (fun a b => a ≤ b)) : frzR (bnd (bfun .sorted [.tup (G.map D.int)]) fun a => bfun .tuple [a]) = DL.ret (.tup (G.map D.int)) := by
  refine frz_pure fun M => ⟨_, M ++ [.lst (G.map D.int)], ?_, Ext.add _ _, frD_cl (by rw [cl_tup]; exact cls_ints _) _⟩
  have hn : strsOf (G.map D.int) = none := by
    cases G with
    | nil => exact absurd rfl h
    | cons a G => rfl
  have e : bfun .sorted [.tup (G.map D.int)] M = some (.ok (.ref M.length), M ++ [.lst (G.map D.int)]) := by
    unfold bfun sortedB
    dsimp only
    rw [show tlOf M (.tup (G.map D.int)) = some (G.map .int) from rfl]
    dsimp only
    rw [hn]
    dsimp only
    rw [mapO_int]
    dsimp only
    rw [sort_id hs]
    rfl
  rw [bnd_ok e]
  exact tuple_at get_new
end K
end
section
set_option Elab.async false
set_option linter.all false
set_option maxRecDepth 100000
set_option maxHeartbeats 4000000
namespace K
open PySem DL
abbrev penv7 (told : D) (own : List Int) (high due : Int) (x4 x5 x6 : Option D) : DL.Env := [some told, some (.fl (own.map D.int)), some (.int high), some (.int due), x4, x5, x6]
theorem add_list_frz {xs ys : List Int} (h : xs.length + ys.length ≤ 1000) {told : D} {own : List Int} {high due : Int} {x6 : Option D} :
    frzR (evE t_w_packed_right (.bin .add (.var 4) (.bcall .list (.cons (.var 5) (.nil)))) (penv7 told own high due (some (.fl (xs.map D.int))) (some (.tup (ys.map D.int))) x6)) = DL.ret (.fl ((xs ++ ys).map D.int)) := by
  rw [evE_bin, evE_var, getVar_s, getVar_s, getVar_s, getVar_s, getVar_0, bnd_ret, evE_bcall, evEs_cons, evEs_nil, evE_var, getVar_s, getVar_s, getVar_s, getVar_s, getVar_s, getVar_0]
  simp only [bnd_ret]
  refine frz_pure fun M => ?_
  have e1 : bfun .list [.tup (ys.map D.int)] M = some (.ok (.ref M.length), M ++ [.lst (ys.map D.int)]) := rfl
  have g : (M ++ [O.lst (ys.map D.int)])[M.length]? = some (.lst (ys.map D.int)) := get_new
  refine ⟨.ref (M ++ [O.lst (ys.map D.int)]).length, M ++ [O.lst (ys.map D.int)] ++ [.lst ((xs ++ ys).map D.int)], ?_, by rw [List.append_assoc]; exact Ext.add _ _, frD_lst (by rw [List.length_append]; omega) get_new (cls_ints _)⟩
  rw [bnd_ok e1]
  show (match lstOf (M ++ [O.lst (ys.map D.int)]) (.fl (xs.map D.int)), lstOf (M ++ [O.lst (ys.map D.int)]) (.ref M.length) with | some xs, some ys => if xs.length + ys.length ≤ sizeLine then new (.lst (xs ++ ys)) (M ++ [O.lst (_ : List D)]) else none | _, _ => none) = _
  rw [lstOf_ref g]
  show (if (xs.map D.int).length + (ys.map D.int).length ≤ sizeLine then new (.lst (xs.map D.int ++ ys.map D.int)) (M ++ [O.lst (ys.map D.int)]) else none) = _
  rw [if_pos (by rw [sizeLine_eq, List.length_map, List.length_map]; omega), ← List.map_append]
  rfl
/-- the items in the range are all -/
theorem range_comp {xs own : List Int} (h : ∀ x ∈ xs, 0 ≤ x ∧ x < own.length) (hl : xs.length ≤ 1000) {told : D} {high due : Int} {x5 x6 : Option D} :
    evE t_w_packed_right (.comp (.of (.var 4)) (.nm 6) (.bl (.inRng (.var 6) (.bcall .len (.cons (.var 1) (.nil))))) e_w_packed_right_2 [6]) (penv7 told own high due (some (.fl (xs.map D.int))) x5 x6) = new (.lst (xs.map D.int)) := by
  have ln : bfun .len [.fl (own.map D.int)] = DL.ret (.int (own.length : Int)) := by rw [len_fl, List.length_map]
  refine evE_comp_map (xs := xs) D.int D.int (by simp) (by omega) fun x hx => ?_
  have hr : inRngD (.int x) (.int (own.length : Int)) = DL.ret (.bl true) := by
    have := h x hx
    show DL.ret (D.bl (decide (0 ≤ x ∧ x < (own.length : Int)))) = _
    rw [decide_eq_true this]
  simp only [turnL, wipeE, List.set, evG_nm, bnd_ret, evT_bl, evE_inRng, evE_var, getVar_0, getVar_s, evE_bcall, evEs_cons, evEs_nil, ln, hr, asBl_bl, if_true, e_w_packed_right_2]
theorem sum_frz {ys own : List Int} (h : ∀ y ∈ ys, 0 ≤ y ∧ y < own.length) (hl : ys.length ≤ 1000) {told : D} {high due : Int} {x4 x6 : Option D} :
    frzR (evE t_w_packed_right (.bcall .sum (.cons (.comp (.of (.var 5)) (.nm 6) (.yes) e_w_packed_right_1 [6]) (.nil))) (penv7 told own high due x4 (some (.tup (ys.map D.int))) x6)) = DL.ret (.int (ys.map fun y => own.getD y.toNat 0).sum) := by
  have c := evE_comp_map (T := t_w_packed_right) (it := .of (.var 5)) (g := .nm 6) (tt := .yes) (e := e_w_packed_right_1) (own := [6]) (env := penv7 told own high due x4 (some (.tup (ys.map D.int))) x6) (xs := ys) D.int (fun y => D.int (own.getD y.toNat 0)) (by simp) (by omega) (by
    intro y hy
    obtain ⟨h0, h1⟩ := h y hy
    have ix : getIx (.fl (own.map D.int)) (.int y) = DL.ret (.int (own.getD y.toNat 0)) := ix_flE (by
      have hk : y.toNat < own.length := by omega
      rw [at_pos h0 (by rw [List.length_map]; exact h1), List.getElem?_map, List.getElem?_eq_getElem hk, List.getD_eq_getElem?_getD, List.getElem?_eq_getElem hk]
      rfl)
    simp only [turnL, wipeE, List.set, evG_nm, bnd_ret, evT_yes, if_true, e_w_packed_right_1, evE_ix, evE_var, getVar_0, getVar_s, ix])
  rw [evE_bcall, evEs_cons, evEs_nil, c]
  simp only [bnd_assocS, bnd_ret]
  refine frz_newB cl_int fun M => ?_
  have e : (ys.map fun y => D.int (own.getD y.toNat 0)) = (ys.map fun y => own.getD y.toNat 0).map D.int := by rw [List.map_map]; rfl
  rw [e]
  have e2 : tlOf (M ++ [O.lst ((ys.map fun y => own.getD y.toNat 0).map D.int)]) (.ref M.length) = some ((ys.map fun y => own.getD y.toNat 0).map D.int) := by
    unfold tlOf
    dsimp only
    rw [get_new]
  unfold bfun sumB
  dsimp only
  rw [e2]
  dsimp only
  rw [mapO_int]
theorem packed_turn {M : Mem} {told : D} {own xs : List Int} {high due : Int} {b : List Nat} (hn : own.length ≤ 14) (hb : ∀ i ∈ b, i < own.length) (hbl : b.length ≤ 14) (hne : b ≠ []) (hs : (b.map fun i => own.getD i 0).sum ≤ high) (hx : ∀ x ∈ xs, 0 ≤ x ∧ x < own.length) (hxl : xs.length ≤ 100) {x5 x6 : Option D} :
    bodyF t_w_packed_right (.nm 5) l_w_packed_right_3 (boxT b) (penv7 told own high due (some (.fl (xs.map D.int))) x5 x6) M = some (.ok (.nx (penv7 told own high due (some (.fl ((xs ++ sortInts (natI b)).map D.int))) (some (boxT b)) x6)), M ++ [.lst ((xs ++ sortInts (natI b)).map D.int)]) := by
  have pm : (sortInts (natI b)).Perm (natI b) := sort_perm _
  have so := sort_sorted (natI b)
  have sl : (sortInts (natI b)).length = b.length := by rw [pm.length_eq, List.length_map]
  have sm : ∀ y ∈ sortInts (natI b), 0 ≤ y ∧ y < own.length := fun y hy => by
    obtain ⟨i, hi, rfl⟩ := List.mem_map.mp (pm.mem_iff.mp hy)
    have := hb i hi
    omega
  have ssum : ((sortInts (natI b)).map fun y => own.getD y.toNat 0).sum ≤ high := by
    have h1 := perm_sum (pm.map fun y => own.getD y.toNat 0)
    rw [h1, natI, List.map_map]
    exact hs
  have sne : sortInts (natI b) ≠ [] := by
    intro z
    rw [z] at sl
    exact hne (List.length_eq_zero_iff.mp sl.symm)
  unfold boxT
  generalize sortInts (natI b) = sb at *
  have nat1 : ∀ y ∈ sb, y.natAbs ≤ 1000 := fun y hy => by have := sm y hy; omega
  have c1 := eq_nil nat1 sne
  have c2 := repr_tupI nat1 (by omega)
  have c3 := sort2_frz sne so
  have c4 := ne_same (lowT nat1)
  have fr : frzR (DL.ret (.str (PyData.tuple (pyI sb)).shown)) = DL.ret (.str (PyData.tuple (pyI sb)).shown) := frz_ret cl_str
  have al := add_list_frz (xs := xs) (ys := sb) (by omega) (told := told) (own := own) (high := high) (due := due) (x6 := x6)
  have hx2 : ∀ x ∈ xs ++ sb, 0 ≤ x ∧ x < own.length := fun x h => (List.mem_append.mp h).elim (hx x) (sm x)
  have rc := range_comp (xs := xs ++ sb) hx2 (by rw [List.length_append]; omega) (told := told) (high := high) (due := due) (x5 := some (.tup (sb.map D.int))) (x6 := x6)
  have nl := ne_lst (xs := xs ++ sb) (fun x h => by have := hx2 x h; omega) (M := M ++ [.lst ((xs ++ sb).map D.int)]) (m := M.length) get_new
  have sf := sum_frz (ys := sb) sm (by omega) (told := told) (high := high) (due := due) (x4 := some (.fl ((xs ++ sb).map D.int))) (x6 := x6)
  have hgt : ¬ high < (sb.map fun y => own.getD y.toNat 0).sum := by omega
  have nw : new (.lst ((xs ++ sb).map D.int)) M = some (.ok (.ref M.length), M ++ [.lst ((xs ++ sb).map D.int)]) := rfl
  generalize (sb.map fun y => own.getD y.toNat 0).sum = q at *
  generalize (PyData.tuple (pyI sb)).shown = sh at *
  have t0 : tupD [] = DL.ret (.tup []) := rfl
  unfold bodyF
  rw [evG_nm, bnd_ret]
  unfold l_w_packed_right_3
  refine (evSs_nxL (env2 := penv7 told own high due (some (.fl (xs.map D.int))) (some (.tup (sb.map D.int))) x6) (M2 := M) ?_).trans ?_
  · have eqv : ((List.set [some told, some (.fl (own.map D.int)), some (.int high), some (.int due), some (.fl (xs.map D.int)), x5, x6] 5 (some (.tup (sb.map D.int)))) : DL.Env) = penv7 told own high due (some (.fl (xs.map D.int))) (some (.tup (sb.map D.int))) x6 := rfl
    rw [eqv]
    generalize sb.map D.int = SB at *
    simp only [evS_cond, evT_or, evT_nt, evT_val, evT_bl, evE_isi, evE_var, getVar_0, getVar_s, bnd_ret, isi_tup, tru_bl, Bool.not_true, Bool.false_eq_true, if_false, evE_cmp, evE_tup, evEs_nil, t0, c1, asBl_bl, evE_bcall, evEs_cons, c2, evE_frz, bnd_assocS, c3, fr, c4, beq_self_eq_true, evSs_nil, ret_at]
  refine (evSs_nxL (env2 := penv7 told own high due (some (.fl ((xs ++ sb).map D.int))) (some (.tup (sb.map D.int))) x6) (M2 := M) ?_).trans ?_
  · rw [evS_asg, evE_frz, al, bnd_ret, evG_nm, bnd_ret, ret_at]
    rfl
  refine (evSs_nxL (env2 := penv7 told own high due (some (.fl ((xs ++ sb).map D.int))) (some (.tup (sb.map D.int))) x6) (M2 := M ++ [.lst ((xs ++ sb).map D.int)]) ?_).trans ?_
  · rw [evS_cond, evT_or, evT_bl, evE_cmp, evE_var, getVar_s, getVar_s, getVar_s, getVar_s, getVar_0, bnd_ret, rc, bnd_assocS, bnd_assocS, bnd_assocS, bnd_ok nw, bnd_ok nl]
    simp only [asBl_bl, bnd_ret, Bool.false_eq_true, if_false, evT_bl, evE_cmp, evE_frz, sf, evE_var, getVar_0, getVar_s, gt_int, decide_eq_false hgt, evSs_nil, ret_at]
    rw [bnd_ret, if_neg (by simp), bnd_ret, if_neg (by simp), ret_at]
  rw [evSs_nil, ret_at]
theorem sorted_refE {M : Mem} {xs : List Int} : bfun .sorted [.fl (xs.map D.int)] M = some (.ok (.ref M.length), M ++ [.lst ((sortInts xs).map D.int)]) := by
  unfold bfun sortedB
  dsimp only
  rw [show tlOf M (.fl (xs.map D.int)) = some (xs.map .int) from rfl]
  dsimp only
  cases xs with
  | nil =>
    have h1 : sortInts [] = [] := List.Perm.eq_nil (sort_perm [])
    have h2 : sortStrs [] = [] := List.Perm.eq_nil (List.mergeSort_perm [] _)
    rw [h1]
    show (if ([] : List Str).length < 64 then new (.lst ((sortStrs []).map D.str)) M else none) = _
    rw [if_pos (by decide), h2]
    rfl
  | cons x xs =>
    have hs : strsOf ((x :: xs).map D.int) = none := rfl
    rw [hs]
    dsimp only
    rw [mapO_int]
    rfl
theorem sorted_flat : ∀ l : List (List Nat), ((l.map fun b => sortInts (natI b)).flatten).Perm (natI l.flatten)
  | [] => List.Perm.refl _
  | a :: l => by
    have e : natI (a ++ l.flatten) = natI a ++ natI l.flatten := List.map_append ..
    rw [List.map_cons, List.flatten_cons, List.flatten_cons, e]
    exact (sort_perm _).append (sorted_flat l)
/-- the boxes are a packing -/
theorem packed_eq {own : List Int} {high due : Int} {Bs : List (List Nat)} (hn : own.length ≤ 14) (hd : (Bs.length : Int) = due) (hp : Bs.flatten.Perm (List.range own.length)) (hb : ∀ b ∈ Bs, b ≠ [] ∧ (b.map fun i => own.getD i 0).sum ≤ high) :
    frzR (f_w_packed_right [.tup (Bs.map boxT), .fl (own.map D.int), .int high, .int due]) = DL.ret (.bl true) := by
  have hlen : Bs.flatten.length = own.length := by rw [hp.length_eq, List.length_range]
  have hin : ∀ b ∈ Bs, ∀ i ∈ b, i < own.length := fun b hbm i hi => List.mem_range.mp (hp.mem_iff.mp (List.mem_flatten.mpr ⟨b, hbm, hi⟩))
  have hbl : ∀ b ∈ Bs, b.length ≤ own.length := fun b hbm => by
    rw [← hlen]
    have : b.Sublist Bs.flatten := List.sublist_flatten_of_mem hbm
    exact this.length_le
  refine frz_pure fun M => ?_
  obtain ⟨env', M', e, x5, rfl, X⟩ := forL_0 (g := none) (turn := bodyF t_w_packed_right (.nm 5) l_w_packed_right_3) (ds := Bs.map boxT) (M := M) (env := penv7 (.tup (Bs.map boxT)) own high due (some (.fl [])) none none)
    (fun i env M' => ∃ x5, env = penv7 (.tup (Bs.map boxT)) own high due (some (.fl ((((Bs.take i).map fun b => sortInts (natI b)).flatten).map D.int))) x5 none ∧ Ext M M') (fun _ _ _ _ => rfl) ⟨none, rfl, Ext.refl M⟩ (by
      rintro i d env M1 hi ⟨x5, rfl, X⟩
      rw [List.getElem?_map] at hi
      cases hh : Bs[i]? with
      | none => rw [hh] at hi; cases hi
      | some b =>
        rw [hh] at hi
        cases hi
        have hm := List.mem_of_getElem? hh
        have pf := sorted_flat
        have tk : ∀ x ∈ ((Bs.take i).map fun b => sortInts (natI b)).flatten, 0 ≤ x ∧ x < own.length := fun x hx => by
          obtain ⟨j, hj, rfl⟩ := List.mem_map.mp ((pf _).mem_iff.mp hx)
          obtain ⟨c, hc, hjc⟩ := List.mem_flatten.mp hj
          have := hin c (List.mem_of_mem_take hc) j hjc
          omega
        have tl : (((Bs.take i).map fun b => sortInts (natI b)).flatten).length ≤ 100 := by
          rw [(pf _).length_eq, List.length_map]
          have h3 := congrArg (fun l : List (List Nat) => l.flatten.length) (List.take_append_drop i Bs)
          simp only [List.flatten_append, List.length_append] at h3
          omega
        have e := packed_turn (M := M1) (told := .tup (Bs.map boxT)) (due := due) hn (hin b hm) (by have := hbl b hm; omega) (hb b hm).1 (hb b hm).2 tk tl (x5 := x5) (x6 := none)
        have e9 : ((Bs.take (i + 1)).map fun b => sortInts (natI b)).flatten = ((Bs.take i).map fun b => sortInts (natI b)).flatten ++ sortInts (natI b) := by
          rw [List.take_add_one, hh, List.map_append, List.flatten_append]
          simp
        exact ⟨_, _, e, some (boxT b), by rw [e9], X.trans (Ext.add _ _)⟩)
  rw [List.length_map, List.take_length] at e
  have pf := sorted_flat
  have srt : sortInts ((Bs.map fun b => sortInts (natI b)).flatten) = natI (List.range own.length) := by
    have h1 : ((Bs.map fun b => sortInts (natI b)).flatten).Perm (natI (List.range own.length)) := (pf Bs).trans (hp.map _)
    rw [sort_eq h1]
    refine sort_id ?_
    unfold natI
    rw [List.pairwise_map]
    have := List.pairwise_lt_range (n := own.length)
    exact this.imp fun h => by omega
  generalize hF : (Bs.map fun b => sortInts (natI b)).flatten = F at *
  have n14 : ∀ x ∈ natI (List.range own.length), x.natAbs ≤ 1000 := fun x hx => by
    obtain ⟨i, hi, rfl⟩ := List.mem_map.mp hx
    have := List.mem_range.mp hi
    omega
  have nl : (natI (List.range own.length)).length ≤ 100 := by rw [List.length_map, List.length_range]; omega
  have r1 : frzR (bnd (bfun .sorted [.fl (F.map D.int)]) fun x => bfun .repr [x]) = DL.ret (.str (PyData.list (pyI (natI (List.range own.length)))).shown) := by
    refine frz_pure fun N => ⟨.str (PyData.list (pyI (natI (List.range own.length)))).shown, N ++ [.lst ((natI (List.range own.length)).map D.int)], ?_, Ext.add _ _, frD_cl cl_str _⟩
    have e0 : bfun .sorted [.fl (F.map D.int)] N = some (.ok (.ref N.length), N ++ [.lst ((natI (List.range own.length)).map D.int)]) := by rw [sorted_refE, srt]
    rw [bnd_ok e0]
    exact repr_refI get_new n14 nl
  have ln : bfun .len [.fl (own.map D.int)] = DL.ret (.int (own.length : Int)) := by rw [len_fl, List.length_map]
  have r2 : frzR (bnd (lrngD (.int (own.length : Int))) fun x => bfun .repr [x]) = DL.ret (.str (PyData.list (pyI (natI (List.range own.length)))).shown) := by
    refine frz_pure fun N => ⟨.str (PyData.list (pyI (natI (List.range own.length)))).shown, N ++ [.lst ((natI (List.range own.length)).map D.int)], ?_, Ext.add _ _, frD_cl cl_str _⟩
    have e1 : lrngD (.int (own.length : Int)) N = some (.ok (.ref N.length), N ++ [.lst ((natI (List.range own.length)).map D.int)]) := by
      unfold lrngD
      dsimp only
      rw [if_pos ⟨by omega, by omega⟩, Int.toNat_natCast, natI, List.map_map]
      rfl
    rw [bnd_ok e1]
    exact repr_refI get_new n14 nl
  have q := eq_same (lowL n14)
  have f0 : frzR (lstD []) = DL.ret (.fl []) := by
    show frzR (new (.lst [])) = _
    exact frz_new rfl
  have lt : bfun .len [.tup (Bs.map boxT)] = DL.ret (.int due) := by rw [len_tup, List.length_map, hd]
  refine ⟨.bl true, M', run_rtL ?_, X, frD_cl cl_bl _⟩
  unfold b_w_packed_right
  show evSs t_w_packed_right _ (penv7 (.tup (Bs.map boxT)) own high due none none none) M = _
  generalize Bs.map boxT = TB at *
  generalize (PyData.list (pyI (natI (List.range own.length)))).shown = sh at *
  refine (evSs_nxL (env2 := penv7 (.tup TB) own high due none none none) (M2 := M) ?_).trans ?_
  · simp only [evS_cond, evT_or, evT_nt, evT_val, evT_bl, evE_isi, evE_var, getVar_0, getVar_s, bnd_ret, isi_tup, tru_bl, beq_self_eq_true, Bool.not_true, Bool.false_eq_true, if_false, evE_cmp, evE_bcall, evEs_cons, evEs_nil, lt, ne_int, asBl_bl, evSs_nil, ret_at]
  refine (evSs_nxL (env2 := penv7 (.tup TB) own high due (some (.fl [])) none none) (M2 := M) ?_).trans ?_
  · simp only [evS_asg, evE_frz, evE_lst, evEs_nil, bnd_ret, f0, evG_nm, List.set, ret_at]
  refine (evSs_nxL (env2 := penv7 (.tup TB) own high due (some (.fl (F.map D.int))) x5 none) (M2 := M') ?_).trans ?_
  · simp only [evS_for, evI_of, evE_var, getVar_0, bnd_ret, items_tup]
    exact e
  refine evSs_rtL ?_
  simp only [evS_rt, evE_cmp, evE_frz, evE_bcall, evEs_cons, evEs_nil, evE_var, getVar_0, getVar_s, bnd_ret, bnd_assocS, evE_lrng, ln, r1, r2, q, ret_at]
end K
end
section
set_option Elab.async false
set_option linter.all false
set_option maxRecDepth 100000
set_option maxHeartbeats 4000000
namespace K
open PySem DL
theorem small_of' {z : Int} (h0 : 0 ≤ z) (h1 : z ≤ 1000000000000) : small z = true := by
  unfold small
  exact decide_eq_true ⟨by omega, by omega⟩
theorem cell_eq {ns : List Int} {k : Int} (hl : ns.length ≤ 63) (h0 : 0 ≤ k) (h1 : k ≤ 100) : ∃ c, f_w_cell [.scr (ns.map .int), .int k] = ret (.int c) := by
  by_cases hk : k < ns.length
  · have hk' : k.toNat < ns.length := by omega
    have ix : getIx (.scr (ns.map D.int)) (.int k) = DL.ret (.int ns[k.toNat]) := by
      funext M
      rw [ix_scr, at_pos h0 (by rw [List.length_map]; exact hk), List.getElem?_map, List.getElem?_eq_getElem hk']
      rfl
    refine ⟨ns[k.toNat], ?_⟩
    simp [f_w_cell, runDef_eq, b_w_cell, hk, ix]
  · have fz : frzR (getSl (.scr (ns.map D.int)) none (some 4)) = DL.ret (.fl ((cut ns none (some 4)).map D.int)) := by
      have e : getSl (.scr (ns.map D.int)) none (some 4) = new (.lst ((cut ns none (some 4)).map D.int)) := by
        funext M
        show new (.lst (cut (ns.map D.int) none (some 4))) M = _
        unfold cut
        rw [List.length_map, ← List.map_drop, ← List.map_take]
      rw [e]
      exact frz_new (cls_ints _)
    generalize cut ns none (some 4) = xs at fz
    obtain ⟨env', e, z, y, rfl, hz0, hz1⟩ := forE0 (turn := bodyF t_w_cell (.nm 3) l_w_cell_1) (ds := xs.map D.int) (env := [some (.scr (ns.map D.int)), some (.int k), some (.int (8123 + 60013 * k * k + 41 * k)), none])
      (fun i env => ∃ z y, env = [some (.scr (ns.map D.int)), some (.int k), some (.int z), y] ∧ 0 ≤ z ∧ z ≤ 1000000000000) ⟨_, none, rfl, by
        have : 0 ≤ 60013 * k * k := Int.mul_nonneg (by omega) h0
        omega, by
        have : 60013 * k * k ≤ 60013 * 100 * 100 := Int.mul_le_mul (by omega) h1 h0 (by omega)
        omega⟩ (by
        rintro i d env hi ⟨z, y, rfl, hz0, hz1⟩
        rw [List.getElem?_map] at hi
        cases hp : xs[i]? with
        | none => rw [hp] at hi; cases hi
        | some v =>
          rw [hp] at hi
          cases hi
          have s := small_of' hz0 hz1
          refine ⟨_, ?_, (z * 61417 + v) % 2147483579, some (.int v), rfl, by omega, by omega⟩
          simp [bodyF, l_w_cell_1, s])
    have s := small_of' hz0 hz1
    have s1 : small k = true := small_of' h0 (by omega)
    have s2 : small (60013 * k) = true := small_of' (by omega) (by omega)
    refine ⟨(z * z + 5 * k) % 2147483563, ?_⟩
    simp [f_w_cell, runDef_eq, b_w_cell, hk, optI, fz, s, s1, s2, e]
end K
end
section
set_option Elab.async false
set_option linter.all false
set_option maxRecDepth 100000
set_option maxHeartbeats 4000000
namespace K
open PySem DL
abbrev SOME : List Str := ["room", "lane", "in", "take", "shut", "mark", "first", "last", "fullest", "emptiest"]
theorem some_good : ∀ w ∈ SOME, GoodW w := by decide +kernel
abbrev SIGNS : List Nat := ("abcdefghijklmnopqrstuvwxyz0123456789" : Str).cps.toList
theorem signs_let : ∀ i : Nat, i < 26 → ∃ c, SIGNS[i]? = some c ∧ c ∈ LET := by decide +kernel
theorem signs_all : ∀ i : Nat, i < 36 → ∃ c, SIGNS[i]? = some c ∧ (c ∈ LET ∨ c ∈ DIG) := by decide +kernel
abbrev someL : List D := [.str "room", .str "lane", .str "in", .str "take", .str "shut", .str "mark", .str "first", .str "last", .str "fullest", .str "emptiest"]
theorem some_at (k : Int) (h0 : 0 ≤ k) (h1 : k < 10) : ∃ w, L2.atI someL k = some (.str w) ∧ GoodW w := by
  rw [at_pos h0 (by simpa using h1)]
  have : ∀ i : Nat, i < 10 → ∃ w, w ∈ SOME ∧ someL[i]? = some (.str w) := by
    intro i hi
    match i, hi with
    | 0, _ => exact ⟨_, by decide +kernel, rfl⟩
    | 1, _ => exact ⟨_, by decide +kernel, rfl⟩
    | 2, _ => exact ⟨_, by decide +kernel, rfl⟩
    | 3, _ => exact ⟨_, by decide +kernel, rfl⟩
    | 4, _ => exact ⟨_, by decide +kernel, rfl⟩
    | 5, _ => exact ⟨_, by decide +kernel, rfl⟩
    | 6, _ => exact ⟨_, by decide +kernel, rfl⟩
    | 7, _ => exact ⟨_, by decide +kernel, rfl⟩
    | 8, _ => exact ⟨_, by decide +kernel, rfl⟩
    | 9, _ => exact ⟨_, by decide +kernel, rfl⟩
    | n + 10, h => omega
  obtain ⟨w, hw, e⟩ := this k.toNat (by omega)
  exact ⟨w, e, some_good w hw⟩
theorem sign_at (k : Int) (h0 : 0 ≤ k) (h1 : k < 36) : ∃ c, L2.atI SIGNS k = some c ∧ (c ∈ LET ∨ c ∈ DIG) ∧ (k < 26 → c ∈ LET) := by
  have hl : SIGNS.length = 36 := by decide +kernel
  rw [at_pos h0 (by rw [hl]; exact h1)]
  obtain ⟨c, e, q⟩ := signs_all k.toNat (by omega)
  refine ⟨c, e, q, fun h => ?_⟩
  obtain ⟨c', e', q'⟩ := signs_let k.toNat (by omega)
  rw [e] at e'
  cases e'
  exact q'
abbrev S36 : Str := "abcdefghijklmnopqrstuvwxyz0123456789"
theorem len36' : S36.length ≤ 16777216 := by decide +kernel
theorem len36 : S36.length ≤ sizeLine := by rw [sizeLine_eq]; decide +kernel
theorem rngLen (k : Int) (n : Nat) : (rangeD k n).length = n := by rw [rangeD_map, List.length_map, List.length_range]
theorem word_loop {M : Mem} {n : Nat} {m : D} (k : Nat) (hk : k < 8) (h : ∃ o, M[n]? = some o ∧ isPool o) (w : Str) (h1 : w.cps.toList.length = 1) (hd : ∃ c r, w.cps.toList = c :: r ∧ c ∈ LET) (al : ∀ c ∈ w.cps.toList, c ∈ LET ∨ c ∈ DIG) :
    ∃ v w' M', forL none (bodyF t_w_word (.nm 4) l_w_word_1) (rangeD 0 k) [some (.ref n), some m, some (.str S36), some (.str w), none] M = some (.ok (.nx [some (.ref n), some m, some (.str S36), some (.str w'), v]), M') ∧ GoodW w' ∧ PS n M M' := by
  obtain ⟨env', M', e, w', v, rfl, hl, hd', al', G⟩ := forL_0 (g := none) (turn := bodyF t_w_word (.nm 4) l_w_word_1) (ds := rangeD 0 k) (M := M) (env := [some (.ref n), some m, some (.str S36), some (.str w), none])
    (fun i env M' => ∃ w' v, env = [some (.ref n), some m, some (.str S36), some (.str w'), v] ∧ w'.cps.toList.length = i + 1 ∧ (∃ c r, w'.cps.toList = c :: r ∧ c ∈ LET) ∧ (∀ c ∈ w'.cps.toList, c ∈ LET ∨ c ∈ DIG) ∧ PS n M M')
    (fun _ _ _ _ => rfl) ⟨w, none, rfl, h1, hd, al, .refl h⟩ (by
      rintro i d env M1 hi ⟨w', v, rfl, hl, ⟨c0, r0, e0, hc0⟩, al', G⟩
      have hik : i < k := by
        have := (List.getElem?_eq_some_iff.mp hi).1
        rwa [rngLen] at this
      obtain ⟨d1, M2, e1, d10, d16, G1⟩ := draw_frz (M := M1) (n := n) (k := 36) G.get (by decide) (by decide)
      obtain ⟨c, ec, hc, _⟩ := sign_at d1 d10 d16
      have eq : (w' ++ (⟨#[c]⟩ : Str)).cps.toList = w'.cps.toList ++ [c] := TL.tl_append _ _
      refine ⟨_, M2, ?_, w' ++ ⟨#[c]⟩, some d, rfl, ?_, ?_, ?_, G.trans G1⟩
      · have hs : w'.length + (⟨#[c]⟩ : Str).length ≤ sizeLine := by
          rw [sizeLine_eq]
          have : w'.length = w'.cps.toList.length := by simp [Str.length]
          have : (⟨#[c]⟩ : Str).length = 1 := rfl
          omega
        simp [bodyF, l_w_word_1, bnd_at, e1, ix_str, len36, ec, hs]
      · rw [eq]; simp [hl]
      · rw [eq]; exact ⟨c0, r0 ++ [c], by simp [e0], hc0⟩
      · rw [eq]
        intro x hx
        rcases List.mem_append.mp hx with q | q
        · exact al' x q
        · have : x = c := by simpa using q
          rw [this]; exact hc)
  rw [rngLen] at hl
  exact ⟨v, w', M', e, ⟨by omega, by omega, hd', al'⟩, G⟩
theorem cls_some : D.cls someL = true := by decide +kernel
theorem word_spec {M : Mem} {n : Nat} (h : ∃ o, M[n]? = some o ∧ isPool o) : ∃ w M', f_w_word [.ref n] M = some (.ok (.str w), M') ∧ GoodW w ∧ PS n M M' := by
  obtain ⟨d1, M2, e1, d10, d16, G1⟩ := draw_frz (k := 6) h (by decide) (by decide)
  obtain ⟨d2, M3, e2, d20, d26, G2⟩ := draw_frz (k := 10) G1.get (by decide) (by decide)
  have fz := frz_new cls_some
  by_cases hz : d1 = 0
  · obtain ⟨w, ew, gw⟩ := some_at d2 d20 d26
    refine ⟨w, M3, ?_, gw, G1.trans G2⟩
    subst hz
    simp [f_w_word, runDef_eq, b_w_word, bnd_at, lstD_eq, sizeLine_eq, fz, e1, e2, ix_fl, ew]
  · obtain ⟨d3, M4, e3, d30, d36, G3⟩ := draw_frz (k := 26) G1.get (by decide) (by decide)
    obtain ⟨d4, M5, e4, d40, d46, G4⟩ := draw_frz (k := 8) G3.get (by decide) (by decide)
    obtain ⟨c, ec, _, hc⟩ := sign_at d3 d30 (by omega)
    obtain ⟨v, w, M6, e5, gw, G5⟩ := word_loop (m := .fl someL) d4.toNat (by omega) G4.get ⟨#[c]⟩ rfl ⟨c, [], rfl, hc d36⟩ (fun x hx => .inl (by
      have : x = c := by simpa using hx
      rw [this]
      exact hc d36))
    refine ⟨w, M6, ?_, gw, ((G1.trans G3).trans G4).trans G5⟩
    have hr : inR d4 = true := by unfold inR; simp; omega
    simp [f_w_word, runDef_eq, b_w_word, bnd_at, lstD_eq, sizeLine_eq, fz, e1, e3, e4, ix_str, hz, ec, hr, e5, len36']
theorem word_frz {M : Mem} {n : Nat} (h : ∃ o, M[n]? = some o ∧ isPool o) : ∃ w M', frzR (f_w_word [.ref n]) M = some (.ok (.str w), M') ∧ GoodW w ∧ PS n M M' := by
  obtain ⟨w, M', e, g, p⟩ := word_spec h
  exact ⟨w, M', frz_ps e p (Ext.refl _) (frD_cl cl_str _), g, p⟩
end K
end
section
set_option Elab.async false
set_option linter.all false
set_option maxRecDepth 100000
set_option maxHeartbeats 4000000
namespace K
open PySem DL
theorem nodup_sub {α : Type} [DecidableEq α] : ∀ {l m : List α}, l.Nodup → (∀ x ∈ l, x ∈ m) → l.length ≤ m.length
  | [], _, _, _ => Nat.zero_le _
  | a :: l, m, h, s => by
    have ha := s a List.mem_cons_self
    have h2 := List.nodup_cons.mp h
    have := nodup_sub (l := l) (m := m.erase a) h2.2 fun x hx => by
      have hne : x ≠ a := fun e => h2.1 (by rw [← e]; exact hx)
      exact (List.mem_erase_of_ne hne).mpr (s x (List.mem_cons_of_mem _ hx))
    rw [List.length_erase_of_mem ha] at this
    have hp : 0 < m.length := List.length_pos_of_mem ha
    simp only [List.length_cons]
    omega
/-- one repair of a name that is taken -/
def fixW (fs : List Str) (w : Str) (c : Nat) : Str := if fs.any (fun f => f == w) = true then L2.cutS w none (some 7) ++ ⟨#[c]⟩ else w
def fixAll (fs : List Str) (w : Str) : List Nat → Str
  | [] => w
  | c :: cs => fixAll fs (fixW fs w c) cs
theorem any_mem {fs : List Str} {w : Str} : fs.any (fun f => f == w) = true ↔ w ∈ fs := by
  rw [List.any_eq_true]
  constructor
  · rintro ⟨x, hx, e⟩
    have : x = w := by simpa using e
    rw [← this]; exact hx
  · exact fun h => ⟨w, h, by simp⟩
theorem cut7 (w : Str) : (L2.cutS w none (some 7)).cps.toList = w.cps.toList.take 7 := by
  have e : (L2.cutS w none (some 7)).cps.toList = (w.cps.toList.drop (HT.sIx w.length 0 none)).take (HT.sIx w.length w.length (some 7) - HT.sIx w.length 0 none) := by
    unfold L2.cutS
    simp
  rw [e]
  have a : HT.sIx w.length 0 none = 0 := rfl
  have b : HT.sIx w.length w.length (some 7) = min 7 w.length := by unfold HT.sIx; simp
  have c : w.length = w.cps.toList.length := by simp [Str.length]
  rw [a, b, c, List.drop_zero, Nat.sub_zero]
  rcases Nat.le_total 7 w.cps.toList.length with h | h
  · rw [Nat.min_eq_left h]
  · rw [Nat.min_eq_right h, List.take_length, List.take_of_length_le h]
theorem fix_list (w : Str) (c : Nat) : (L2.cutS w none (some 7) ++ (⟨#[c]⟩ : Str)).cps.toList = w.cps.toList.take 7 ++ [c] := by
  have := TL.tl_append (L2.cutS w none (some 7)) ⟨#[c]⟩
  show TL.tl _ = _
  rw [this]
  show (L2.cutS w none (some 7)).cps.toList ++ [c] = _
  rw [cut7]
theorem fix_good {fs : List Str} {w : Str} {c : Nat} (g : GoodW w) (hc : c ∈ LET) : GoodW (fixW fs w c) := by
  unfold fixW
  split
  · obtain ⟨c0, r, e, h0⟩ := g.hd
    refine ⟨by rw [fix_list]; simp, by rw [fix_list]; simp; omega, ⟨c0, (r.take 6) ++ [c], by rw [fix_list, e]; rfl, h0⟩, ?_⟩
    rw [fix_list]
    intro x hx
    rcases List.mem_append.mp hx with q | q
    · exact g.al x (List.mem_of_mem_take q)
    · have : x = c := by simpa using q
      rw [this]; exact .inl hc
  · exact g
theorem fixAll_good {fs : List Str} : ∀ {cs : List Nat} {w : Str}, GoodW w → (∀ c ∈ cs, c ∈ LET) → GoodW (fixAll fs w cs)
  | [], w, g, _ => g
  | c :: cs, w, g, h => by
    show GoodW (fixAll fs (fixW fs w c) cs)
    exact fixAll_good (fix_good g (h c List.mem_cons_self)) fun x hx => h x (List.mem_cons_of_mem _ hx)
theorem fixAll_stay {fs : List Str} : ∀ {cs : List Nat} {w : Str}, w ∉ fs → fixAll fs w cs = w
  | [], _, _ => rfl
  | c :: cs, w, h => by
    have e : fixW fs w c = w := by unfold fixW; rw [if_neg (fun z => h (any_mem.mp z))]
    show fixAll fs (fixW fs w c) cs = w
    rw [e]; exact fixAll_stay h
theorem fixAll_in {fs : List Str} : ∀ {cs : List Nat} {w : Str}, fixAll fs w cs ∈ fs → w ∈ fs ∧ ∀ c ∈ cs, c ∈ fs.map fun f => f.cps.toList.getLastD 0
  | [], w, h => ⟨h, fun _ z => by cases z⟩
  | c :: cs, w, h => by
    obtain ⟨h1, h2⟩ := fixAll_in (cs := cs) (w := fixW fs w c) h
    by_cases hw : w ∈ fs
    · refine ⟨hw, fun x hx => ?_⟩
      rcases List.mem_cons.mp hx with e | hx
      · subst e
        have e : fixW fs w x = L2.cutS w none (some 7) ++ ⟨#[x]⟩ := by unfold fixW; rw [if_pos (any_mem.mpr hw)]
        rw [e] at h1
        exact List.mem_map.mpr ⟨_, h1, by rw [fix_list]; simp⟩
      · exact h2 x hx
    · have e : fixW fs w c = w := by unfold fixW; rw [if_neg (fun z => hw (any_mem.mp z))]
      rw [e] at h1
      exact absurd h1 hw
abbrev AG : List Nat := ("abcdefg" : Str).cps.toList
theorem fixAll_free {fs : List Str} {w : Str} (h : fs.length ≤ 5) : fixAll fs w AG ∉ fs := fun z => by
  obtain ⟨_, h2⟩ := fixAll_in z
  have := nodup_sub (by decide +kernel : AG.Nodup) h2
  have e : AG.length = 7 := by decide +kernel
  rw [List.length_map, e] at this
  omega
theorem in_strsL {M : Mem} {m : Nat} {fs : List Str} {w : Str} (h : M[m]? = some (.lst (fs.map .str))) : cmpD .inO (.str w) (.ref m) M = some (.ok (.bl (fs.any fun f => f == w)), M) := by
  have e : inD (.str w) (.ref m) M = some (.ok (fs.any fun f => f == w), M) := by
    show (match (match M[m]? with | some (.lst ds) => some ds | _ => none : Option (List D)) with | some ys => if (D.str w).flat && ys.all D.flat then some (Except.ok (inSeq (.str w) ys), M) else none | none => none) = _
    rw [h]
    dsimp only
    have a : (fs.map D.str).all D.flat = true := by simp [D.flat]
    rw [a, if_pos (by rfl)]
    unfold inSeq
    rw [List.any_map]
    rfl
  show bnd (inD _ _) _ M = _
  rw [bnd_ok e]
/-- the inner loop -/
theorem tag_inner {M : Mem} {m : Nat} {fs : List Str} (h : M[m]? = some (.lst (fs.map .str))) (p q r : Option D) : ∀ (cs : List Nat) (w : Str) (v : Option D), GoodW w → (∀ c ∈ cs, c ∈ LET) →
    ∃ v', forL none (bodyF t_w_tags (.nm 5) l_w_tags_1) (cs.map fun c => .str ⟨#[c]⟩) [p, q, some (.ref m), r, some (.str w), v] M = some (.ok (.nx [p, q, some (.ref m), r, some (.str (fixAll fs w cs)), v']), M)
  | [], w, v, _, _ => ⟨v, by simp [fixAll]⟩
  | c :: cs, w, v, g, hc => by
    obtain ⟨v', e⟩ := tag_inner h p q r cs (fixW fs w c) (some (.str ⟨#[c]⟩)) (fix_good g (hc c List.mem_cons_self)) fun x hx => hc x (List.mem_cons_of_mem _ hx)
    refine ⟨v', ?_⟩
    have body : bodyF t_w_tags (.nm 5) l_w_tags_1 (.str ⟨#[c]⟩) [p, q, some (.ref m), r, some (.str w), v] M = some (.ok (.nx [p, q, some (.ref m), r, some (.str (fixW fs w c)), some (.str ⟨#[c]⟩)]), M) := by
      have hl : w.length ≤ 8 := by rw [len_of]; exact g.hi
      by_cases hw : fs.any (fun f => f == w) = true
      · have hs : (L2.cutS w none (some 7)).length + (⟨#[c]⟩ : Str).length ≤ sizeLine := by
          have a := L2.cutS_length w none (some 7)
          have b : (⟨#[c]⟩ : Str).length = 1 := rfl
          rw [sizeLine_eq]
          omega
        have hl' : w.length ≤ sizeLine := by rw [sizeLine_eq]; omega
        have es : getSl (.str w) none (some 7) M = some (.ok (.str (L2.cutS w none (some 7))), M) := by
          show (if w.length ≤ sizeLine then _ else _) = _
          rw [if_pos hl']
        have ef : fixW fs w c = L2.cutS w none (some 7) ++ ⟨#[c]⟩ := by unfold fixW; rw [if_pos hw]
        simp [bodyF, l_w_tags_1, bnd_at, in_strsL h, hw, optI, es, hs, ef]
      · have ef : fixW fs w c = w := by unfold fixW; rw [if_neg hw]
        have hw' : fs.any (fun f => f == w) = false := Bool.eq_false_iff.mpr hw
        simp [bodyF, l_w_tags_1, bnd_at, in_strsL h, hw', ef]
    rw [List.map_cons, forL_step rfl body]
    exact e
theorem ag_let : ∀ c ∈ AG, c ∈ LET := by decide +kernel
/-- the outer loop -/
theorem tag_outer {M : Mem} {n : Nat} (h : ∃ o, M[n]? = some o ∧ isPool o) (k : Nat) (hk : k ≤ 6) (q : Option D) :
    ∃ (r s v : Option D) (Mp : Mem) (fs : List Str), forL none (bodyF t_w_tags (.nm 3) l_w_tags_2) (rangeD 0 k) [some (.ref n), q, some (.ref M.length), none, none, none] (M ++ [.lst []]) = some (.ok (.nx [some (.ref n), q, some (.ref M.length), r, s, v]), Mp ++ [.lst (fs.map .str)]) ∧ PS n M Mp ∧ fs.length = k ∧ fs.Nodup ∧ (∀ w ∈ fs, GoodW w) := by
  obtain ⟨env', M', e, r, s, v, Mp, fs, rfl, rfl, G, h2, h3, h4⟩ := forL_0 (g := none) (turn := bodyF t_w_tags (.nm 3) l_w_tags_2) (ds := rangeD 0 k) (M := M ++ [.lst []]) (env := [some (.ref n), q, some (.ref M.length), none, none, none])
    (fun i env M' => ∃ (r s v : Option D) (Mp : Mem) (fs : List Str), env = [some (.ref n), q, some (.ref M.length), r, s, v] ∧ M' = Mp ++ [.lst (fs.map .str)] ∧ PS n M Mp ∧ fs.length = i ∧ fs.Nodup ∧ (∀ w ∈ fs, GoodW w))
    (fun _ _ _ _ => rfl) ⟨none, none, none, M, [], rfl, rfl, .refl h, rfl, .nil, fun _ z => (by cases z)⟩ (by
      rintro i d env M1 hi ⟨r, s, v, Mp, fs, rfl, rfl, G, h2, h3, h4⟩
      have hik : i < k := by
        have := (List.getElem?_eq_some_iff.mp hi).1
        rwa [rngLen] at this
      have hml : Mp.length = M.length := by obtain ⟨o, _, rfl, _⟩ := G; simp
      have hp : ∃ o, (Mp ++ [O.lst (fs.map .str)])[n]? = some o ∧ isPool o := let ⟨o, e, p⟩ := G.get; ⟨o, get_app e _, p⟩
      obtain ⟨w, M2, e1, gw, G1⟩ := word_frz hp
      obtain ⟨o, po, rfl, _⟩ := G1
      have hnl : n < Mp.length := by rw [hml]; exact G.choose_spec.2.2
      rw [List.set_append_left _ _ hnl] at e1
      have hm2 : (Mp.set n o).length = M.length := by rw [List.length_set, hml]
      have x2 : (Mp.set n o ++ [O.lst (fs.map .str)])[M.length]? = some (.lst (fs.map .str)) := by rw [← hm2]; exact get_new
      obtain ⟨v', e2⟩ := tag_inner x2 (some (.ref n)) q (some d) AG w v gw ag_let
      have hfree := fixAll_free (fs := fs) (w := w) (by omega)
      have hz : fs.length < sizeLine := by rw [sizeLine_eq]; omega
      have st : (Mp.set n o ++ [O.lst (fs.map .str)]).set M.length (.lst ((fs ++ [fixAll fs w AG]).map .str)) = Mp.set n o ++ [O.lst ((fs ++ [fixAll fs w AG]).map .str)] := by rw [← hm2, set_mid]
      refine ⟨_, _, ?_, some d, some (.str (fixAll fs w AG)), v', Mp.set n o, fs ++ [fixAll fs w AG], rfl, rfl, G.trans ⟨o, po, rfl, hnl⟩, by simp [h2], ?_, ?_⟩
      · rw [← st]
        simp [bodyF, l_w_tags_2, bnd_at, e1, e2, tyChk_ref, x2, append_ref, hz]
      · rw [List.nodup_append]
        refine ⟨h3, by simp, fun a ha b hb => ?_⟩
        have : b = fixAll fs w AG := by simpa using hb
        rw [this]
        rintro rfl
        exact hfree ha
      · intro x hx
        rcases List.mem_append.mp hx with z | z
        · exact h4 x z
        · have : x = fixAll fs w AG := by simpa using z
          rw [this]
          exact fixAll_good gw ag_let)
  rw [rngLen] at h2
  exact ⟨r, s, v, Mp, fs, e, G, h2, h3, h4⟩
theorem strsOf_map : ∀ fs : List Str, strsOf (fs.map D.str) = some fs
  | [] => rfl
  | f :: fs => by
    have ih := strsOf_map fs
    unfold strsOf at ih ⊢
    rw [List.map_cons, mapO, ih]
theorem sort_rising {fs : List Str} (h : fs.Nodup) : Rising (sortStrs fs) := by
  have s : (sortStrs fs).Pairwise (fun a b => leS a b = true) := List.pairwise_mergeSort (le := leS) (fun a b c => leS_trans a b c) (fun a b => leS_total a b) fs
  have p : (sortStrs fs).Perm fs := List.mergeSort_perm fs _
  have nd : (sortStrs fs).Nodup := p.nodup_iff.mpr h
  unfold Rising
  refine List.Pairwise.imp₂ ?_ s nd
  intro a b hab hne
  by_cases hlt : a.cps.toList < b.cps.toList
  · exact hlt
  · have : leS b a = true := by unfold leS; simp [hlt]
    exact absurd (leS_antisymm a b hab this) hne
theorem inR_small {k : Int} (h0 : 0 ≤ k) (h1 : k ≤ 1000) : inR k = true := by
  unfold inR
  exact decide_eq_true ⟨by omega, by omega⟩
theorem sorted_at {M : Mem} {m : Nat} {fs : List Str} (h : M[m]? = some (.lst (fs.map .str))) (hl : fs.length < 64) : bfun .sorted [.ref m] M = some (.ok (.ref M.length), M ++ [.lst ((sortStrs fs).map .str)]) := by
  have e : tlOf M (.ref m) = some (fs.map .str) := by
    unfold tlOf
    dsimp only
    rw [h]
  unfold bfun sortedB
  dsimp only
  rw [e]
  dsimp only
  rw [strsOf_map]
  dsimp only
  rw [if_pos hl]
  rfl
theorem tags_raw {M : Mem} {n : Nat} (h : ∃ o, M[n]? = some o ∧ isPool o) (k : Nat) (hk : k ≤ 6) : ∃ (Mp M' : Mem) (fs : List Str) (m : Nat), f_w_tags [.ref n, .int k] M = some (.ok (.ref m), M') ∧ Ext Mp M' ∧ M.length ≤ m ∧ M'[m]? = some (.lst (fs.map .str)) ∧ fs.length = k ∧ Rising fs ∧ (∀ w ∈ fs, GoodW w) ∧ PS n M Mp := by
  obtain ⟨r, s, v, Mp, fs, e, G, h2, h3, h4⟩ := tag_outer (q := some (.int k)) h k hk
  have p : (sortStrs fs).Perm fs := List.mergeSort_perm fs _
  have hml : Mp.length = M.length := by obtain ⟨o, _, rfl, _⟩ := G; simp
  have h1 : (Mp ++ [O.lst (fs.map D.str)])[M.length]? = some (.lst (fs.map .str)) := by rw [← hml]; exact get_new
  have hs := sorted_at h1 (show fs.length < 64 by omega)
  have hr := inR_small (k := (k : Int)) (by omega) (by omega)
  refine ⟨Mp, (Mp ++ [O.lst (fs.map D.str)]) ++ [O.lst ((sortStrs fs).map D.str)], sortStrs fs, (Mp ++ [O.lst (fs.map D.str)]).length, ?_, ⟨[O.lst (fs.map D.str), .lst ((sortStrs fs).map .str)], ?_⟩, by rw [List.length_append, hml]; simp, get_new, by rw [p.length_eq, h2], sort_rising h3, fun w hw => h4 w (p.mem_iff.mp hw), G⟩
  · have z : (0 : Nat) ≤ sizeLine := Nat.zero_le _
    simp [f_w_tags, runDef_eq, b_w_tags, bnd_at, lstD_eq, hr, e, hs]
  · simp
theorem tags_int {M : Mem} {n : Nat} (h : ∃ o, M[n]? = some o ∧ isPool o) (j : Int) (h0 : 0 ≤ j) (hk : j ≤ 6) : ∃ (Mp M' : Mem) (fs : List Str) (m : Nat), f_w_tags [.ref n, .int j] M = some (.ok (.ref m), M') ∧ Ext Mp M' ∧ M.length ≤ m ∧ M'[m]? = some (.lst (fs.map .str)) ∧ (fs.length : Int) = j ∧ Rising fs ∧ (∀ w ∈ fs, GoodW w) ∧ PS n M Mp := by
  obtain ⟨Mp, M', fs, m, e, h1, h2, h3, h4, h5⟩ := tags_raw h j.toNat (by omega)
  have ej : ((j.toNat : Nat) : Int) = j := by omega
  rw [ej] at e
  exact ⟨Mp, M', fs, m, e, h1, h2, h3, by omega, h5⟩
end K
end
section
set_option Elab.async false
set_option linter.all false
set_option maxRecDepth 100000
set_option maxHeartbeats 4000000
namespace K
open PySem DL
theorem PS.lt {n : Nat} {A B : Mem} (h : PS n A B) : n < A.length := let ⟨_, _, _, h⟩ := h; h
theorem PS.len {n : Nat} {A B : Mem} (h : PS n A B) : B.length = A.length := by obtain ⟨o, _, rfl, _⟩ := h; simp
theorem PS.app {n : Nat} {A N B : Mem} (h : PS n (A ++ N) B) (hn : n < A.length) : ∃ A', B = A' ++ N ∧ PS n A A' := by
  obtain ⟨o, p, rfl, _⟩ := h
  exact ⟨A.set n o, List.set_append_left _ _ hn, o, p, rfl, hn⟩
theorem pool_app {n : Nat} {A N : Mem} (h : ∃ o, A[n]? = some o ∧ isPool o) : ∃ o, (A ++ N)[n]? = some o ∧ isPool o := let ⟨o, e, p⟩ := h; ⟨o, get_app e _, p⟩
/-- a comprehension whose turns draw -/
theorem comp_ps {α : Type} {n : Nat} {M : Mem} {turn : D → R (Option D)} (a : α → D) (P : α → D → Prop) : ∀ (xs : List α) (acc : List D) (Mp : Mem), acc.length + xs.length ≤ 16777216 → PS n M Mp →
    (∀ x ∈ xs, ∀ acc Mp, PS n M Mp → ∃ d Mp', turn (a x) (Mp ++ [.lst acc]) = some (.ok (some d), Mp' ++ [.lst acc]) ∧ P x d ∧ PS n M Mp') →
    ∃ (ps : List (α × D)) (Mp' : Mem), compL none M.length turn (xs.map a) (Mp ++ [.lst acc]) = some (.ok (), Mp' ++ [.lst (acc ++ ps.map (·.2))]) ∧ PS n M Mp' ∧ ps.map (·.1) = xs ∧ ∀ p ∈ ps, P p.1 p.2
  | [], acc, Mp, _, G, _ => ⟨[], Mp, by show some (Except.ok (), _) = _; simp, G, rfl, fun _ h => by cases h⟩
  | x :: xs, acc, Mp, hz, G, ht => by
    obtain ⟨d, M1, e1, p1, G1⟩ := ht x List.mem_cons_self acc Mp G
    have hz' : acc.length + xs.length + 1 ≤ 16777216 := by simpa [Nat.add_assoc] using hz
    obtain ⟨ps, M2, e2, G2, p2, p3⟩ := comp_ps a P xs (acc ++ [d]) M1 (by simp; omega) G1 fun y hy => ht y (List.mem_cons_of_mem _ hy)
    refine ⟨(x, d) :: ps, M2, ?_, G2, by rw [List.map_cons, p2], fun q hq => by
      rcases List.mem_cons.mp hq with e | hq
      · rw [e]; exact p1
      · exact p3 q hq⟩
    rw [List.map_cons]
    show bnd (turn (a x)) _ _ = _
    have hl : M1.length = M.length := G1.len
    have hp : push M.length d (M1 ++ [O.lst acc]) = some (.ok (), M1 ++ [O.lst (acc ++ [d])]) := by
      unfold push
      rw [← hl, get_new]
      dsimp only
      rw [if_pos (by rw [sizeLine_eq]; omega), set_mid]
    rw [bnd_ok e1]
    dsimp only
    rw [bnd_ok hp, e2]
    simp
theorem shape_turn {M : Mem} {n : Nat} {y z v : Option D} {top : Int} {w : Str} (h : ∃ o, M[n]? = some o ∧ isPool o) (h1 : 1 ≤ top) (h2 : top ≤ 1000) :
    ∃ d M', turnL t_w_shape (.nm 4) .yes e_w_shape_1 [4] [some (.ref n), y, z, some (.int top), v] (.str w) M = some (.ok (some (kd (w, d))), M') ∧ 1 ≤ d ∧ d ≤ top ∧ PS n M M' := by
  obtain ⟨d, M', e, d0, d1, G⟩ := draw_frz h h1 h2
  refine ⟨1 + d, M', ?_, by omega, by omega, G⟩
  simp [turnL, wipeE, e_w_shape_1, bnd_at, e, tupD_eq, sizeLine_eq]
theorem top_at (wide k : Int) (h0 : 0 ≤ k) (h1 : k < 3) (hw : 2 ≤ wide ∧ wide ≤ 60) : ∃ t, L2.atI [D.int wide, .int (1 + wide / 3), .int 2] k = some (.int t) ∧ 1 ≤ t ∧ t ≤ wide := by
  rw [at_pos h0 (by simpa using h1)]
  have : k = 0 ∨ k = 1 ∨ k = 2 := by omega
  rcases this with rfl | rfl | rfl
  · exact ⟨_, rfl, by omega, by omega⟩
  · exact ⟨_, rfl, by omega, by omega⟩
  · exact ⟨_, rfl, by omega, by omega⟩
theorem pick_ps {P : Int → Prop} : ∀ (qs : List (Str × D)), (∀ q ∈ qs, ∃ z : Int, q.2 = kd (q.1, z) ∧ P z) → ∃ ps : List (Str × Int), qs.map (·.2) = ps.map kd ∧ ps.map (·.1) = qs.map (·.1) ∧ ∀ p ∈ ps, P p.2
  | [], _ => ⟨[], rfl, rfl, fun _ h => by cases h⟩
  | q :: qs, h => by
    obtain ⟨z, e, hz⟩ := h q List.mem_cons_self
    obtain ⟨ps, h1, h2, h3⟩ := pick_ps qs fun x hx => h x (List.mem_cons_of_mem _ hx)
    refine ⟨(q.1, z) :: ps, by rw [List.map_cons, List.map_cons, h1, e], by rw [List.map_cons, List.map_cons, h2], fun p hp => ?_⟩
    rcases List.mem_cons.mp hp with e | hp
    · rw [e]; exact hz
    · exact h3 p hp
theorem shape_frz {M : Mem} {n : Nat} (h : ∃ o, M[n]? = some o ∧ isPool o) : ∃ (wide : Int) (ps : List (Str × Int)) (M' : Mem), f_w_shape [.ref n] M = some (.ok (.tup [.int wide, kds ps]), M') ∧ Kinds wide ps ∧ PS n M M' := by
  obtain ⟨d1, M1, e1, a0, a1, G1⟩ := draw_frz h (k := 59) (by decide) (by decide)
  obtain ⟨d2, M2, e2, b0, b1, G2⟩ := draw_frz G1.get (k := 6) (by decide) (by decide)
  obtain ⟨M3, M3', fs, m, e3, X3, hml, hm, hl, hr, hg, G3⟩ := tags_int G2.get (1 + d2) (by omega) (by omega)
  have f3 : frzR (bnd (frzR (f_w_draw [.ref n, .int 6])) fun x => bnd (binD .add (.int 1) x) fun y => noErr (f_w_tags [.ref n, y])) M1 = some (.ok (.fl (fs.map .str)), M3) := by
    refine frz_ps (M' := M3') (d := .ref m) ?_ (G2.trans G3) X3 (frD_lst (by have := G2.len; omega) hm (cls_strs _))
    rw [bnd_ok e2]
    simp [e3]
  have hw : 2 ≤ 2 + d1 ∧ 2 + d1 ≤ 60 := ⟨by omega, by omega⟩
  obtain ⟨d4, M4', e4, c0, c1, G4'⟩ := draw_frz (M := M3 ++ [O.lst [D.int (2 + d1), .int (1 + (2 + d1) / 3), .int 2]]) (pool_app G3.get) (k := 3) (by decide) (by decide)
  obtain ⟨M4, rfl, G4⟩ := G4'.app (by have := G3.len; have := G3.lt; omega)
  obtain ⟨t, et, t1, t2⟩ := top_at (2 + d1) d4 c0 c1 hw
  have f4 : frzR (bnd (new (.lst [D.int (2 + d1), .int (1 + (2 + d1) / 3), .int 2])) fun x => bnd (frzR (f_w_draw [.ref n, .int 3])) fun y => getIx x y) M3 = some (.ok (.int t), M4) := by
    refine frz_ps (M' := M4 ++ [O.lst [D.int (2 + d1), .int (1 + (2 + d1) / 3), .int 2]]) (d := .int t) ?_ G4 (Ext.add _ _) (frD_cl cl_int _)
    show bnd (frzR (f_w_draw [.ref n, .int 3])) _ _ = _
    rw [bnd_ok e4, ← G4.len, ix_ref, get_new]
    dsimp only
    rw [et]
  obtain ⟨qs, M5, e5, G5, q1, q2⟩ := comp_ps (n := n) (M := M4) (turn := turnL t_w_shape (.nm 4) .yes e_w_shape_1 [4] [some (.ref n), some (.int (2 + d1)), some (.fl (fs.map .str)), some (.int t), none]) D.str (fun w d => ∃ z : Int, d = kd (w, z) ∧ 1 ≤ z ∧ z ≤ t) fs [] M4 (by simp; omega) (.refl G4.get) (by
    intro w _ acc Mp G
    obtain ⟨d, M', e, d0, d1', G'⟩ := shape_turn (M := Mp ++ [.lst acc]) (y := some (.int (2 + d1))) (z := some (.fl (fs.map .str))) (v := none) (w := w) (pool_app G.get) t1 (show t ≤ 1000 by omega)
    obtain ⟨Mq, rfl, G2'⟩ := G'.app (by have := G.len; have := G.lt; omega)
    exact ⟨_, Mq, e, ⟨d, rfl, d0, d1'⟩, G.trans G2'⟩)
  obtain ⟨ps, hps, hpf, hsz⟩ := pick_ps (P := fun z => 1 ≤ z ∧ z ≤ t) qs q2
  have f5 : frzR (evE t_w_shape (.bcall .tuple (.cons (.comp (.of (.var 2)) (.nm 4) .yes e_w_shape_1 [4]) .nil)) [some (.ref n), some (.int (2 + d1)), some (.fl (fs.map .str)), some (.int t), none]) M4 = some (.ok (kds ps), M5) := by
    refine frz_ps (M' := M5 ++ [O.lst (ps.map kd)]) (d := kds ps) ?_ G5 (Ext.add _ _) (frD_cl (cls_kds ps) _)
    rw [List.nil_append, hps] at e5
    have tp := tuple_at (M := M5 ++ [O.lst (ps.map kd)]) (m := M4.length) (ds := ps.map kd) (by rw [← G5.len]; exact get_new)
    simp [bnd_at, e5, tp]
  rw [q1] at hpf
  have ln : ps.length = fs.length := by rw [← hpf, List.length_map]
  refine ⟨2 + d1, ps, M5, ?_, ⟨by omega, by omega, by omega, by omega, by rw [hpf]; exact hr, fun p hp => hg _ (by rw [← hpf]; exact List.mem_map_of_mem hp), fun p hp => ⟨(hsz p hp).1, by have := (hsz p hp).2; omega⟩⟩, (((G1.trans G2).trans G3).trans G4).trans G5⟩
  simp at f5
  simp [f_w_shape, runDef_eq, b_w_shape, bnd_at, e1, f3, f4, f5, lstD_eq, tupD_eq, sizeLine_eq]
end K
end
section
set_option Elab.async false
set_option linter.all false
set_option maxRecDepth 100000
set_option maxHeartbeats 4000000
namespace K
open PySem DL
theorem max_fl {ns : List Int} {m : Int} (h : maxOf ns = some m) : bfun .max [.fl (ns.map D.int)] = ret (.int m) := by
  funext M
  unfold bfun maxB
  dsimp only
  rw [show tlOf M (.fl (ns.map D.int)) = some (ns.map D.int) from rfl]
  dsimp only
  rw [mapO_int]
  dsimp only
  rw [h]
theorem other_room_frz {M : Mem} {n : Nat} (h : ∃ o, M[n]? = some o ∧ isPool o) {wide low : Int} {ps : List (Str × Int)} (K : Kinds wide ps) (hm : maxOf (ps.map (·.2)) = some low) (hl : 1 ≤ low ∧ low ≤ wide) :
    ∃ (far : Option Int) (M' : Mem), frzR (f_w_other_room [.ref n, .int wide, .fl ((ps.map (·.2)).map D.int)]) M = some (.ok (farD far), M') ∧ roomOk wide ps far ∧ PS n M M' := by
  have w2 := K.rhi
  obtain ⟨d1, M1, e1, a0, a1, G1⟩ := draw_frz h (k := 4) (by decide) (by decide)
  obtain ⟨d2, M2, e2, b0, b1, G2⟩ := draw_frz G1.get (k := 61 - low) (by omega) (by omega)
  obtain ⟨d3, M3, e3, c0, c1, G3⟩ := draw_frz G2.get (k := 7) (by decide) (by decide)
  have mx := max_fl hm
  have f1 : frzR (bnd (frzR (f_w_draw [.ref n, .int 4])) fun x => bnd (binD .add (.int low) x) fun y => bfun .min [y, .int 60]) M = some (.ok (.int (if (60 : Int) < low + d1 then 60 else low + d1)), M1) := by
    refine frz_ps (d := .int (if (60 : Int) < low + d1 then 60 else low + d1)) ?_ G1 (Ext.refl _) (frD_cl cl_int _)
    rw [bnd_ok e1]
    simp
  generalize hv : (if (60 : Int) < low + d1 then 60 else low + d1) = v at f1
  have f2 : frzR (evE t_w_other_room (.lst (.cons (.con .non) (.cons (.con .non) (.cons (.var 1) (.cons (.var 3) (.cons (.frz (.bcall .min (.cons (.bin .add (.var 3) (.frz (.own 1002 (.cons (.var 0) (.cons (.con (.int 4)) (.nil))) (.nil) [.arg 0, .arg 1]))) (.cons (.con (.int 60)) (.nil))))) (.cons (.bin .add (.var 3) (.frz (.own 1002 (.cons (.var 0) (.cons (.bin .sub (.con (.int 61)) (.var 3)) (.nil))) (.nil) [.arg 0, .arg 1]))) (.cons (.con (.int 60)) (.nil))))))))) [some (.ref n), some (.int wide), some (.fl ((ps.map (·.2)).map D.int)), some (.int low), none]) M = some (.ok (.fl [.non, .non, .int wide, .int low, .int v, .int (low + d2), .int 60]), M2) := by
    refine frz_ps (M' := M2 ++ [O.lst [.non, .non, .int wide, .int low, .int v, .int (low + d2), .int 60]]) (d := .ref M2.length) ?_ (G1.trans G2) (Ext.add _ _) (frD_lst (by have := (G1.trans G2).len; omega) get_new (by simp))
    simp [bnd_at, f1, e2, lstD_eq, sizeLine_eq]
  simp at f2
  obtain ⟨far, ef, hf⟩ : ∃ far : Option Int, L2.atI [D.non, .non, .int wide, .int low, .int v, .int (low + d2), .int 60] d3 = some (farD far) ∧ roomOk wide ps far := by
    rw [at_pos c0 (by simpa using c1)]
    have q : d3.toNat = 0 ∨ d3.toNat = 1 ∨ d3.toNat = 2 ∨ d3.toNat = 3 ∨ d3.toNat = 4 ∨ d3.toNat = 5 ∨ d3.toNat = 6 := by omega
    have v1 : low ≤ v ∧ v ≤ 60 := by rw [← hv]; split <;> omega
    rcases q with q | q | q | q | q | q | q <;> rw [q]
    · exact ⟨none, rfl, fun r h => by cases h⟩
    · exact ⟨none, rfl, fun r h => by cases h⟩
    · exact ⟨some wide, rfl, fun r h => by cases h; exact ⟨low, hm, hl.2, w2⟩⟩
    · exact ⟨some low, rfl, fun r h => by cases h; exact ⟨low, hm, by omega, by omega⟩⟩
    · exact ⟨some v, rfl, fun r h => by cases h; exact ⟨low, hm, v1.1, v1.2⟩⟩
    · exact ⟨some (low + d2), rfl, fun r h => by cases h; exact ⟨low, hm, by omega, by omega⟩⟩
    · exact ⟨some 60, rfl, fun r h => by cases h; exact ⟨low, hm, by omega, by omega⟩⟩
  have cf : D.cl (farD far) = true := by cases far <;> simp [farD]
  refine ⟨far, M3, frz_ps (d := farD far) ?_ ((G1.trans G2).trans G3) (Ext.refl _) (frD_cl cf _), hf, (G1.trans G2).trans G3⟩
  simp [f_w_other_room, runDef_eq, b_w_other_room, bnd_at, mx, f2, e3, ix_fl, ef, -List.map_map]
end K
end
section
set_option Elab.async false
set_option linter.all false
set_option maxRecDepth 100000
set_option maxHeartbeats 4000000
namespace K
open PySem DL
abbrev renv (n : Nat) (wide : Int) (kp gv : D) (v4 v5 v6 v7 v8 v9 v10 v11 v12 : Option D) : DL.Env := [some (.ref n), some (.int wide), some kp, some gv, v4, v5, v6, v7, v8, v9, v10, v11, v12, none, none, none]
theorem nat_ps {b : Nat} : ∀ (qs : List (Nat × D)), (∀ q ∈ qs, ∃ z : Int, q.2 = .int z ∧ 0 ≤ z ∧ z < b) → ∃ ks : List Nat, qs.map (·.2) = ks.map (fun (k : Nat) => D.int k) ∧ ks.length = qs.length ∧ ∀ k ∈ ks, k < b
  | [], _ => ⟨[], rfl, rfl, fun _ h => by cases h⟩
  | q :: qs, h => by
    obtain ⟨z, e, z0, z1⟩ := h q List.mem_cons_self
    obtain ⟨ks, h1, h2, h3⟩ := nat_ps qs fun x hx => h x (List.mem_cons_of_mem _ hx)
    refine ⟨z.toNat :: ks, ?_, by simp [h2], fun k hk => ?_⟩
    · rw [List.map_cons, List.map_cons, h1, e]
      congr 2
      omega
    · rcases List.mem_cons.mp hk with e | hk
      · rw [e]; omega
      · exact h3 k hk
theorem items_frz {M : Mem} {n : Nat} (h : ∃ o, M[n]? = some o ∧ isPool o) {ps : List (Str × Int)} (l1 : 1 ≤ ps.length) (l6 : ps.length ≤ 6) {wide : Int} {gv : D} {v4 v5 v6 v7 v8 v9 v10 v11 v12 : Option D} :
    ∃ (ks : List Nat) (M' : Mem), frzR (evE t_w_right (.comp (.rng (.frz (.own 1002 (.cons (.var 0) (.cons (.con (.int 15)) (.nil))) (.nil) [.arg 0, .arg 1]))) (.nm 14) .yes e_w_right_2 [14]) (renv n wide (kds ps) gv v4 v5 v6 v7 v8 v9 v10 v11 v12)) M = some (.ok (.fl (ks.map fun (k : Nat) => .int k)), M') ∧ ks.length ≤ 14 ∧ (∀ k ∈ ks, k < ps.length) ∧ PS n M M' := by
  obtain ⟨d1, M1, e1, a0, a1, G1⟩ := draw_frz h (k := 15) (by decide) (by decide)
  obtain ⟨qs, M2, e2, G2, q1, q2⟩ := comp_ps (n := n) (M := M1) (turn := turnL t_w_right (.nm 14) .yes e_w_right_2 [14] (renv n wide (kds ps) gv v4 v5 v6 v7 v8 v9 v10 v11 v12)) (fun (i : Nat) => D.int ((0 : Int) + i)) (fun _ d => ∃ z : Int, d = .int z ∧ 0 ≤ z ∧ z < (ps.length : Nat)) (List.range d1.toNat) [] M1 (by simp; omega) (.refl G1.get) (by
    intro i _ acc Mp G
    obtain ⟨d, M', e, d0, d2, G'⟩ := draw_frz (M := Mp ++ [.lst acc]) (n := n) (pool_app G.get) (k := (ps.length : Int)) (by omega) (by omega)
    obtain ⟨Mq, rfl, G2'⟩ := G'.app (by have := G.len; have := G.lt; omega)
    refine ⟨_, Mq, ?_, ⟨d, rfl, d0, d2⟩, G.trans G2'⟩
    simp [turnL, wipeE, e_w_right_2, bnd_at, e])
  obtain ⟨ks, k1, k2, k3⟩ := nat_ps qs (fun q hq => q2 q hq)
  have hk : ks.length ≤ 14 := by
    have : (qs.map (·.1)).length = d1.toNat := by rw [q1, List.length_range]
    rw [List.length_map] at this
    omega
  rw [List.nil_append, k1] at e2
  rw [← rangeD_map] at e2
  have hr : inR d1 = true := by unfold inR; simp; omega
  have cl : D.cls (ks.map fun (k : Nat) => D.int k) = true := cls_map fun _ _ => cl_int
  refine ⟨ks, M2, frz_ps (M' := M2 ++ [O.lst (ks.map fun (k : Nat) => .int k)]) (d := .ref M1.length) ?_ (G1.trans G2) (Ext.add _ _) ?_, hk, k3, G1.trans G2⟩
  · simp [bnd_at, e1, hr, e2]
  · refine frD_lst (by have := G1.len; omega) ?_ cl
    rw [← G2.len]; exact get_new
theorem at_nat {α β : Type} {f : α → β} {xs : List α} {k : Nat} (hk : k < xs.length) : L2.atI (xs.map f) (k : Int) = some (f xs[k]) := by
  rw [at_pos (by omega) (by rw [List.length_map]; omega)]
  show (xs.map f)[k]? = _
  rw [List.getElem?_map, List.getElem?_eq_getElem hk]
  rfl
/-- the items of these indexes -/
def itsOf (ps : List (Str × Int)) (ks : List Nat) : List (Str × Int) := ks.map fun k => ps.getD k (⟨#[]⟩, 0)
theorem itsOf_mem {ps : List (Str × Int)} {ks : List Nat} (h : ∀ k ∈ ks, k < ps.length) : ∀ q ∈ itsOf ps ks, q ∈ ps := by
  intro q hq
  obtain ⟨k, hk, rfl⟩ := List.mem_map.mp hq
  rw [List.getD_eq_getElem?_getD, List.getElem?_eq_getElem (h k hk)]
  exact List.getElem_mem _
theorem names_frz {ps : List (Str × Int)} {ks : List Nat} (hl : ks.length ≤ 100) (h : ∀ k ∈ ks, k < ps.length) {n : Nat} {wide : Int} {gv : D} {v4 v5 v7 v8 v9 v10 v11 v12 : Option D} :
    frzR (evE t_w_right (.ptC (.cons (.comp (.of (.var 6)) (.nm 15) (.yes) e_w_right_3 [15]) (.nil))) (renv n wide (kds ps) gv v4 v5 (some (.fl (ks.map fun (k : Nat) => .int k))) v7 v8 v9 v10 v11 v12)) = DL.ret (rowD ((itsOf ps ks).map (·.1))) := by
  have c := evE_comp_map (T := t_w_right) (it := .of (.var 6)) (g := .nm 15) (tt := .yes) (e := e_w_right_3) (own := [15]) (env := renv n wide (kds ps) gv v4 v5 (some (.fl (ks.map fun (k : Nat) => .int k))) v7 v8 v9 v10 v11 v12) (xs := ks) (fun (k : Nat) => D.int k) (fun k => .str (ps.getD k (⟨#[]⟩, 0)).1) (by simp) (by omega) (by
    intro k hk
    have e : getIx (kds ps) (.int (k : Int)) = DL.ret (kd (ps[k]'(h k hk))) := ix_tupE (at_nat (h k hk))
    have g : ps.getD k (⟨#[]⟩, 0) = ps[k]'(h k hk) := by rw [List.getD_eq_getElem?_getD, List.getElem?_eq_getElem (h k hk)]; rfl
    rw [g]
    generalize kds ps = kp at e ⊢
    simp [turnL, wipeE, e_w_right_3, e])
  rw [evE_ptC, evEs_cons, evEs_nil, c]
  simp only [bnd_assocS, bnd_ret]
  have e2 : (ks.map fun k => D.str (ps.getD k (⟨#[]⟩, 0)).1) = ((itsOf ps ks).map (·.1)).map D.str := by unfold itsOf; rw [List.map_map, List.map_map]; rfl
  rw [e2]
  refine frz_newB (by rw [cl_pt]; exact cls_strs _) fun M => ?_
  show ptCD (.ref M.length) _ = _
  unfold ptCD
  rw [lstOf_ref get_new]
theorem own_frz {ps : List (Str × Int)} {ks : List Nat} (hl : ks.length ≤ 100) (h : ∀ k ∈ ks, k < ps.length) {n : Nat} {wide : Int} {gv kp : D} {v5 v7 v8 v9 v10 v11 v12 : Option D} :
    frzR (evE t_w_right (.comp (.of (.var 6)) (.nm 15) (.yes) e_w_right_5 [15]) (renv n wide kp gv (some (.fl ((ps.map (·.2)).map D.int))) v5 (some (.fl (ks.map fun (k : Nat) => .int k))) v7 v8 v9 v10 v11 v12)) = DL.ret (.fl (((itsOf ps ks).map (·.2)).map D.int)) := by
  have c := evE_comp_map (T := t_w_right) (it := .of (.var 6)) (g := .nm 15) (tt := .yes) (e := e_w_right_5) (own := [15]) (env := renv n wide kp gv (some (.fl ((ps.map (·.2)).map D.int))) v5 (some (.fl (ks.map fun (k : Nat) => .int k))) v7 v8 v9 v10 v11 v12) (xs := ks) (fun (k : Nat) => D.int k) (fun k => .int (ps.getD k (⟨#[]⟩, 0)).2) (by simp) (by omega) (by
    intro k hk
    have e : getIx (.fl ((ps.map (·.2)).map D.int)) (.int (k : Int)) = DL.ret (.int (ps[k]'(h k hk)).2) := ix_flE (by
      rw [List.map_map]
      exact at_nat (h k hk))
    have g : ps.getD k (⟨#[]⟩, 0) = ps[k]'(h k hk) := by rw [List.getD_eq_getElem?_getD, List.getElem?_eq_getElem (h k hk)]; rfl
    rw [g]
    generalize (ps.map (·.2)).map D.int = kq at e ⊢
    simp [turnL, wipeE, e_w_right_5, e])
  rw [c]
  have e2 : (ks.map fun k => D.int (ps.getD k (⟨#[]⟩, 0)).2) = ((itsOf ps ks).map (·.2)).map D.int := by unfold itsOf; rw [List.map_map, List.map_map]; rfl
  rw [e2]
  exact frz_new (cls_ints _)
theorem sizes_frz {ps : List (Str × Int)} (hl : ps.length ≤ 6) {n : Nat} {wide : Int} {gv : Option D} {v4 v5 v6 v7 v8 v9 v10 v11 v12 : Option D} :
    frzR (evE t_w_right (.comp (.of (.var 2)) (.nm 13) (.yes) e_w_right_1 [13]) [some (.ref n), some (.int wide), some (kds ps), gv, v4, v5, v6, v7, v8, v9, v10, v11, v12, none, none, none]) = DL.ret (.fl ((ps.map (·.2)).map D.int)) := by
  have c := evE_comp_map (T := t_w_right) (it := .of (.var 2)) (g := .nm 13) (tt := .yes) (e := e_w_right_1) (own := [13]) (env := [some (.ref n), some (.int wide), some (kds ps), gv, v4, v5, v6, v7, v8, v9, v10, v11, v12, none, none, none]) (xs := ps) kd (fun p => .int p.2) (by simp) (by omega) (by
    intro p hp
    simp [turnL, wipeE, e_w_right_1])
  rw [c]
  have e2 : (ps.map fun p => D.int p.2) = (ps.map (·.2)).map D.int := by rw [List.map_map]; rfl
  rw [e2]
  exact frz_new (cls_ints _)
/-- how often each kind is drawn -/
theorem cnt_at {ps : List (Str × Int)} (hn : (ps.map (·.1)).Nodup) {i : Nat} {p : Str × Int} (hi : ps[i]? = some p) : ∀ ks : List Nat, (∀ k ∈ ks, k < ps.length) → ((itsOf ps ks).map (·.1)).count p.1 = ks.count i
  | [], _ => rfl
  | k :: ks, h => by
    have ih := cnt_at hn hi ks fun x hx => h x (List.mem_cons_of_mem _ hx)
    have hk := h k List.mem_cons_self
    have e : itsOf ps (k :: ks) = ps[k] :: itsOf ps ks := by
      show ps.getD k (⟨#[]⟩, 0) :: itsOf ps ks = _
      rw [List.getD_eq_getElem?_getD, List.getElem?_eq_getElem hk]
      rfl
    rw [e, List.map_cons]
    by_cases hki : k = i
    · subst hki
      rw [List.getElem?_eq_getElem hk] at hi
      cases hi
      rw [List.count_cons_self, List.count_cons_self, ih]
    · rw [List.count_cons_of_ne, List.count_cons_of_ne hki, ih]
      intro z
      refine hki ((List.getElem?_inj (l := ps.map (·.1)) (by rw [List.length_map]; exact hk) hn).mp ?_)
      rw [List.getElem?_map, List.getElem?_map, hi, List.getElem?_eq_getElem hk]
      exact congrArg some z
theorem cnt_all {ps : List (Str × Int)} (hn : (ps.map (·.1)).Nodup) {ks : List Nat} (h : ∀ k ∈ ks, k < ps.length) : (List.range ps.length).map (fun k => ks.count k) = cnts ps ((itsOf ps ks).map (·.1)) := by
  refine List.ext_getElem? fun i => ?_
  unfold cnts
  rw [List.getElem?_map, List.getElem?_map]
  by_cases hi : i < ps.length
  · rw [List.getElem?_range hi, List.getElem?_eq_getElem hi]
    exact congrArg some (cnt_at hn (List.getElem?_eq_getElem hi) ks h).symm
  · rw [List.getElem?_eq_none (by rw [List.length_range]; omega), List.getElem?_eq_none (by omega)]
    rfl
theorem count_fl {ks : List Nat} {i : Nat} : bmeth .count (.fl (ks.map fun (k : Nat) => .int k)) [.int (i : Int)] = DL.ret (.int (ks.count i : Nat)) := by
  have f : (D.flat (.int (i : Int)) && (ks.map fun (k : Nat) => D.int k).all D.flat) = true := by
    rw [Bool.and_eq_true]
    refine ⟨rfl, ?_⟩
    rw [List.all_eq_true]
    intro x hx
    obtain ⟨k, _, rfl⟩ := List.mem_map.mp hx
    rfl
  have c : (ks.map fun (k : Nat) => D.int k).countP (fun y => D.feq y (.int (i : Int))) = ks.count i := by
    rw [List.countP_map, List.count]
    refine List.countP_congr fun k _ => ?_
    show ((k : Int) == (i : Int)) = true ↔ (k == i) = true
    rw [beq_iff_eq, beq_iff_eq]
    omega
  funext M
  show (if (D.flat (.int (i : Int)) && (ks.map fun (k : Nat) => D.int k).all D.flat) = true then some (Except.ok (D.int ((ks.map fun (k : Nat) => D.int k).countP (fun y => D.feq y (.int (i : Int))) : Nat)), M) else none) = _
  rw [if_pos f, c]
theorem counts_frz {ps : List (Str × Int)} (l6 : ps.length ≤ 6) {ks : List Nat} (hn : (ps.map (·.1)).Nodup) (h : ∀ k ∈ ks, k < ps.length) {n : Nat} {wide : Int} {gv : D} {v4 v5 v7 v8 v9 v10 v11 v12 : Option D} :
    frzR (evE t_w_right (.comp (.rng (.bcall .len (.cons (.var 2) (.nil)))) (.nm 14) (.yes) e_w_right_4 [14]) (renv n wide (kds ps) gv v4 v5 (some (.fl (ks.map fun (k : Nat) => .int k))) v7 v8 v9 v10 v11 v12)) = DL.ret (.fl ((cnts ps ((itsOf ps ks).map (·.1))).map fun (i : Nat) => D.int i)) := by
  have ln : bfun .len [kds ps] = DL.ret (.int (ps.length : Int)) := by rw [len_tup, List.length_map]
  have hr : inR (ps.length : Int) = true := by unfold inR; simp; omega
  have c := evE_comp_map (T := t_w_right) (it := .rng (.bcall .len (.cons (.var 2) (.nil)))) (g := .nm 14) (tt := .yes) (e := e_w_right_4) (own := [14]) (env := renv n wide (kds ps) gv v4 v5 (some (.fl (ks.map fun (k : Nat) => .int k))) v7 v8 v9 v10 v11 v12) (xs := List.range ps.length) (fun (k : Nat) => D.int k) (fun k => .int (ks.count k : Nat)) (by
    generalize kds ps = kp at ln ⊢
    generalize (ks.map fun (k : Nat) => D.int k) = kk
    have rr : rangeD 0 ps.length = (List.range ps.length).map fun (k : Nat) => D.int k := by
      rw [rangeD_map]
      exact List.map_congr_left fun i _ => by rw [Int.zero_add]
    simp only [evI_rng, evE_bcall, evEs_cons, evEs_nil, evE_var, getVar_0, getVar_s, bnd_ret, ln, rngD_int hr, Int.toNat_natCast]
    rw [rr]) (by rw [List.length_range]; omega) (by
    intro k hk
    have e := count_fl (ks := ks) (i := k)
    generalize (ks.map fun (k : Nat) => D.int k) = kk at e ⊢
    generalize kds ps = kp
    simp [turnL, wipeE, e_w_right_4, e])
  rw [c, show ((List.range ps.length).map fun k => D.int (ks.count k : Nat)) = ((List.range ps.length).map fun k => ks.count k).map fun (i : Nat) => D.int i by rw [List.map_map]; rfl, cnt_all hn h]
  exact frz_new (cls_map fun _ _ => cl_int)
/-- a packing is equal to itself -/
theorem ne_pack {Bs : List (List Nat)} (h : ∀ b ∈ Bs, ∀ i ∈ b, i < 14) : cmpD .ne (.tup (Bs.map boxT)) (.tup (Bs.map boxT)) = DL.ret (.bl false) := by
  funext M
  have e : toPy M 20 (.tup (Bs.map boxT)) = some (.tuple (Bs.map fun b => .tuple (pyI (sortInts (natI b))))) := by
    show (mapO (toPy M 19) (Bs.map boxT)).map _ = _
    rw [mapO_map boxT (fun b => PyData.tuple (pyI (sortInts (natI b)))) Bs fun b _ => by
      show (mapO (toPy M 18) ((sortInts (natI b)).map D.int)).map _ = _
      rw [toPys]
      rfl]
    rfl
  have bi : ∀ b ∈ Bs, ∀ x ∈ sortInts (natI b), x.natAbs ≤ 1000 := fun b hb x hx => by
    obtain ⟨i, hi, rfl⟩ := List.mem_map.mp ((sort_perm _).mem_iff.mp hx)
    have := h b hb i hi
    omega
  have ok : okP (.tuple (Bs.map fun b => .tuple (pyI (sortInts (natI b))))) = true := by
    simp only [okP]
    exact okPs_map (fun b => PyData.tuple (pyI (sortInts (natI b)))) Bs fun b hb => by
      simp only [okP]
      exact okI (bi b hb)
  have s : SeqAt.shaped (.tuple (Bs.map fun b => .tuple (pyI (sortInts (natI b))))) = true := by
    have a := ok_lay _ ok
    have d := depth_map (fun b => PyData.tuple (pyI (sortInts (natI b)))) 2 Bs fun b _ => by
      simp only [PyData.depth]
      have := depI (sortInts (natI b))
      omega
    unfold SeqAt.shaped
    rw [a]
    simp only [PyData.depth, Bool.true_and]
    exact decide_eq_true (by omega)
  have q : eqD (.tup (Bs.map boxT)) (.tup (Bs.map boxT)) M = some (.ok true, M) := by
    unfold eqD
    rw [e]
    dsimp only
    rw [s, SeqAt.eqv_refl _ (ok_lay _ ok)]
    rfl
  show bnd (eqD _ _) _ M = _
  rw [bnd_ok q]
  rfl
/-- the first kinds are kinds -/
theorem kinds_take {wide : Int} {ps : List (Str × Int)} (K : Kinds wide ps) : Kinds wide (ps.take 3) := by
  have l1 := K.len1
  have l6 := K.len6
  refine ⟨K.rlo, K.rhi, by rw [List.length_take]; omega, by rw [List.length_take]; omega, ?_, fun p hp => K.good p (List.mem_of_mem_take hp), fun p hp => K.size p (List.mem_of_mem_take hp)⟩
  rw [List.map_take]
  exact List.Pairwise.sublist (List.take_sublist _ _) K.rise
theorem cut3 {ps : List (Str × Int)} : getSl (kds ps) none (some 3) = DL.ret (kds (ps.take 3)) := by
  funext M
  show some (Except.ok (D.tup (cut (ps.map kd) none (some 3))), M) = _
  have e : cut (ps.map kd) none (some 3) = (ps.map kd).take 3 := by
    unfold cut HT.sIx
    simp
    try omega
  rw [e, ← List.map_take]
end K
end
section
set_option Elab.async false
set_option linter.all false
set_option maxRecDepth 100000
set_option maxHeartbeats 4000000
namespace K
open PySem DL
theorem PS.grow {n : Nat} {M M' : Mem} (h : PS n M M') : Grow n M M' := by
  refine ⟨h.get, fun i o hi e => ?_, by rw [h.len]; exact Nat.le_refl _⟩
  obtain ⟨o', _, rfl, _⟩ := h
  rw [List.getElem?_set_ne (fun z => hi z.symm)]
  exact e
theorem right_turn {M : Mem} {n : Nat} (h : ∃ o, M[n]? = some o ∧ isPool o) {wide : Int} {ps : List (Str × Int)} (K : Kinds wide ps) {i : Int} {v5 v6 v7 v8 v9 v10 v11 v12 : Option D} :
    ∃ v6' v7' v8' v9' v10' v11' v12' M', bodyF t_w_right (.nm 5) l_w_right_6 (.int i) (renv n wide (kds ps) (Gv wide ps) (some (.fl ((ps.map (·.2)).map D.int))) v5 v6 v7 v8 v9 v10 v11 v12) M = some (.ok (.nx (renv n wide (kds ps) (Gv wide ps) (some (.fl ((ps.map (·.2)).map D.int))) (some (.int i)) v6' v7' v8' v9' v10' v11' v12')), M') ∧ PS n M M' := by
  obtain ⟨low, hmx, hlw, hge⟩ := kinds_max K
  have K6 := K.len6
  obtain ⟨ks, M1, e1, kl, kb, G1⟩ := items_frz h K.len1 K.len6 (wide := wide) (gv := Gv wide ps) (v4 := some (.fl ((ps.map (·.2)).map D.int))) (v5 := some (.int i)) (v6 := v6) (v7 := v7) (v8 := v8) (v9 := v9) (v10 := v10) (v11 := v11) (v12 := v12)
  obtain ⟨far, M2, e2, hfar, G2⟩ := other_room_frz G1.get K hmx hlw
  have hn := rise_nodup K.rise
  have e3 := fun v7 v8 v9 v10 v11 v12 => names_frz (ks := ks) (by omega) kb (n := n) (wide := wide) (gv := Gv wide ps) (v4 := some (.fl ((ps.map (·.2)).map D.int))) (v5 := some (.int i)) (v7 := v7) (v8 := v8) (v9 := v9) (v10 := v10) (v11 := v11) (v12 := v12)
  have e4 := fun v7 v8 v9 v10 v11 v12 => counts_frz K6 (ks := ks) hn kb (n := n) (wide := wide) (gv := Gv wide ps) (v4 := some (.fl ((ps.map (·.2)).map D.int))) (v5 := some (.int i)) (v7 := v7) (v8 := v8) (v9 := v9) (v10 := v10) (v11 := v11) (v12 := v12)
  have e5 := fun v7 v8 v9 v10 v11 v12 => own_frz (ps := ps) (ks := ks) (by omega) kb (n := n) (wide := wide) (kp := kds ps) (gv := Gv wide ps) (v5 := some (.int i)) (v7 := v7) (v8 := v8) (v9 := v9) (v10 := v10) (v11 := v11) (v12 := v12)
  have him := itsOf_mem kb
  have hil : (itsOf ps ks).length = ks.length := List.length_map _
  generalize itsOf ps ks = its at e3 e4 e5 him hil
  have hlow : low ≤ far.getD wide := by
    cases far with
    | none => exact hlw.2
    | some r =>
      obtain ⟨m, hm, hle, _⟩ := hfar r rfl
      rw [hmx] at hm
      cases hm
      exact hle
  have cl : (cnts ps (its.map (·.1))).length = (ps.map (·.2)).length := by unfold cnts; rw [List.length_map, List.length_map]
  have hz : ∀ z ∈ ps.map (·.2), 1 ≤ z ∧ z ≤ far.getD wide := fun z hz => by
    obtain ⟨p, hp, rfl⟩ := List.mem_map.mp hz
    exact ⟨(K.size p hp).1, Int.le_trans (hge p hp) hlow⟩
  obtain ⟨m, e6, hm⟩ := least_eq (zs := ps.map (·.2)) (cs := cnts ps (its.map (·.1))) (r := far.getD wide) hz cl (by rw [cl, List.length_map]; exact K6) (fun c hc => by
    unfold cnts at hc
    obtain ⟨p, _, rfl⟩ := List.mem_map.mp hc
    have := List.count_le_length (a := p.1) (l := its.map (·.1))
    rw [List.length_map] at this
    omega)
  have hV := V_least (r := far.getD wide) (zs := ps.map (·.2)) (s := cnts ps (its.map (·.1))) (by omega) hz cl (List.Perm.refl _)
  have hx := exp_cnts hn its him
  have hm' : Least (far.getD wide) (its.map (·.2)) m := by
    have := V_least (r := far.getD wide) (zs := ps.map (·.2)) (s := cnts ps (its.map (·.1))) (xs := its.map (·.2)) (by omega) hz cl hx
    rw [hm.eq hV]
    exact this
  have mb := hm'.bounds
  rw [List.length_map] at mb
  have mb' : 0 ≤ m ∧ m ≤ 1000 := by omega
  have b1 := boxes_least K him (by omega) hfar hm' (row := its.map (·.1)) (List.Perm.refl _)
  obtain ⟨Bs, e7, hB1, hB2, hB3⟩ := best_packing_eq K him (by omega) hfar
  have hB1' : (Bs.length : Int) = m := by rw [hB1, hm.eq hV]
  have e8 := packed_eq (own := its.map (·.2)) (high := far.getD wide) (due := m) (Bs := Bs) (by rw [List.length_map]; omega) hB1' (by rw [List.length_map]; exact hB2) hB3
  have q := ne_pack (Bs := Bs) fun b hb i hi => by
    have := List.mem_range.mp (hB2.mem_iff.mp (List.mem_flatten.mpr ⟨b, hb, hi⟩))
    omega
  have r1 := repr1 mb'
  have n1 := ne_same (low_1 (m := m))
  have fi : frzR (DL.ret (.int m)) = DL.ret (.int m) := frz_ret cl_int
  have fs : frzR (DL.ret (.str (PyData.int m).shown)) = DL.ret (.str (PyData.int m).shown) := frz_ret cl_str
  have t2 : t_w_right.fn 1008 = f_w_least := tf_w_right_w_least
  have t3 : t_w_right.fn 1006 = f_w_other_room := tf_w_right_w_other_room
  have t4 : t_w_right.fn 1009 = f_w_packed_right := tf_w_right_w_packed_right
  have t5 : t_w_right.fn 28 = f_best_packing := tf_w_right_best_packing
  have t6 : t_w_right.fn 27 = f_least_boxes := tf_w_right_least_boxes
  have tupE : ∀ a b : D, tupD [a, b] = DL.ret (.tup [a, b]) := fun _ _ => rfl
  refine ⟨some (.fl (ks.map fun (k : Nat) => .int k)), some (farD far), some (.int (far.getD wide)), some (rowD (its.map (·.1))), some (.int m), some (.fl ((its.map (·.2)).map D.int)), some (.tup (Bs.map boxT)), M2, ?_, G1.trans G2⟩
  unfold bodyF l_w_right_6
  rw [evG_nm, bnd_ret]
  generalize Bs.map boxT = TB at *
  generalize rowD (its.map (·.1)) = r0 at *
  generalize (its.map (·.2)).map D.int = bk at *
  generalize (cnts ps (its.map (·.1))).map (fun (i : Nat) => D.int i) = cc at *
  generalize (ks.map fun (k : Nat) => D.int k) = kk at *
  generalize (ps.map (·.2)).map D.int = zz at *
  generalize (kds ps) = kp at *
  generalize (Gv wide ps) = gv at *
  generalize (PyData.int m).shown = s1 at *
  generalize t_w_right = T at *
  generalize f_w_least = F1 at *
  generalize f_w_other_room = F2 at *
  generalize f_w_packed_right = F3 at *
  generalize f_best_packing = F4 at *
  generalize f_least_boxes = F5 at *
  generalize hh : far.getD wide = high at *
  show evSs T _ (renv n wide kp gv (some (.fl zz)) (some (.int i)) v6 v7 v8 v9 v10 v11 v12) M = _
  refine (evSs_nxL (env2 := renv n wide kp gv (some (.fl zz)) (some (.int i)) (some (.fl kk)) v7 v8 v9 v10 v11 v12) (M2 := M1) ?_).trans ?_
  · rw [evS_asg, evE_frz, bnd_ok e1, evG_nm, bnd_ret, ret_at]
    rfl
  refine (evSs_nxL (env2 := renv n wide kp gv (some (.fl zz)) (some (.int i)) (some (.fl kk)) (some (farD far)) v8 v9 v10 v11 v12) (M2 := M2) ?_).trans ?_
  · simp only [evS_asg, evE_frz, evE_own, evEs_cons, evEs_nil, evE_var, getVar_0, getVar_s, bnd_ret, selD_arg, selD_nil, opt_some, List.cons_append, List.nil_append, List.append_nil, List.getElem?_cons_zero, List.getElem?_cons_succ, t3, frz_noErr]
    rw [bnd_ok e2, evG_nm, bnd_ret, ret_at]
    rfl
  refine (evSs_nxL (env2 := renv n wide kp gv (some (.fl zz)) (some (.int i)) (some (.fl kk)) (some (farD far)) (some (.int high)) (some r0) v10 v11 v12) (M2 := M2) ?_).trans ?_
  · cases far with
    | none =>
      simp only [Option.getD_none] at hh
      subst hh
      simp only [evS_asg, evE_tup, evE_frz, evE_ite, evT_bl, evE_cmp, evEs_cons, evEs_nil, evE_var, evE_con, getVar_0, getVar_s, bnd_ret, farD, isO_nn, asBl_bl, if_true, e3, tupE, evG_tup, evGs_cons, evGs_nil, evG_nm, List.set, len_cons, len_nil, bnd_assocS, ret_at]
      try rfl
    | some r =>
      simp only [Option.getD_some] at hh
      subst hh
      simp only [evS_asg, evE_tup, evE_frz, evE_ite, evT_bl, evE_cmp, evEs_cons, evEs_nil, evE_var, evE_con, getVar_0, getVar_s, bnd_ret, farD, isO_int, asBl_bl, Bool.false_eq_true, if_false, e3, tupE, evG_tup, evGs_cons, evGs_nil, evG_nm, List.set, len_cons, len_nil, bnd_assocS, ret_at]
      try rfl
  refine (evSs_nxL (env2 := renv n wide kp gv (some (.fl zz)) (some (.int i)) (some (.fl kk)) (some (farD far)) (some (.int high)) (some r0) (some (.int m)) v11 v12) (M2 := M2) ?_).trans ?_
  · simp only [evS_asg, evE_frz, evE_own, evEs_cons, evEs_nil, evE_var, getVar_0, getVar_s, bnd_ret, selD_arg, selD_nil, opt_some, List.cons_append, List.nil_append, List.append_nil, List.getElem?_cons_zero, List.getElem?_cons_succ, t2, frz_noErr, e4, e6, evG_nm, List.set, ret_at]
  refine (evSs_nxL (env2 := renv n wide kp gv (some (.fl zz)) (some (.int i)) (some (.fl kk)) (some (farD far)) (some (.int high)) (some r0) (some (.int m)) (some (.fl bk)) v12) (M2 := M2) ?_).trans ?_
  · simp only [evS_asg, evE_frz, e5, bnd_ret, evG_nm, List.set, ret_at]
  refine (evSs_nxL (env2 := renv n wide kp gv (some (.fl zz)) (some (.int i)) (some (.fl kk)) (some (farD far)) (some (.int high)) (some r0) (some (.int m)) (some (.fl bk)) v12) (M2 := M2) ?_).trans ?_
  · simp only [evS_cond, evT_bl, evE_cmp, evE_frz, evE_bcall, evE_own, evEs_cons, evEs_nil, evE_var, getVar_0, getVar_s, bnd_ret, selD_arg, selD_nil, opt_some, List.cons_append, List.nil_append, List.append_nil, List.getElem?_cons_zero, List.getElem?_cons_succ, t6, frz_noErr, b1, fi, bnd_assocS, r1, fs, n1, asBl_bl, Bool.false_eq_true, if_false, evSs_nil, ret_at]
  refine (evSs_nxL (env2 := renv n wide kp gv (some (.fl zz)) (some (.int i)) (some (.fl kk)) (some (farD far)) (some (.int high)) (some r0) (some (.int m)) (some (.fl bk)) (some (.tup TB))) (M2 := M2) ?_).trans ?_
  · simp only [evS_asg, evE_frz, evE_own, evEs_cons, evEs_nil, evE_var, getVar_0, getVar_s, bnd_ret, selD_arg, selD_nil, opt_some, List.cons_append, List.nil_append, List.append_nil, List.getElem?_cons_zero, List.getElem?_cons_succ, t5, frz_noErr, e7, evG_nm, List.set, ret_at]
  refine (evSs_nxL (env2 := renv n wide kp gv (some (.fl zz)) (some (.int i)) (some (.fl kk)) (some (farD far)) (some (.int high)) (some r0) (some (.int m)) (some (.fl bk)) (some (.tup TB))) (M2 := M2) ?_).trans ?_
  · simp only [evS_cond, evT_or, evT_nt, evT_val, evT_bl, evE_cmp, evE_frz, evE_own, evEs_cons, evEs_nil, evE_var, getVar_0, getVar_s, bnd_ret, selD_arg, selD_nil, opt_some, List.cons_append, List.nil_append, List.append_nil, List.getElem?_cons_zero, List.getElem?_cons_succ, t4, t5, frz_noErr, e7, e8, tru_bl, Bool.not_true, q, asBl_bl, Bool.false_eq_true, if_false, evSs_nil, ret_at]
  refine (evSs_nxL (env2 := renv n wide kp gv (some (.fl zz)) (some (.int i)) (some (.fl kk)) (some (farD far)) (some (.int high)) (some r0) (some (.int m)) (some (.fl bk)) (some (.tup TB))) (M2 := M2) ?_).trans ?_
  · cases far with
    | none =>
      simp only [farD] at *
      simp only [evS_cond, evT_an, evT_bl, evE_cmp, evE_frz, evE_own, evEs_cons, evEs_nil, evE_var, evE_con, getVar_0, getVar_s, bnd_ret, selD_arg, selD_val, selD_nil, opt_some, List.cons_append, List.nil_append, List.append_nil, List.getElem?_cons_zero, List.getElem?_cons_succ, isO_nn, if_true, t5, frz_noErr, e7, q, asBl_bl, Bool.false_eq_true, if_false, evSs_nil, ret_at]
    | some r =>
      simp only [evS_cond, evT_an, evT_bl, evE_cmp, evEs_cons, evEs_nil, evE_var, evE_con, getVar_0, getVar_s, bnd_ret, farD, isO_int, asBl_bl, Bool.false_eq_true, if_false, evSs_nil, ret_at]
  rw [evSs_nil, ret_at]
theorem right_loop {M : Mem} {n : Nat} (h : ∃ o, M[n]? = some o ∧ isPool o) {wide : Int} {ps : List (Str × Int)} (K : Kinds wide ps) :
    ∃ v5 v6 v7 v8 v9 v10 v11 v12 M', forL none (bodyF t_w_right (.nm 5) l_w_right_6) (rangeD 0 2) (renv n wide (kds ps) (Gv wide ps) (some (.fl ((ps.map (·.2)).map D.int))) none none none none none none none none) M = some (.ok (.nx (renv n wide (kds ps) (Gv wide ps) (some (.fl ((ps.map (·.2)).map D.int))) v5 v6 v7 v8 v9 v10 v11 v12)), M') ∧ PS n M M' := by
  obtain ⟨env', M', e, v5, v6, v7, v8, v9, v10, v11, v12, rfl, G⟩ := forL_0 (g := none) (turn := bodyF t_w_right (.nm 5) l_w_right_6) (ds := rangeD 0 2) (M := M) (env := renv n wide (kds ps) (Gv wide ps) (some (.fl ((ps.map (·.2)).map D.int))) none none none none none none none none)
    (fun i env M' => ∃ v5 v6 v7 v8 v9 v10 v11 v12, env = renv n wide (kds ps) (Gv wide ps) (some (.fl ((ps.map (·.2)).map D.int))) v5 v6 v7 v8 v9 v10 v11 v12 ∧ PS n M M') (fun _ _ _ _ => rfl) ⟨none, none, none, none, none, none, none, none, rfl, .refl h⟩ (by
      rintro i d env M1 hi ⟨v5, v6, v7, v8, v9, v10, v11, v12, rfl, G⟩
      rw [rangeD_map, List.getElem?_map] at hi
      cases hx : (List.range 2)[i]? with
      | none => rw [hx] at hi; cases hi
      | some x =>
        rw [hx] at hi
        cases hi
        obtain ⟨a6, a7, a8, a9, a10, a11, a12, M2, e, G2⟩ := right_turn (i := 0 + (x : Int)) G.get K (v5 := v5) (v6 := v6) (v7 := v7) (v8 := v8) (v9 := v9) (v10 := v10) (v11 := v11) (v12 := v12)
        exact ⟨_, M2, e, _, _, _, _, _, _, _, _, rfl, G.trans G2⟩)
  exact ⟨v5, v6, v7, v8, v9, v10, v11, v12, M', e, G⟩
theorem shown0 : (PyData.tuple []).shown = "()" := by decide +kernel
theorem none_eq {wide : Int} {ps : List (Str × Int)} (K : Kinds wide ps) : frzR (f_best_packing [Gv wide ps, .pt [], .non]) = DL.ret (.tup []) := by
  have hok : roomOk wide ps none := fun r h => by cases h
  obtain ⟨Bs, e, h1, h2, h3⟩ := best_packing_eq K (its := []) (fun _ h => by cases h) (by simp) hok
  cases Bs with
  | nil => exact e
  | cons b Bs =>
    exfalso
    have h4 := (h3 b List.mem_cons_self).1
    have := h2.length_eq
    rw [List.flatten_cons, List.length_append] at this
    have h5 := List.length_pos_iff.mpr h4
    have h6 : (List.range ([] : List (Str × Int)).length).length = 0 := rfl
    rw [h6] at this
    omega
theorem repr0 : bfun .repr [.tup []] = DL.ret (.str "()") := by
  have := repr_tupI (xs := []) (fun _ h => by cases h) (by simp)
  rw [show PyData.tuple (pyI []) = PyData.tuple [] from rfl, shown0] at this
  exact this
theorem right_spec {M : Mem} {n : Nat} (h : ∃ o, M[n]? = some o ∧ isPool o) : ∃ M', f_w_right [.ref n] M = some (.ok (.bl true), M') ∧ PS n M M' := by
  obtain ⟨wide, ps0, M1, e1, K0, G1⟩ := shape_frz h
  have f1 : frzR (f_w_shape [.ref n]) M = some (.ok (.tup [.int wide, kds ps0]), M1) := frz_ps e1 G1 (Ext.refl _) (frD_cl (by rw [cl_tup, cls_cons, cls_cons, cls_kds]; rfl) _)
  have c3 := cut3 (ps := ps0)
  have fk : frzR (DL.ret (kds (ps0.take 3))) = DL.ret (kds (ps0.take 3)) := frz_ret (cls_kds _)
  have K := kinds_take K0
  generalize ps0.take 3 = ps at c3 fk K
  generalize kds ps0 = kp0 at c3 f1
  have mk := make_eq (T := t_w_right) tc_w_right_Goods rfl K
  obtain ⟨v5, v6, v7, v8, v9, v10, v11, v12, M2, e2, G2⟩ := right_loop G1.get K
  have sz := fun (gv : Option D) => sizes_frz (ps := ps) K.len6 (n := n) (wide := wide) (gv := gv) (v4 := none) (v5 := none) (v6 := none) (v7 := none) (v8 := none) (v9 := none) (v10 := none) (v11 := none) (v12 := none)
  have ne := none_eq K
  have re := repr0
  have fs : frzR (DL.ret (.str "()")) = DL.ret (.str "()") := frz_ret cl_str
  have q : cmpD .eq (.str "()") (.str "()") = DL.ret (.bl true) := by
    have hl : PyData.strOk "()" = true := by decide +kernel
    rw [eq_str hl hl]
    simp
  have hr : inR 2 = true := by decide
  have oi : optI (.int 3) = DL.ret (some 3) := rfl
  have p0 : ptD [] = DL.ret (.pt []) := rfl
  have tupE : ∀ a b : D, tupD [a, b] = DL.ret (.tup [a, b]) := fun _ _ => rfl
  have t5 : t_w_right.fn 28 = f_best_packing := tf_w_right_best_packing
  have t7 : t_w_right.fn 1005 = f_w_shape := tf_w_right_w_shape
  refine ⟨M2, run_rtL ?_, G1.trans G2⟩
  unfold b_w_right
  show evSs t_w_right _ [some (.ref n), none, none, none, none, none, none, none, none, none, none, none, none, none, none, none] M = _
  generalize (ps.map (·.2)).map D.int = zz at *
  generalize (kds ps) = kp at *
  generalize (Gv wide ps) = gv at *
  generalize t_w_right = T at *
  generalize f_best_packing = F4 at *
  generalize f_w_shape = F7 at *
  refine (evSs_nxL (env2 := [some (.ref n), some (.int wide), some kp0, none, none, none, none, none, none, none, none, none, none, none, none, none]) (M2 := M1) ?_).trans ?_
  · simp only [evS_asg, evE_frz, evE_own, evEs_cons, evEs_nil, evE_var, getVar_0, getVar_s, bnd_ret, selD_arg, selD_nil, opt_some, List.cons_append, List.nil_append, List.append_nil, List.getElem?_cons_zero, t7, frz_noErr]
    rw [bnd_ok f1]
    simp only [evG_tup, evGs_cons, evGs_nil, evG_nm, List.set, len_cons, len_nil, bnd_ret, ret_at]
    try rfl
  refine (evSs_nxL (env2 := [some (.ref n), some (.int wide), some kp, none, none, none, none, none, none, none, none, none, none, none, none, none]) (M2 := M1) ?_).trans ?_
  · simp only [evS_asg, evE_frz, evE_slice, evO_no, evO_yes, evE_var, evE_con, getVar_0, getVar_s, bnd_ret, oi, c3, fk, evG_nm, List.set, ret_at]
  refine (evSs_nxL (env2 := renv n wide kp gv (some (.fl zz)) none none none none none none none none) (M2 := M1) ?_).trans ?_
  · simp only [evS_asg, evE_tup, evE_frz, evE_make, evEs_cons, evEs_nil, evE_var, getVar_0, getVar_s, bnd_ret, selD_arg, selD_nil, opt_some, List.cons_append, List.nil_append, List.append_nil, List.getElem?_cons_zero, List.getElem?_cons_succ, frz_noErr, mk, sz, tupE, evG_tup, evGs_cons, evGs_nil, evG_nm, List.set, len_cons, len_nil, ret_at]
    try rfl
  refine (evSs_nxL (env2 := renv n wide kp gv (some (.fl zz)) v5 v6 v7 v8 v9 v10 v11 v12) (M2 := M2) ?_).trans ?_
  · simp only [evS_for, evI_rng, evE_con, bnd_ret, rngD_int hr]
    exact e2
  refine evSs_rtL ?_
  simp only [evS_rt, evE_cmp, evE_frz, evE_bcall, evE_own, evE_ptD, evE_con, evEs_cons, evEs_nil, evE_var, getVar_0, getVar_s, bnd_ret, selD_arg, selD_val, selD_nil, opt_some, List.cons_append, List.nil_append, List.append_nil, List.getElem?_cons_zero, List.getElem?_cons_succ, p0, t5, frz_noErr, ne, re, fs, q, ret_at]
theorem law_turn {ns : List Int} (hl : ns.length ≤ 63) {k : Int} (h0 : 0 ≤ k) (h1 : k ≤ 100) {x : Option D} : bodyF t_law (.nm 1) l_law_1 (.int k) [some (.scr (ns.map .int)), x] = DL.ret (.nx [some (.scr (ns.map .int)), some (.int k)]) := by
  obtain ⟨c, e1⟩ := cell_eq hl h0 h1
  have e : frzR (bnd (noErr (f_w_pool [.int c])) fun x => noErr (f_w_right [x])) = DL.ret (.bl true) := by
    refine frz_pure fun M => ?_
    obtain ⟨o, e2, po⟩ := pool_spec M c
    obtain ⟨M', e3, G⟩ := right_spec (M := M ++ [o]) (n := M.length) ⟨o, get_new, po⟩
    have e2' : noErr (f_w_pool [.int c]) M = some (.ok (.ref M.length), M ++ [o]) := by rw [noErr_at, e2]
    have e3' : noErr (f_w_right [.ref M.length]) (M ++ [o]) = some (.ok (.bl true), M') := by rw [noErr_at, e3]
    refine ⟨.bl true, M', by rw [bnd_ok e2', e3'], ext_of fun i o' hi => G.grow.keep i o' ?_ (get_app hi _), frD_cl cl_bl _⟩
    have := (List.getElem?_eq_some_iff.mp hi).1
    omega
  have fi : frzR (DL.ret (.int c)) = DL.ret (.int c) := frz_ret cl_int
  simp only [bodyF, l_law_1, evG_nm, bnd_ret, List.set, evSs_cons, evSs_nil, evS_cond, evT_nt, evT_val, evE_frz, evE_own, evEs_cons, evEs_nil, evE_var, getVar_0, getVar_s, selD_arg, selD_nil, opt_some, List.cons_append, List.nil_append, List.append_nil, List.getElem?_cons_zero, List.getElem?_cons_succ, tf_law_w_cell, tf_law_w_pool, tf_law_w_right, frz_noErr, e1, fi, bnd_assocS, e, tru_bl, Bool.not_true, Bool.false_eq_true, if_false, thenS_nx]
theorem plain_law (ns : List Int) (hl : ns.length ≤ 63) : ∃ M', f_law [.scr (ns.map D.int)] [] = some (.ok (.bl true), M') := by
  refine ⟨[], ?_⟩
  have ll : bfun .len [.scr (ns.map D.int)] = DL.ret (.int (ns.length : Int)) := by rw [len_scr, List.length_map]
  generalize hm : (if (if (5 : Int) < (ns.length : Int) then (5 : Int) else (ns.length : Int)) > 2 then (if (5 : Int) < (ns.length : Int) then (5 : Int) else (ns.length : Int)) else 2) = m
  have mb : 2 ≤ m ∧ m ≤ 5 := by rw [← hm]; split <;> split <;> omega
  have hr : inR m = true := by unfold inR; simp; omega
  obtain ⟨env', e, x, rfl⟩ := forE0 (turn := bodyF t_law (.nm 1) l_law_1) (ds := rangeD 0 m.toNat) (env := [some (.scr (ns.map D.int)), none])
    (fun i env => ∃ x, env = [some (.scr (ns.map D.int)), x]) ⟨none, rfl⟩ (by
      rintro i d env hi ⟨x, rfl⟩
      have hik := (List.getElem?_eq_some_iff.mp hi).1
      rw [rngLen] at hik
      rw [rangeD_map, List.getElem?_map, List.getElem?_range hik] at hi
      cases hi
      exact ⟨_, law_turn hl (by omega) (by omega), _, rfl⟩)
  simp only [f_law, runDef_eq, b_law, List.map, List.replicate, List.length_cons, List.length_nil, Nat.reduceAdd, Nat.reduceSub, List.cons_append, List.nil_append, evSs_cons, evSs_nil, evS_for, evI_rng, evE_bcall, evEs_cons, evEs_nil, evE_con, evE_var, getVar_0, bnd_ret, ll, min_int, max_int, hm, rngD_int hr, bnd_assocS, e, thenS_nx, evS_rt, thenS_rt, endF_rt]
  try rfl
end K
end
section
end
section
open PySem PySem.W PyProof.Rows
set_option Elab.async false
set_option linter.all false
set_option maxRecDepth 100000
set_option maxHeartbeats 0
theorem PySem.Challenge.cw_shutboxes_k19_best_packings_that_fit_holds : PySem.Challenge.rw_shutboxes_k19_best_packings_that_fit.Holds := by
  refine hd ?_
  k_fill
  refine K.told_walk (l := PySem.Challenge.rw_shutboxes_k19_best_packings_that_fit) rfl rfl rfl (fun w h Y => PySem.W.kIn_of Y) ?F K.plain_law
  case F =>
    intro w mg h KX G
    refine' K.mk_txt KX G ?z_len ?z_abs ?z_max ?z_min ?z_sum ?z_any ?z_all ?z_sorted ?z_repr ?z_int ?z_str ?z_list ?z_tuple ?z_bool ?z_isinstance ?z_enumerate ?z_zip ?z_range ?g_MOST_ROOM ?g_MOST_KINDS ?g_MOST_ITEMS ?g_MOST_TRIED ?g_LETTERS ?g_DIGITS ?g_MOST_SIGNS ?a8 ?l8 ?c8 ?p8 ?a9 ?l9 ?c9 ?p9 ?a10 ?l10 ?c10 ?p10 ?a11 ?l11 ?c11 ?p11 ?a12 ?l12 ?c12 ?p12 ?a13 ?l13 ?c13 ?p13 ?a14 ?l14 ?c14 ?p14 ?a15 ?l15 ?c15 ?p15 ?a16 ?l16 ?c16 ?p16 ?a17 ?l17 ?c17 ?p17 ?a18 ?l18 ?c18 ?p18 ?a19 ?l19 ?c19 ?p19 ?a20 ?l20 ?c20 ?p20 ?a21 ?l21 ?c21 ?p21 ?a22 ?l22 ?c22 ?p22 ?a23 ?l23 ?c23 ?p23 ?a24 ?l24 ?c24 ?p24 ?a25 ?l25 ?c25 ?p25 ?a26 ?l26 ?c26 ?p26 ?a27 ?l27 ?c27 ?p27 ?a28 ?l28 ?c28 ?p28 ?a29 ?l29 ?c29 ?p29 ?a30 ?l30 ?c30 ?p30 ?a31 ?l31 ?c31 ?p31 ?d31_0 ?a32 ?l32 ?c32 ?p32 ?d32_0 ?a33 ?l33 ?c33 ?p33 ?a34 ?l34 ?c34 ?p34 ?z_Reach ?z_Lane ?z_Packer ?z_Pairs ?z_Shares ?A_Goods ?x0_Goods ?x1_Goods ?x2_Goods ?x3_Goods ?x4_Goods ?x5_Goods ?x6_Goods ?x7_Goods ?n_Goods_space ?n_Goods_pairs ?k_Goods_bool ?k_Goods_int ?k_Goods_str ?k_Goods_tuple ?u0_Goods ?u1_Goods ?q_Goods_NoneType ?q_Goods_bool ?q_Goods_int ?q_Goods_str ?q_Goods_tuple ?q_Goods_list ?r_Goods_NoneType ?r_Goods_bool ?r_Goods_int ?r_Goods_str ?r_Goods_tuple ?r_Goods_list ?s1_Goods ?s2_Goods ?s3_Goods ?a35 ?l35 ?c35 ?p35 ?i35 ?m35 ?y35 ?a36 ?b36 ?d36 ?e36 ?l36 ?c36 ?p36 ?a37 ?b37 ?d37 ?e37 ?l37 ?c37 ?p37 ?a38 ?b38 ?d38 ?e38 ?l38 ?c38 ?p38
    (case z_len => k_is)
    (case z_abs => k_is)
    (case z_max => k_is)
    (case z_min => k_is)
    (case z_sum => k_is)
    (case z_any => k_is)
    (case z_all => k_is)
    (case z_sorted => k_is)
    (case z_repr => k_is)
    (case z_int => k_is)
    (case z_str => k_is)
    (case z_list => k_is)
    (case z_tuple => k_is)
    (case z_bool => k_is)
    (case z_isinstance => k_is)
    (case z_enumerate => k_is)
    (case z_zip => k_is)
    (case z_range => k_is)
    (case g_MOST_ROOM => k_is)
    (case g_MOST_KINDS => k_is)
    (case g_MOST_ITEMS => k_is)
    (case g_MOST_TRIED => k_is)
    (case g_LETTERS => k_is)
    (case g_DIGITS => k_is)
    (case g_MOST_SIGNS => k_is)
    (case a8 => k_is)
    (case l8 => k_is)
    (case c8 => k_is)
    (case p8 => k_is)
    (case a9 => k_is)
    (case l9 => k_is)
    (case c9 => k_is)
    (case p9 => k_is)
    (case a10 => k_is)
    (case l10 => k_is)
    (case c10 => k_is)
    (case p10 => k_is)
    (case a11 => k_is)
    (case l11 => k_is)
    (case c11 => k_is)
    (case p11 => k_is)
    (case a12 => k_is)
    (case l12 => k_is)
    (case c12 => k_is)
    (case p12 => k_is)
    (case a13 => k_is)
    (case l13 => k_is)
    (case c13 => k_is)
    (case p13 => k_is)
    (case a14 => k_is)
    (case l14 => k_is)
    (case c14 => k_is)
    (case p14 => k_is)
    (case a15 => k_is)
    (case l15 => k_is)
    (case c15 => k_is)
    (case p15 => k_is)
    (case a16 => k_is)
    (case l16 => k_is)
    (case c16 => k_is)
    (case p16 => k_is)
    (case a17 => k_is)
    (case l17 => k_is)
    (case c17 => k_is)
    (case p17 => k_is)
    (case a18 => k_is)
    (case l18 => k_is)
    (case c18 => k_is)
    (case p18 => k_is)
    (case a19 => k_is)
    (case l19 => k_is)
    (case c19 => k_is)
    (case p19 => k_is)
    (case a20 => k_is)
    (case l20 => k_is)
    (case c20 => k_is)
    (case p20 => k_is)
    (case a21 => k_is)
    (case l21 => k_is)
    (case c21 => k_is)
    (case p21 => k_is)
    (case a22 => k_is)
    (case l22 => k_is)
    (case c22 => k_is)
    (case p22 => k_is)
    (case a23 => k_is)
    (case l23 => k_is)
    (case c23 => k_is)
    (case p23 => k_is)
    (case a24 => k_is)
    (case l24 => k_is)
    (case c24 => k_is)
    (case p24 => k_is)
    (case a25 => k_is)
    (case l25 => k_is)
    (case c25 => k_is)
    (case p25 => k_is)
    (case a26 => k_is)
    (case l26 => k_is)
    (case c26 => k_is)
    (case p26 => k_is)
    (case a27 => k_is)
    (case l27 => k_is)
    (case c27 => k_is)
    (case p27 => k_is)
    (case a28 => k_is)
    (case l28 => k_is)
    (case c28 => k_is)
    (case p28 => k_is)
    (case a29 => k_is)
    (case l29 => k_is)
    (case c29 => k_is)
    (case p29 => k_is)
    (case a30 => k_is)
    (case l30 => k_is)
    (case c30 => k_is)
    (case p30 => k_is)
    (case a31 => k_is)
    (case l31 => k_is)
    (case c31 => k_is)
    (case p31 => k_is)
    (case d31_0 => k_is)
    (case a32 => k_is)
    (case l32 => k_is)
    (case c32 => k_is)
    (case p32 => k_is)
    (case d32_0 => k_is)
    (case a33 => k_is)
    (case l33 => k_is)
    (case c33 => k_is)
    (case p33 => k_is)
    (case a34 => k_is)
    (case l34 => k_is)
    (case c34 => k_is)
    (case p34 => k_is)
    (case z_Reach => k_is)
    (case z_Lane => k_is)
    (case z_Packer => k_is)
    (case z_Pairs => k_is)
    (case z_Shares => k_is)
    (case A_Goods => k_is)
    (case x0_Goods => k_is)
    (case x1_Goods => k_is)
    (case x2_Goods => k_is)
    (case x3_Goods => k_is)
    (case x4_Goods => k_is)
    (case x5_Goods => k_is)
    (case x6_Goods => k_is)
    (case x7_Goods => k_is)
    (case n_Goods_space => k_is)
    (case n_Goods_pairs => k_is)
    (case k_Goods_bool => k_is)
    (case k_Goods_int => k_is)
    (case k_Goods_str => k_is)
    (case k_Goods_tuple => k_is)
    (case u0_Goods => k_is)
    (case u1_Goods => k_is)
    (case q_Goods_NoneType => k_is)
    (case q_Goods_bool => k_is)
    (case q_Goods_int => k_is)
    (case q_Goods_str => k_is)
    (case q_Goods_tuple => k_is)
    (case q_Goods_list => k_is)
    (case r_Goods_NoneType => k_is)
    (case r_Goods_bool => k_is)
    (case r_Goods_int => k_is)
    (case r_Goods_str => k_is)
    (case r_Goods_tuple => k_is)
    (case r_Goods_list => k_is)
    (case s1_Goods => k_is)
    (case s2_Goods => k_is)
    (case s3_Goods => k_is)
    (case a35 => k_is)
    (case l35 => k_is)
    (case c35 => k_is)
    (case p35 => k_is)
    (case i35 => k_is)
    (case m35 => k_is)
    (case y35 => k_is)
    (case a36 => k_is)
    (case b36 => k_is)
    (case d36 => k_is)
    (case e36 => k_is)
    (case l36 => k_is)
    (case c36 => k_is)
    (case p36 => k_is)
    (case a37 => k_is)
    (case b37 => k_is)
    (case d37 => k_is)
    (case e37 => k_is)
    (case l37 => k_is)
    (case c37 => k_is)
    (case p37 => k_is)
    (case a38 => k_is)
    (case b38 => k_is)
    (case d38 => k_is)
    (case e38 => k_is)
    (case l38 => k_is)
    (case c38 => k_is)
    (case p38 => k_is)
end
