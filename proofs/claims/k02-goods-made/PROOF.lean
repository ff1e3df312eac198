import PyProof.Rows.All
import Wide.All
import OpenK.AllK
import Wide.FinOn
import HandS.ForMost
import PySem.Challenge.RW_shutboxes_k02_goods_made
import HandS.IsInst
import HandS.Property
import HandS.ClsMeth
import HandS.Defaults
import HandS.FStr
import HandS.Style
import HandS.TupAny
import HandS.TupMul
import HandS.Wide
import HandS.SortInts
import HandS.Walk
import HandS.Zip
import HandS.Conv
import HandS.RaiseMore
import HandS.TupLe
import KE.GoesEnum
import KE.KCallOwn
import OpenK.KOps
import PyProof.InstEq
import HandS.Flow
import HandS.Exc
section
open PySem PySem.W PyProof.Rows
set_option Elab.async false
set_option maxRecDepth 100000
set_option maxHeartbeats 0
open_top hd for PySem.Challenge.rw_shutboxes_k02_goods_made
end
section
set_option Elab.async false
set_option linter.all false
set_option maxRecDepth 100000
set_option maxHeartbeats 2000000
/-! DL, part a: abstract data, the store, the language, its interpreter. No machine in sight. -/
namespace DL
open PySem
/-- abstract values: tuples by value, what may change by its number in the store -/
inductive D where
  | non | bl (b : Bool) | int (i : Int) | str (x : Str)
  | tup (ds : List D) | ref (n : Nat) | glo (x : Str) | bty (n : String) | fl (ds : List D)
deriving Inhabited
mutual
def D.beq : D → D → Bool
  | .non, .non => true
  | .bl a, .bl b => a == b
  | .int a, .int b => a == b
  | .str a, .str b => a == b
  | .tup a, .tup b => D.beqs a b
  | .ref a, .ref b => a == b
  | .glo a, .glo b => a == b
  | .bty a, .bty b => a == b
  | .fl a, .fl b => D.beqs a b
  | _, _ => false
def D.beqs : List D → List D → Bool
  | [], [] => true
  | a :: as, b :: bs => D.beq a b && D.beqs as bs
  | _, _ => false
end
mutual
theorem D.beq_self : ∀ a : D, D.beq a a = true
  | .non => rfl
  | .bl a => by simp [D.beq]
  | .int a => by simp [D.beq]
  | .str a => by simp [D.beq]
  | .tup a => by simp [D.beq, D.beqs_self a]
  | .ref a => by simp [D.beq]
  | .glo a => by simp [D.beq]
  | .bty a => by simp [D.beq]
  | .fl a => by simp [D.beq, D.beqs_self a]
theorem D.beqs_self : ∀ a : List D, D.beqs a a = true
  | [] => rfl
  | a :: as => by simp [D.beqs, D.beq_self a, D.beqs_self as]
end
mutual
theorem D.eq_of : ∀ a b : D, D.beq a b = true → a = b
  | .non, b, h => by cases b <;> simp_all [D.beq]
  | .bl a, b, h => by cases b <;> simp_all [D.beq]
  | .int a, b, h => by cases b <;> simp_all [D.beq]
  | .str a, b, h => by cases b <;> simp_all [D.beq]
  | .tup a, b, h => by
    cases b <;> simp only [D.beq] at h <;> try cases h
    rename_i b; rw [D.eqs_of a b h]
  | .ref a, b, h => by cases b <;> simp_all [D.beq]
  | .glo a, b, h => by cases b <;> simp_all [D.beq]
  | .bty a, b, h => by cases b <;> simp_all [D.beq]
  | .fl a, b, h => by
    cases b <;> simp only [D.beq] at h <;> try cases h
    rename_i b; rw [D.eqs_of a b h]
theorem D.eqs_of : ∀ a b : List D, D.beqs a b = true → a = b
  | [], [], _ => rfl
  | [], _ :: _, h => by simp [D.beqs] at h
  | _ :: _, [], h => by simp [D.beqs] at h
  | a :: as, b :: bs, h => by
    simp only [D.beqs, Bool.and_eq_true] at h
    rw [D.eq_of a b h.1, D.eqs_of as bs h.2]
end
/-- what stands in the store -/
inductive O where
  | lst (ds : List D) | ins (c : Str) (fs : List (Str × D))
deriving Inhabited
abbrev Mem := List O
/-- a computation: none: the interpreter does not say; error: an exception -/
abbrev R (α : Type) := Mem → Option (Except D α × Mem)
@[reducible] def ret {α : Type} (a : α) : R α := fun M => some (.ok a, M)
@[reducible] def bnd {α β : Type} (m : R α) (f : α → R β) : R β := fun M =>
  match m M with
  | none => none
  | some (.error e, M') => some (.error e, M')
  | some (.ok a, M') => f a M'
@[reducible] def fail {α : Type} : R α := fun _ => none
/-- what may be missing -/
@[reducible] def opt {α : Type} (o : Option α) : R α := fun M => match o with | none => none | some a => some (.ok a, M)
instance : Monad R where
  pure := ret
  bind := bnd
abbrev Env := List (Option D)
/-! ### data -/
def mapO {α β : Type} (f : α → Option β) : List α → Option (List β)
  | [] => some []
  | a :: as => match f a, mapO f as with
    | some b, some bs => some (b :: bs)
    | _, _ => none
def toPy (M : Mem) : Nat → D → Option PyData
  | 0, _ => none
  | _ + 1, .non => some .none
  | _ + 1, .bl b => some (.bool b)
  | _ + 1, .int i => some (.int i)
  | _ + 1, .str x => some (.str x)
  | n + 1, .tup ds => (mapO (toPy M n) ds).map .tuple
  | n + 1, .fl ds => (mapO (toPy M n) ds).map .list
  | n + 1, .ref a => match M[a]? with
    | some (.lst ds) => (mapO (toPy M n) ds).map .list
    | _ => none
  | _ + 1, .glo _ => none
  | _ + 1, .bty _ => none
/-- None, truths, numbers, texts -/
def D.flat : D → Bool
  | .non | .bl _ | .int _ | .str _ => true
  | _ => false
/-- == of such -/
def D.feq : D → D → Bool
  | .non, .non => true
  | .bl a, .bl b => a == b
  | .bl a, .int b => (if a then 1 else 0) == b
  | .int a, .bl b => a == (if b then 1 else 0)
  | .int a, .int b => a == b
  | .str a, .str b => a == b
  | _, _ => false
def cut {α : Type} (xs : List α) (lo hi : Option Int) : List α := (xs.drop (HT.sIx xs.length 0 lo)).take (HT.sIx xs.length xs.length hi - HT.sIx xs.length 0 lo)
/-! ### operators -/
inductive BinO where | add | sub | mul | mod | fdiv | pow
inductive CmpO where | eq | ne | lt | le | gt | ge | isO | isNot | inO | notIn
def small (i : Int) : Bool := decide (-(2 ^ 64) < i ∧ i < 2 ^ 64)
def new (o : O) : R D := fun M => some (.ok (.ref M.length), M ++ [o])
def seqOf (M : Mem) : D → Option (List D)
  | .tup ds => some ds
  | .fl ds => some ds
  | .ref n => match M[n]? with
    | some (.lst ds) => some ds
    | _ => none
  | _ => none
def lstOf (M : Mem) : D → Option (List D)
  | .ref n => match M[n]? with
    | some (.lst ds) => some ds
    | _ => none
  | _ => none
def intsOf : List D → Option (List Int) := mapO fun | .int i => some i | _ => none
def strsOf : List D → Option (List Str) := mapO fun | .str i => some i | _ => none
def blsOf : List D → Option (List Bool) := mapO fun | .bl i => some i | _ => none
def addD (x y : D) : R D :=
  match x, y with
  | .int i, .int j => ret (.int (i + j))
  | .str a, .str b => if a.length + b.length ≤ sizeLine then ret (.str (a ++ b)) else fail
  | .tup a, .tup b => if a.length + b.length ≤ sizeLine then ret (.tup (a ++ b)) else fail
  | .ref a, .ref b => fun M => match M[a]?, M[b]? with
    | some (.lst xs), some (.lst ys) => if xs.length + ys.length ≤ sizeLine then new (.lst (xs ++ ys)) M else none
    | _, _ => none
  | _, _ => fail
def subD (x y : D) : R D :=
  match x, y with
  | .int i, .int j => ret (.int (i - j))
  | _, _ => fail
def mulD (x y : D) : R D :=
  match x, y with
  | .int i, .int j => if small i || small j then ret (.int (i * j)) else fail
  | .ref a, .int k => fun M => match M[a]? with
    | some (.lst xs) => if -(2 ^ 63) ≤ k ∧ k < 2 ^ 63 ∧ xs.length * k.toNat ≤ sizeLine then new (.lst (List.replicate k.toNat xs).flatten) M else none
    | _ => none
  | .tup a, .int k => if a.isEmpty = false ∧ 2 ≤ k ∧ k ≤ 1000 ∧ a.length ≤ 1000 then ret (.tup (List.replicate k.toNat a).flatten) else fail
  | _, _ => fail
def modD (x y : D) : R D :=
  match x, y with
  | .int i, .int j => if 0 < j then ret (.int (i % j)) else fail
  | _, _ => fail
def fdivD (x y : D) : R D :=
  match x, y with
  | .int i, .int j => if 0 < j ∧ j < 1073741824 then ret (.int (i / j)) else fail
  | _, _ => fail
def powD (x y : D) : R D :=
  match x, y with
  | .int i, .int j => if 0 ≤ j ∧ j ≤ 1000000 ∧ i.natAbs < 2 ^ 64 then ret (.int (i ^ j.toNat)) else fail
  | _, _ => fail
def binD : BinO → D → D → R D
  | .add => addD | .sub => subD | .mul => mulD | .mod => modD | .fdiv => fdivD | .pow => powD
def eqD (x y : D) : R Bool := fun M =>
  match toPy M 20 x, toPy M 20 y with
  | some a, some b => if SeqAt.shaped a && SeqAt.shaped b then some (.ok (PyData.eqv a b), M) else none
  | _, _ => none
def inSeq (x : D) (ys : List D) : Bool := ys.any fun y => D.feq y x
def inD (x y : D) : R Bool := fun M =>
  match x, y with
  | .str a, .str b => match a.cps.toList with
    | [c] => some (.ok (decide (c ∈ b.cps.toList)), M)
    | _ => none
  | _, _ => match seqOf M y with
    | some ys => if x.flat && ys.all D.flat then some (.ok (inSeq x ys), M) else none
    | none => none
def isD (x y : D) : Option Bool :=
  match y, x with
  | .non, .non => some true
  | .non, .glo _ => none
  | .non, _ => some false
  | .bl a, .bl b => some (b == a)
  | _, _ => none
def ltD (x y : D) : R D :=
  match x, y with
  | .int i, .int j => ret (.bl (decide (i < j)))
  | .str a, .str b => ret (.bl (decide (a.cps.toList < b.cps.toList)))
  | _, _ => fail
def leD (x y : D) : R D :=
  match x, y with
  | .int i, .int j => ret (.bl (decide (i ≤ j)))
  | .str a, .str b => ret (.bl (!decide (b.cps.toList < a.cps.toList)))
  | _, _ => fail
def gtD (x y : D) : R D :=
  match x, y with
  | .int i, .int j => ret (.bl (decide (j < i)))
  | .str a, .str b => ret (.bl (decide (b.cps.toList < a.cps.toList)))
  | _, _ => fail
def geD (x y : D) : R D :=
  match x, y with
  | .int i, .int j => ret (.bl (decide (j ≤ i)))
  | .str a, .str b => ret (.bl (!decide (a.cps.toList < b.cps.toList)))
  | _, _ => fail
def cmpD : CmpO → D → D → R D
  | .eq => fun x y => bnd (eqD x y) fun b => ret (.bl b)
  | .ne => fun x y => bnd (eqD x y) fun b => ret (.bl (!b))
  | .lt => ltD | .le => leD | .gt => gtD | .ge => geD
  | .isO => fun x y => bnd (opt (isD x y)) fun b => ret (.bl b)
  | .isNot => fun x y => bnd (opt (isD x y)) fun b => ret (.bl (!b))
  | .inO => fun x y => bnd (inD x y) fun b => ret (.bl b)
  | .notIn => fun x y => bnd (inD x y) fun b => ret (.bl (!b))
def truD (M : Mem) : D → Option Bool
  | .non => some false
  | .bl b => some b
  | .int i => some (i != 0)
  | .str y => if y.length ≤ sizeLine then some ((y.length : Int) != 0) else none
  | .tup ds => some (!ds.isEmpty)
  | .fl ds => some (!ds.isEmpty)
  | .ref n => match M[n]? with
    | some (.lst ds) => some (!ds.isEmpty)
    | _ => none
  | _ => none
def tru (d : D) : R Bool := fun M => match truD M d with | none => none | some b => some (.ok b, M)
def getIx (x y : D) : R D := fun M =>
  match x, y with
  | .str z, .int i => if z.length ≤ sizeLine then match L2.atI z.cps.toList i with
      | none => none
      | some c => some (.ok (.str ⟨#[c]⟩), M)
    else none
  | _, .int i => match seqOf M x with
    | some ds => match L2.atI ds i with
      | none => none
      | some d => some (.ok d, M)
    | none => none
  | _, _ => none
def getSl (x : D) (lo hi : Option Int) : R D := fun M =>
  match x with
  | .str z => if z.length ≤ sizeLine then some (.ok (.str (L2.cutS z lo hi)), M) else none
  | .tup ds => some (.ok (.tup (cut ds lo hi)), M)
  | .fl ds => new (.lst (cut ds lo hi)) M
  | .ref n => match M[n]? with
    | some (.lst ds) => new (.lst (cut ds lo hi)) M
    | _ => none
  | _ => none
/-! ### built-in functions and methods -/
inductive BF where | len | abs | max | min | sum | any | all | sorted | int | str | repr | list | tuple
inductive BM where | append | pop | partition | split | join
/-- the kind of a value, as isinstance asks -/
def isInst (M : Mem) (x : D) (n : String) : Option Bool :=
  match x with
  | .non => some false
  | .bl _ => some (n == "bool" || n == "int")
  | .int _ => some (n == "int")
  | .str _ => some (n == "str")
  | .tup _ => some (n == "tuple")
  | .fl _ => some (n == "list")
  | .ref k => match M[k]? with
    | some (.lst _) => some (n == "list")
    | some (.ins _ _) => some false
    | none => none
  | _ => none
end DL
end
section
set_option Elab.async false
set_option linter.all false
set_option maxRecDepth 100000
set_option maxHeartbeats 2000000
/-! DL, part b: how abstract data lies in the layer's heap. -/
namespace DL
open PySem PySem.Spec PyProof.Rows L2
/-- a list that nothing changes: the script, or one of the text's own -/
def FrL (K : PySem.W.Frag) (H : Hp) (a : Addr) (xs : List V) : Prop :=
  (∃ o, H a = some (.frz o (.lst xs))) ∨
    ∃ (o : Obj) (its : Array Value) (n : Nat), K.lookup a = some o ∧ o.cls = .type "list" ∧ o.dict = none ∧ o.data = .seq its n ∧ its.size ≤ sizeLine ∧ Vals xs its.toList
theorem FrL.sq {K : PySem.W.Frag} {H : Hp} {a : Addr} {xs : List V} (h : FrL K H a xs) : SqL K H a xs := by
  rcases h with ⟨o, h⟩ | h
  · exact .inl (.inr ⟨o, h⟩)
  · exact .inr h
mutual
inductive RepV (K : PySem.W.Frag) (mg : Str → Option Value) (μ : List Addr) (H : Hp) : D → V → Prop
  | non : RepV K mg μ H .non .non
  | bl (b : Bool) : RepV K mg μ H (.bl b) (.bl b)
  | int (i : Int) : RepV K mg μ H (.int i) (.int i)
  | str (x : Str) : RepV K mg μ H (.str x) (.str x)
  | tup {a : Addr} {vs : List V} {ds : List D} : SqT K H a vs → RepVs K mg μ H ds vs → RepV K mg μ H (.tup ds) (.ref a)
  | fl {a : Addr} {vs : List V} {ds : List D} : FrL K H a vs → RepVs K mg μ H ds vs → RepV K mg μ H (.fl ds) (.ref a)
  | ref {n : Nat} {a : Addr} : μ[n]? = some a → RepV K mg μ H (.ref n) (.ref a)
  | glo {x : Str} {v : V} {u : Value} : mg x = some u → RelV v u → RepV K mg μ H (.glo x) v
  | bty (n : String) : RepV K mg μ H (.bty n) (.ty n)
inductive RepVs (K : PySem.W.Frag) (mg : Str → Option Value) (μ : List Addr) (H : Hp) : List D → List V → Prop
  | nil : RepVs K mg μ H [] []
  | cons {d : D} {v : V} {ds : List D} {vs : List V} : RepV K mg μ H d v → RepVs K mg μ H ds vs → RepVs K mg μ H (d :: ds) (v :: vs)
end
/-- attributes -/
inductive RepF (K : PySem.W.Frag) (mg : Str → Option Value) (μ : List Addr) (H : Hp) : List (Str × D) → List (Str × V) → Prop
  | nil : RepF K mg μ H [] []
  | cons {f : Str} {d : D} {v : V} {ds : List (Str × D)} {vs : List (Str × V)} : RepV K mg μ H d v → RepF K mg μ H ds vs → RepF K mg μ H ((f, d) :: ds) ((f, v) :: vs)
/-- an object of the store, as it stands at an address -/
def RepO (K : PySem.W.Frag) (mg : Str → Option Value) (μ : List Addr) (H : Hp) (a : Addr) : O → Prop
  | .lst ds => ∃ vs, H a = some (.lst vs) ∧ RepVs K mg μ H ds vs
  | .ins c fs => ∃ C dx gs, mg c = some (.ref C) ∧ H a = some (.ins C dx gs) ∧ RepF K mg μ H fs gs
structure RepM (K : PySem.W.Frag) (mg : Str → Option Value) (μ : List Addr) (M : Mem) (H : Hp) : Prop where
  len : μ.length = M.length
  nd : μ.Nodup
  obj : ∀ (n : Nat) (a : Addr) (o : O), μ[n]? = some a → M[n]? = some o → RepO K mg μ H a o
/-- what may stand at an address of the store -/
def Sto : HO → Prop
  | .lst _ => True
  | .ins _ _ _ => True
  | .ext _ => True
  | _ => False
/-- what a computation may do: new objects, and those of the store changed -/
structure Le (μ : List Addr) (H : Hp) (μ' : List Addr) (H' : Hp) : Prop where
  ext : ∃ ν, μ' = μ ++ ν ∧ ∀ a ∈ ν, H a = none
  keep : ∀ (a : Addr) (o : HO), H a = some o → a ∉ μ → H' a = some o
  live : ∀ (a : Addr), H' a = none → H a = none
theorem Le.refl (μ : List Addr) (H : Hp) : Le μ H μ H := ⟨⟨[], by simp, fun _ h => by cases h⟩, fun _ _ h _ => h, fun _ h => h⟩
theorem Le.trans {μ μ1 μ2 : List Addr} {H H1 H2 : Hp} (a : Le μ H μ1 H1) (b : Le μ1 H1 μ2 H2) : Le μ H μ2 H2 := by
  obtain ⟨ν, e1, n1⟩ := a.ext
  obtain ⟨ν', e2, n2⟩ := b.ext
  refine ⟨⟨ν ++ ν', by rw [e2, e1, List.append_assoc], fun x hx => ?_⟩, fun x o h hn => ?_, fun x h => a.live x (b.live x h)⟩
  · rcases List.mem_append.mp hx with h | h
    · exact n1 x h
    · exact a.live x (n2 x h)
  · have h1 := a.keep x o h hn
    refine b.keep x o h1 fun z => ?_
    rw [e1] at z
    rcases List.mem_append.mp z with z | z
    · exact hn z
    · rw [n1 x z] at h; cases h
/-- a new object that the store does not bear (a tuple) -/
theorem Le.free {μ : List Addr} {H : Hp} {p : Addr} {o : HO} (h : H p = none) : Le μ H μ (upd H p o) :=
  ⟨⟨[], by simp, fun _ h => by cases h⟩, fun a u e _ => by rw [upd_ne (ne_of_none e h)]; exact e, fun a e => by
    by_cases q : a = p
    · rw [q]; exact h
    · rwa [upd_ne q] at e⟩
/-- a new object of the store -/
theorem Le.new {μ : List Addr} {H : Hp} {p : Addr} {o : HO} (h : H p = none) : Le μ H (μ ++ [p]) (upd H p o) :=
  ⟨⟨[p], rfl, fun a ha => by rw [List.mem_singleton.mp ha]; exact h⟩, (Le.free (μ := μ) h).keep, (Le.free (μ := μ) h).live⟩
/-- an object of the store is changed -/
theorem Le.write {μ : List Addr} {H : Hp} {p : Addr} {o : HO} (h : p ∈ μ) : Le μ H μ (upd H p o) :=
  ⟨⟨[], by simp, fun _ h => by cases h⟩, fun a u e hn => by rw [upd_ne (fun z : a = p => hn (by rw [z]; exact h))]; exact e, fun a e => by
    by_cases q : a = p
    · rw [q, upd_same] at e; cases e
    · rwa [upd_ne q] at e⟩
section
variable {K : PySem.W.Frag} {mg : Str → Option Value} {μ μ' : List Addr} {M M' : Mem} {H H' : Hp}
theorem RepM.sto (r : RepM K mg μ M H) : ∀ a ∈ μ, ∃ o, H a = some o ∧ Sto o := fun a ha => by
  obtain ⟨n, hn, e⟩ := List.getElem_of_mem ha
  have h1 : μ[n]? = some a := by rw [List.getElem?_eq_getElem hn, e]
  have h2 : n < M.length := by rw [← r.len]; exact hn
  have h3 := r.obj n a M[n] h1 (List.getElem?_eq_getElem h2)
  cases q : M[n] with
  | lst ds => rw [q] at h3; obtain ⟨vs, e, _⟩ := h3; exact ⟨_, e, trivial⟩
  | ins c fs => rw [q] at h3; obtain ⟨C, dx, gs, _, e, _⟩ := h3; exact ⟨_, e, trivial⟩
theorem sto_tup {xs : List V} {a : Addr} (s : ∀ a ∈ μ, ∃ o, H a = some o ∧ Sto o) (h : H a = some (.tup xs)) : a ∉ μ := fun z => by
  obtain ⟨o, e, q⟩ := s a z
  rw [h] at e; cases e; exact q
theorem sto_frz {o : Obj} {u : HO} {a : Addr} (s : ∀ a ∈ μ, ∃ o, H a = some o ∧ Sto o) (h : H a = some (.frz o u)) : a ∉ μ := fun z => by
  obtain ⟨o, e, q⟩ := s a z
  rw [h] at e; cases e; exact q
theorem Le.sqT {a : Addr} {xs : List V} (l : Le μ H μ' H') (s : ∀ a ∈ μ, ∃ o, H a = some o ∧ Sto o) (h : SqT K H a xs) : SqT K H' a xs := by
  rcases h with (h | ⟨o, h⟩) | h
  · exact .inl (.inl (l.keep _ _ h (sto_tup s h)))
  · exact .inl (.inr ⟨o, l.keep _ _ h (sto_frz s h)⟩)
  · exact .inr h
theorem Le.frL {a : Addr} {xs : List V} (l : Le μ H μ' H') (s : ∀ a ∈ μ, ∃ o, H a = some o ∧ Sto o) (h : FrL K H a xs) : FrL K H' a xs := by
  rcases h with ⟨o, h⟩ | h
  · exact .inl ⟨o, l.keep _ _ h (sto_frz s h)⟩
  · exact .inr h
theorem Le.at {n : Nat} {a : Addr} (l : Le μ H μ' H') (h : μ[n]? = some a) : μ'[n]? = some a := by
  obtain ⟨ν, e, _⟩ := l.ext
  rw [e, List.getElem?_append_left (List.getElem?_eq_some_iff.mp h).1]; exact h
mutual
theorem RepV.mono (l : Le μ H μ' H') (s : ∀ a ∈ μ, ∃ o, H a = some o ∧ Sto o) : ∀ (d : D) (v : V), RepV K mg μ H d v → RepV K mg μ' H' d v
  | _, _, .non => .non
  | _, _, .bl b => .bl b
  | _, _, .int i => .int i
  | _, _, .str x => .str x
  | _, _, .tup h r => .tup (l.sqT s h) (RepVs.mono l s _ _ r)
  | _, _, .fl h r => .fl (l.frL s h) (RepVs.mono l s _ _ r)
  | _, _, .ref h => .ref (l.at h)
  | _, _, .glo h r => .glo h r
  | _, _, .bty n => .bty n
theorem RepVs.mono (l : Le μ H μ' H') (s : ∀ a ∈ μ, ∃ o, H a = some o ∧ Sto o) : ∀ (ds : List D) (vs : List V), RepVs K mg μ H ds vs → RepVs K mg μ' H' ds vs
  | _, _, .nil => .nil
  | _, _, .cons h r => .cons (RepV.mono l s _ _ h) (RepVs.mono l s _ _ r)
end
theorem RepF.mono (l : Le μ H μ' H') (s : ∀ a ∈ μ, ∃ o, H a = some o ∧ Sto o) : ∀ {ds : List (Str × D)} {vs : List (Str × V)}, RepF K mg μ H ds vs → RepF K mg μ' H' ds vs
  | _, _, .nil => .nil
  | _, _, .cons h r => .cons (RepV.mono l s _ _ h) (r.mono l s)
theorem RepV.up {d : D} {v : V} (h : RepV K mg μ H d v) (l : Le μ H μ' H') (r : RepM K mg μ M H) : RepV K mg μ' H' d v := RepV.mono l r.sto d v h
theorem RepVs.up {d : List D} {v : List V} (h : RepVs K mg μ H d v) (l : Le μ H μ' H') (r : RepM K mg μ M H) : RepVs K mg μ' H' d v := RepVs.mono l r.sto d v h
theorem RepVs.length : ∀ {ds : List D} {vs : List V}, RepVs K mg μ H ds vs → ds.length = vs.length
  | _, _, .nil => rfl
  | _, _, .cons _ r => congrArg Nat.succ r.length
theorem RepVs.get : ∀ {ds : List D} {vs : List V} {i : Nat} {d : D}, RepVs K mg μ H ds vs → ds[i]? = some d → ∃ v, vs[i]? = some v ∧ RepV K mg μ H d v
  | _, _, _, _, .nil, e => by simp at e
  | _, _, 0, _, .cons h _, e => by simp at e; subst e; exact ⟨_, rfl, h⟩
  | _, _, i + 1, _, .cons _ r, e => by simpa using r.get (i := i) (by simpa using e)
theorem RepVs.append : ∀ {ds es : List D} {vs ws : List V}, RepVs K mg μ H ds vs → RepVs K mg μ H es ws → RepVs K mg μ H (ds ++ es) (vs ++ ws)
  | _, _, _, _, .nil, s => s
  | _, _, _, _, .cons h r, s => .cons h (r.append s)
theorem RepVs.take : ∀ {ds : List D} {vs : List V} (n : Nat), RepVs K mg μ H ds vs → RepVs K mg μ H (ds.take n) (vs.take n)
  | _, _, 0, _ => .nil
  | _, _, _ + 1, .nil => .nil
  | _, _, n + 1, .cons h r => .cons h (RepVs.take n r)
theorem RepVs.drop : ∀ {ds : List D} {vs : List V} (n : Nat), RepVs K mg μ H ds vs → RepVs K mg μ H (ds.drop n) (vs.drop n)
  | _, _, 0, r => r
  | _, _, _ + 1, .nil => .nil
  | _, _, n + 1, .cons _ r => RepVs.drop n r
theorem RepVs.set {d : D} {v : V} (h : RepV K mg μ H d v) : ∀ {ds : List D} {vs : List V} (n : Nat), RepVs K mg μ H ds vs → RepVs K mg μ H (ds.set n d) (vs.set n v)
  | _, _, _, .nil => .nil
  | _, _, 0, .cons _ r => .cons h r
  | _, _, n + 1, .cons q r => .cons q (RepVs.set h n r)
theorem RepVs.cut {ds : List D} {vs : List V} (lo hi : Option Int) (r : RepVs K mg μ H ds vs) : RepVs K mg μ H (cut ds lo hi) (cut vs lo hi) := by
  unfold DL.cut
  rw [r.length]
  exact (r.drop _).take _
theorem RepVs.rep {ds : List D} {vs : List V} (r : RepVs K mg μ H ds vs) : ∀ n : Nat, RepVs K mg μ H (List.replicate n ds).flatten (List.replicate n vs).flatten
  | 0 => .nil
  | n + 1 => by
    rw [List.replicate_succ, List.replicate_succ, List.flatten_cons, List.flatten_cons]
    exact r.append (r.rep n)
/-- the store behind new objects and writes -/
theorem RepM.up_obj (r : RepM K mg μ M H) (l : Le μ H μ' H') {a : Addr} {o : O} (h : RepO K mg μ H a o) (e : H' a = H a) : RepO K mg μ' H' a o := by
  cases o with
  | lst ds => obtain ⟨vs, h1, h2⟩ := h; exact ⟨vs, by rw [e]; exact h1, h2.up l r⟩
  | ins c fs => obtain ⟨C, dx, gs, h0, h1, h2⟩ := h; exact ⟨C, dx, gs, h0, by rw [e]; exact h1, h2.mono l r.sto⟩
theorem RepM.free (r : RepM K mg μ M H) {p : Addr} {o : HO} (h : H p = none) : RepM K mg μ M (upd H p o) :=
  ⟨r.len, r.nd, fun n a q h1 h2 => r.up_obj (Le.free h) (r.obj n a q h1 h2) (upd_ne (by
    obtain ⟨o', e, _⟩ := r.sto a (List.mem_of_getElem? h1)
    exact ne_of_none e h))⟩
theorem RepM.fresh (r : RepM K mg μ M H) {p : Addr} (h : H p = none) : p ∉ μ := fun z => by
  obtain ⟨o, e, _⟩ := r.sto p z
  rw [h] at e; cases e
theorem RepM.new (r : RepM K mg μ M H) {p : Addr} {o : HO} {q : O} (h : H p = none) (hq : RepO K mg (μ ++ [p]) (upd H p o) p q) : RepM K mg (μ ++ [p]) (M ++ [q]) (upd H p o) := by
  refine ⟨by simp [r.len], List.nodup_append.mpr ⟨r.nd, by simp, fun a ha b hb => by
    rw [List.mem_singleton.mp hb]
    rintro rfl
    exact r.fresh h ha⟩, fun n a u h1 h2 => ?_⟩
  by_cases hn : n < μ.length
  · rw [List.getElem?_append_left hn] at h1
    rw [List.getElem?_append_left (by rw [← r.len]; exact hn)] at h2
    refine r.up_obj (Le.new h) (r.obj n a u h1 h2) (upd_ne ?_)
    rintro rfl
    exact r.fresh h (List.mem_of_getElem? h1)
  · have e : n = μ.length := by
      have := (List.getElem?_eq_some_iff.mp h1).1
      simp at this; omega
    subst e
    rw [List.getElem?_append_right (Nat.le_refl _)] at h1
    simp at h1
    rw [r.len, List.getElem?_append_right (Nat.le_refl _)] at h2
    simp at h2
    subst h1; subst h2
    exact hq
theorem RepM.write (r : RepM K mg μ M H) {n : Nat} {p : Addr} {o : HO} {q : O} (hp : μ[n]? = some p) (hq : RepO K mg μ (upd H p o) p q) : RepM K mg μ (M.set n q) (upd H p o) := by
  have hm : p ∈ μ := List.mem_of_getElem? hp
  refine ⟨by simp [r.len], r.nd, fun k a u h1 h2 => ?_⟩
  by_cases hk : k = n
  · subst hk
    rw [hp] at h1; cases h1
    have hl : k < M.length := by
      have := (List.getElem?_eq_some_iff.mp h2).1
      simpa using this
    rw [List.getElem?_set_self hl] at h2; cases h2
    exact hq
  · rw [List.getElem?_set_ne (Ne.symm hk)] at h2
    refine r.up_obj (Le.write hm) (r.obj k a u h1 h2) (upd_ne ?_)
    rintro rfl
    obtain ⟨i1, e1⟩ := List.getElem?_eq_some_iff.mp h1
    obtain ⟨i2, e2⟩ := List.getElem?_eq_some_iff.mp hp
    exact hk ((List.getElem_inj r.nd).mp (e1.trans e2.symm))
theorem Le.sto (l : Le μ H μ' H') (h : ∀ a ∈ μ, ∃ o, H a = some o ∧ Sto o) (h' : ∀ a ∈ μ', ∃ o, H' a = some o ∧ Sto o) : True := trivial
end
end DL
end
section
set_option Elab.async false
set_option linter.all false
set_option maxRecDepth 100000
set_option maxHeartbeats 2000000
/-! DL, part c: what is wanted of a computation; operators. -/
namespace DL
open PySem PySem.Spec PyProof.Rows L2
/-- what is wanted of an exception -/
abbrev XW := D → List Addr → Mem → Hp → Prop
section
variable {α β γ δ : Type}
def Wants (K : PySem.W.Frag) (mg : Str → Option Value) (W : XW) (rel : List Addr → Hp → α → β → Prop) (x : Option (Except D α × Mem)) (μ : List Addr) (H : Hp) (Q : β → Hp → Prop) : Prop :=
  ∃ r M', x = some (r, M') ∧ ∀ μ' H', Le μ H μ' H' → RepM K mg μ' M' H' → match r with
    | .ok a => ∀ b, rel μ' H' a b → Q b H'
    | .error e => W e μ' M' H'
theorem Wants.bnd {K : PySem.W.Frag} {mg : Str → Option Value} {W : XW} {rel1 : List Addr → Hp → α → β → Prop} {rel2 : List Addr → Hp → γ → δ → Prop} {m : R α} {f : α → R γ} {M : Mem} {μ : List Addr} {H : Hp} {Q : δ → Hp → Prop}
    (h : Wants K mg W rel2 (bnd m f M) μ H Q) : Wants K mg W rel1 (m M) μ H (fun b H1 => ∃ μ1 M1 a, Le μ H μ1 H1 ∧ RepM K mg μ1 M1 H1 ∧ rel1 μ1 H1 a b ∧ Wants K mg W rel2 (f a M1) μ1 H1 Q) := by
  obtain ⟨r, M', e, k⟩ := h
  have e' : (match m M with | none => none | some (.error e, M') => some (.error e, M') | some (.ok a, M') => f a M') = some (r, M') := e
  cases hm : m M with
  | none => rw [hm] at e'; cases e'
  | some p =>
    obtain ⟨r1, M1⟩ := p
    rw [hm] at e'
    cases r1 with
    | error x =>
      cases e'
      exact ⟨_, _, rfl, fun μ' H' l rm => k μ' H' l rm⟩
    | ok a => exact ⟨.ok a, M1, rfl, fun μ1 H1 l rm b hb => ⟨μ1, M1, a, l, rm, hb, r, M', e', fun μ' H' l' rm' => k μ' H' (l.trans l') rm'⟩⟩
theorem Wants.ret {K : PySem.W.Frag} {mg : Str → Option Value} {W : XW} {rel : List Addr → Hp → α → β → Prop} {a : α} {M : Mem} {μ : List Addr} {H : Hp} {Q : β → Hp → Prop} (h : Wants K mg W rel (ret a M) μ H Q) (rm : RepM K mg μ M H) {b : β} (hb : rel μ H a b) : Q b H := by
  obtain ⟨r, M', e, k⟩ := h
  cases (show some (Except.ok a, M) = some (r, M') from e)
  exact k μ H (Le.refl _ _) rm b hb
theorem Wants.fail {K : PySem.W.Frag} {mg : Str → Option Value} {W : XW} {rel : List Addr → Hp → α → β → Prop} {M : Mem} {μ : List Addr} {H : Hp} {Q : β → Hp → Prop} (h : Wants K mg W rel (fail M) μ H Q) : False := by
  obtain ⟨r, M', e, k⟩ := h
  cases e
theorem Wants.none {K : PySem.W.Frag} {mg : Str → Option Value} {W : XW} {rel : List Addr → Hp → α → β → Prop} {μ : List Addr} {H : Hp} {Q : β → Hp → Prop} (h : Wants K mg W rel none μ H Q) : False := by
  obtain ⟨r, M', e, k⟩ := h
  cases e
theorem Wants.some {K : PySem.W.Frag} {mg : Str → Option Value} {W : XW} {rel : List Addr → Hp → α → β → Prop} {a : α} {M' : Mem} {μ : List Addr} {H : Hp} {Q : β → Hp → Prop} (h : Wants K mg W rel (some (.ok a, M')) μ H Q) {μ' : List Addr} {H' : Hp} (l : Le μ H μ' H') (rm : RepM K mg μ' M' H') {b : β} (hb : rel μ' H' a b) : Q b H' := by
  obtain ⟨r, M2, e, k⟩ := h
  cases e
  exact k μ' H' l rm b hb
/-- a new object, made -/
theorem Wants.made {K : PySem.W.Frag} {mg : Str → Option Value} {W : XW} {o : O} {M : Mem} {μ : List Addr} {H : Hp} {Q : V → Hp → Prop} (h : Wants K mg W (RepV K mg) (new o M) μ H Q) (rm : RepM K mg μ M H) {p : Addr} {u : HO} (hp : H p = Option.none) (hq : RepO K mg (μ ++ [p]) (upd H p u) p o) : Q (.ref p) (upd H p u) := by
  obtain ⟨r, M2, e, k⟩ := h
  cases (show Option.some (Except.ok (D.ref M.length), M ++ [o]) = Option.some (r, M2) from e)
  refine k _ _ (Le.new hp) (rm.new hp hq) _ (.ref ?_)
  rw [← rm.len, List.getElem?_append_right (Nat.le_refl _)]
  simp
end
section
variable {X : Cx} {W : XW}
/-- a two-place operation by abstract values -/
def rD (K : PySem.W.Frag) (mg : Str → Option Value) (W : XW) (g : D → D → R D) : R2 := fun x y H Q => ∃ μ M a b, RepM K mg μ M H ∧ RepV K mg μ H a x ∧ RepV K mg μ H b y ∧ Wants K mg W (RepV K mg) (g a b M) μ H Q
/-- lists as sequences of the layer -/
theorem seq_of {μ : List Addr} {M : Mem} {H : Hp} {x : D} {v : V} {ds : List D} (rm : RepM X.K X.mg μ M H) (rv : RepV X.K X.mg μ H x v) (e : seqOf M x = some ds) : ∃ a vs, v = .ref a ∧ (SqL X.K H a vs ∨ SqT X.K H a vs) ∧ RepVs X.K X.mg μ H ds vs := by
  cases rv with
  | tup h r => cases e; exact ⟨_, _, rfl, .inr h, r⟩
  | fl h r => cases e; exact ⟨_, _, rfl, .inl h.sq, r⟩
  | @ref n a h =>
    simp only [seqOf] at e
    split at e
    · rename_i ds' hm
      cases e
      obtain ⟨vs, h1, h2⟩ := rm.obj n a _ h hm
      exact ⟨a, vs, rfl, .inl (SqL.of h1), h2⟩
    · cases e
  | _ => simp [seqOf] at e
theorem seq_l {μ : List Addr} {M : Mem} {H : Hp} {n : Nat} {a : Addr} {ds : List D} (rm : RepM X.K X.mg μ M H) (h : μ[n]? = some a) (e : M[n]? = some (.lst ds)) : ∃ vs, H a = some (.lst vs) ∧ RepVs X.K X.mg μ H ds vs := rm.obj n a _ h e
end
section
variable {K : PySem.W.Frag} {mg : Str → Option Value} {μ : List Addr} {M : Mem} {H : Hp}
theorem repVs_ints : ∀ {ds : List D} {vs : List V} {ns : List Int}, RepVs K mg μ H ds vs → intsOf ds = some ns → vs = ns.map V.int
  | _, _, _, .nil, e => by simp [intsOf, mapO] at e; subst e; rfl
  | _, _, _, .cons (d := d) (ds := ds) h r, e => by
    simp only [intsOf, mapO] at e
    split at e
    · rename_i b bs h1 h2
      cases e
      cases h <;> simp at h1
      subst h1
      rw [repVs_ints r h2]; rfl
    · cases e
theorem repVs_strs : ∀ {ds : List D} {vs : List V} {ns : List Str}, RepVs K mg μ H ds vs → strsOf ds = some ns → vs = ns.map V.str
  | _, _, _, .nil, e => by simp [strsOf, mapO] at e; subst e; rfl
  | _, _, _, .cons (d := d) (ds := ds) h r, e => by
    simp only [strsOf, mapO] at e
    split at e
    · rename_i b bs h1 h2
      cases e
      cases h <;> simp at h1
      subst h1
      rw [repVs_strs r h2]; rfl
    · cases e
theorem repVs_bls : ∀ {ds : List D} {vs : List V} {ns : List Bool}, RepVs K mg μ H ds vs → blsOf ds = some ns → vs = ns.map V.bl
  | _, _, _, .nil, e => by simp [blsOf, mapO] at e; subst e; rfl
  | _, _, _, .cons (d := d) (ds := ds) h r, e => by
    simp only [blsOf, mapO] at e
    split at e
    · rename_i b bs h1 h2
      cases e
      cases h <;> simp at h1
      subst h1
      rw [repVs_bls r h2]; rfl
    · cases e
theorem repVs_of_ints : ∀ (ns : List Int), RepVs K mg μ H (ns.map D.int) (ns.map V.int)
  | [] => .nil
  | n :: ns => .cons (.int n) (repVs_of_ints ns)
theorem repVs_of_strs : ∀ (ns : List Str), RepVs K mg μ H (ns.map D.str) (ns.map V.str)
  | [] => .nil
  | n :: ns => .cons (.str n) (repVs_of_strs ns)
theorem flat_v {d : D} {v : V} (r : RepV K mg μ H d v) (h : d.flat = true) : flatV v = true := by
  cases r <;> first | rfl | (simp [D.flat] at h)
theorem flat_vs : ∀ {ds : List D} {vs : List V}, RepVs K mg μ H ds vs → ds.all D.flat = true → vs.all flatV = true
  | _, _, .nil, _ => rfl
  | _, _, .cons h r, e => by
    simp only [List.all_cons, Bool.and_eq_true] at e ⊢
    exact ⟨flat_v h e.1, flat_vs r e.2⟩
theorem feq_v {a b : D} {x y : V} (ra : RepV K mg μ H a x) (rb : RepV K mg μ H b y) (ha : a.flat = true) (hb : b.flat = true) : eqV x y = D.feq a b := by
  cases ra <;> first | (simp [D.flat] at ha; done) | (cases rb <;> first | (simp [D.flat] at hb; done) | rfl)
theorem inSeq_v {x : D} {v : V} (rx : RepV K mg μ H x v) (hx : x.flat = true) : ∀ {ds : List D} {vs : List V}, RepVs K mg μ H ds vs → ds.all D.flat = true → inV v vs = inSeq x ds
  | _, _, .nil, _ => rfl
  | _, _, .cons h r, e => by
    simp only [List.all_cons, Bool.and_eq_true] at e
    have := inSeq_v rx hx r e.2
    simp only [inV, inSeq, List.any_cons] at this ⊢
    rw [this, feq_v h rx e.1 hx]
theorem atI_v {ds : List D} {vs : List V} {i : Int} {d : D} (r : RepVs K mg μ H ds vs) (e : atI ds i = some d) : ∃ v, atI vs i = some v ∧ RepV K mg μ H d v := by
  unfold atI at e ⊢
  rw [← r.length]
  cases h : L2.ixN ds.length i with
  | none => rw [h] at e; cases e
  | some j =>
    rw [h] at e
    exact r.get e
/-- data, read as such -/
theorem mapO_dp {f : D → Option PyData} (hf : ∀ d v p, f d = some p → RepV K mg μ H d v → Dp K H v p) : ∀ {ds : List D} {vs : List V} {ps : List PyData}, mapO f ds = some ps → RepVs K mg μ H ds vs → DpAll K H vs ps
  | [], _, _, e, .nil => by simp [mapO] at e; subst e; exact .nil
  | d :: ds, _, _, e, .cons h r => by
    simp only [mapO] at e
    split at e
    · rename_i b bs h1 h2
      cases e
      exact .cons (hf d _ b h1 h) (mapO_dp hf h2 r)
    · cases e
theorem toPy_dp (rm : RepM K mg μ M H) : ∀ (n : Nat) (d : D) (v : V) (p : PyData), toPy M n d = some p → RepV K mg μ H d v → Dp K H v p := by
  intro n
  induction n with
  | zero => intro d v p e _; simp [toPy] at e
  | succ n ih =>
    intro d v p e r
    cases r with
    | non => simp [toPy] at e; subst e; exact .non
    | bl b => simp [toPy] at e; subst e; exact .bl b
    | int b => simp [toPy] at e; subst e; exact .int b
    | str b => simp [toPy] at e; subst e; exact .str b
    | tup h r =>
      simp only [toPy, Option.map_eq_some_iff] at e
      obtain ⟨ps, e1, rfl⟩ := e
      exact .tup h (mapO_dp ih e1 r)
    | fl h r =>
      simp only [toPy, Option.map_eq_some_iff] at e
      obtain ⟨ps, e1, rfl⟩ := e
      exact .lst h.sq (mapO_dp ih e1 r)
    | @ref k a h =>
      simp only [toPy] at e
      split at e
      · rename_i ds hm
        simp only [Option.map_eq_some_iff] at e
        obtain ⟨ps, e1, rfl⟩ := e
        obtain ⟨vs, h1, h2⟩ := rm.obj k a _ h hm
        exact .lst (SqL.of h1) (mapO_dp ih e1 h2)
      · cases e
    | glo _ _ => simp [toPy] at e
    | bty _ => simp [toPy] at e
theorem tru_v {d : D} {v : V} {b : Bool} (rm : RepM K mg μ M H) (r : RepV K mg μ H d v) (e : truD M d = some b) : TruV K v H b := by
  cases r with
  | non => simp [truD] at e; subst e; rfl
  | bl c => simp [truD] at e; subst e; rfl
  | int i => simp [truD] at e; subst e; rfl
  | str y =>
    simp only [truD] at e
    split at e
    · rename_i hz; cases e; exact ⟨hz, rfl⟩
    · cases e
  | tup h r =>
    simp only [truD, Option.some.injEq] at e; subst e
    refine .inr (.inl ⟨_, h, ?_⟩)
    cases r <;> rfl
  | fl h r =>
    simp only [truD, Option.some.injEq] at e; subst e
    refine .inl ⟨_, h.sq, ?_⟩
    cases r <;> rfl
  | @ref k a h =>
    simp only [truD] at e
    split at e
    · rename_i ds hm
      cases e
      obtain ⟨vs, h1, h2⟩ := rm.obj k a _ h hm
      refine .inl ⟨vs, SqL.of h1, ?_⟩
      cases h2 <;> rfl
    · cases e
  | glo _ _ => simp [truD] at e
  | bty _ => simp [truD] at e
end
end DL
end
section
set_option Elab.async false
set_option linter.all false
set_option maxRecDepth 100000
set_option maxHeartbeats 2000000
/-! DL, part d: the operators keep their promises. -/
namespace DL
open PySem PySem.Spec PyProof.Rows L2
section
variable {X : Cx} {W : XW}
theorem Wants.ite {α β : Type} {K : PySem.W.Frag} {mg : Str → Option Value} {W : XW} {rel : List Addr → Hp → α → β → Prop} {c : Prop} [Decidable c] {m : R α} {M : Mem} {μ : List Addr} {H : Hp} {Q : β → Hp → Prop}
    (h : Wants K mg W rel ((if c then m else DL.fail) M) μ H Q) : c ∧ Wants K mg W rel (m M) μ H Q := by
  by_cases hc : c
  · rw [if_pos hc] at h; exact ⟨hc, h⟩
  · rw [if_neg hc] at h; exact h.fail.elim
theorem Wants.iteN {α β : Type} {K : PySem.W.Frag} {mg : Str → Option Value} {W : XW} {rel : List Addr → Hp → α → β → Prop} {c : Prop} [Decidable c] {x : Option (Except D α × Mem)} {μ : List Addr} {H : Hp} {Q : β → Hp → Prop}
    (h : Wants K mg W rel (if c then x else Option.none) μ H Q) : c ∧ Wants K mg W rel x μ H Q := by
  by_cases hc : c
  · rw [if_pos hc] at h; exact ⟨hc, h⟩
  · rw [if_neg hc] at h; exact h.none.elim
theorem bnd_some {α β : Type} {m : R α} {f : α → R β} {M M' : Mem} {r : Except D β} (e : bnd m f M = some (r, M')) : (∃ x, m M = some (.error x, M') ∧ r = .error x) ∨ ∃ a M1, m M = some (.ok a, M1) ∧ f a M1 = some (r, M') := by
  unfold bnd at e
  split at e
  · cases e
  · rename_i x M1 h; cases e; exact .inl ⟨x, h, rfl⟩
  · rename_i a M1 h; exact .inr ⟨a, M1, h, e⟩
theorem op_addD : OpR X (binaryOp .Add) (rD X.K X.mg W (binD .add)) := by
  intro pins s σ H x y v u Q I rx ry ⟨μ, M, a, b, rm, ra, rb, h⟩
  show wpAny _ _ _ _ _ _
  have h : Wants X.K X.mg W (RepV X.K X.mg) (addD a b M) μ H Q := h
  unfold addD at h
  split at h
  · cases ra; cases rb
    exact op_add pins s σ H _ _ v u Q I rx ry ⟨_, _, rfl, rfl, h.ret rm (.int _)⟩
  · cases ra; cases rb
    obtain ⟨hc, h⟩ := h.ite
    exact op_add_str pins s σ H _ _ v u Q I rx ry ⟨_, _, rfl, rfl, hc, h.ret rm (.str _)⟩
  · cases ra with | tup h1 r1 => cases rb with | tup h2 r2 =>
    obtain ⟨hc, h⟩ := h.ite
    refine op_catA pins s σ H _ _ v u Q I rx ry ⟨_, _, _, _, rfl, rfl, h1, h2, by rw [← r1.length, ← r2.length]; exact hc, fun e => ?_, fun e1 e2 => ?_, fun e1 e2 p hp => ?_⟩
    · subst e; cases r1; exact h.ret rm (.tup h2 r2)
    · subst e2; cases r2; rw [List.append_nil] at h; exact h.ret rm (.tup h1 r1)
    · exact h.some (Le.free hp) (rm.free hp) (.tup (SqT.of upd_same) ((r1.up (Le.free hp) rm).append (r2.up (Le.free hp) rm)))
  · cases ra with | ref h1 => cases rb with | ref h2 =>
    split at h
    · rename_i xs ys e1 e2
      obtain ⟨hc, h⟩ := h.iteN
      obtain ⟨vs, g1, r1⟩ := seq_l rm h1 e1
      obtain ⟨ws, g2, r2⟩ := seq_l rm h2 e2
      exact op_cat pins s σ H _ _ v u Q I rx ry ⟨_, _, _, _, rfl, rfl, g1, g2, by rw [← r1.length, ← r2.length]; exact hc, fun p hp => h.made rm hp ⟨_, upd_same, (r1.up (Le.new hp) rm).append (r2.up (Le.new hp) rm)⟩⟩
    · exact h.none.elim
  · exact h.fail.elim
theorem op_subD : OpR X (binaryOp .Sub) (rD X.K X.mg W (binD .sub)) := by
  intro pins s σ H x y v u Q I rx ry ⟨μ, M, a, b, rm, ra, rb, h⟩
  have h : Wants X.K X.mg W (RepV X.K X.mg) (subD a b M) μ H Q := h
  unfold subD at h
  split at h
  · cases ra; cases rb
    exact op_sub pins s σ H _ _ v u Q I rx ry ⟨_, _, rfl, rfl, h.ret rm (.int _)⟩
  · exact h.fail.elim
theorem op_mulD : OpR X (binaryOp .Mult) (rD X.K X.mg W (binD .mul)) := by
  intro pins s σ H x y v u Q I rx ry ⟨μ, M, a, b, rm, ra, rb, h⟩
  have h : Wants X.K X.mg W (RepV X.K X.mg) (mulD a b M) μ H Q := h
  unfold mulD at h
  split at h
  · cases ra; cases rb
    obtain ⟨hc, h⟩ := h.ite
    refine op_mul pins s σ H _ _ v u Q I rx ry ⟨_, _, rfl, rfl, ?_, h.ret rm (.int _)⟩
    simp only [small, Bool.or_eq_true, decide_eq_true_eq] at hc
    exact hc
  · cases ra with | ref h1 => ?_
    cases rb
    split at h
    · rename_i xs e1
      obtain ⟨⟨c1, c2, c3⟩, h⟩ := h.iteN
      obtain ⟨vs, g1, r1⟩ := seq_l rm h1 e1
      exact op_rep pins s σ H _ _ v u Q I rx ry ⟨_, _, _, rfl, rfl, g1, c1, c2, by rw [← r1.length]; exact c3, fun p hp => h.made rm hp ⟨_, upd_same, (r1.up (Le.new hp) rm).rep _⟩⟩
    · exact h.none.elim
  · cases ra with | tup h1 r1 => ?_
    cases rb
    obtain ⟨⟨c0, c1, c2, c3⟩, h⟩ := h.ite
    refine op_repT pins s σ H _ _ v u Q I rx ry ⟨_, _, _, rfl, rfl, h1, ?_, c1, c2, by rw [← r1.length]; exact c3, fun p hp => h.some (Le.free hp) (rm.free hp) (.tup (SqT.of upd_same) ((r1.up (Le.free hp) rm).rep _))⟩
    rintro rfl
    cases r1
    cases c0
  · exact h.fail.elim
theorem op_modD : OpR X (binaryOp .Mod) (rD X.K X.mg W (binD .mod)) := by
  intro pins s σ H x y v u Q I rx ry ⟨μ, M, a, b, rm, ra, rb, h⟩
  have h : Wants X.K X.mg W (RepV X.K X.mg) (modD a b M) μ H Q := h
  unfold modD at h
  split at h
  · cases ra; cases rb
    obtain ⟨hc, h⟩ := h.ite
    exact op_mod pins s σ H _ _ v u Q I rx ry ⟨_, _, rfl, rfl, hc, h.ret rm (.int _)⟩
  · exact h.fail.elim
theorem op_fdivD : OpR X (binaryOp .FloorDiv) (rD X.K X.mg W (binD .fdiv)) := by
  intro pins s σ H x y v u Q I rx ry ⟨μ, M, a, b, rm, ra, rb, h⟩
  have h : Wants X.K X.mg W (RepV X.K X.mg) (fdivD a b M) μ H Q := h
  unfold fdivD at h
  split at h
  · cases ra; cases rb
    obtain ⟨hc, h⟩ := h.ite
    exact op_fdiv pins s σ H _ _ v u Q I rx ry ⟨_, _, rfl, rfl, hc, h.ret rm (.int _)⟩
  · exact h.fail.elim
theorem op_powD : OpR X (binaryOp .Pow) (rD X.K X.mg W (binD .pow)) := by
  intro pins s σ H x y v u Q I rx ry ⟨μ, M, a, b, rm, ra, rb, h⟩
  have h : Wants X.K X.mg W (RepV X.K X.mg) (powD a b M) μ H Q := h
  unfold powD at h
  split at h
  · cases ra; cases rb
    obtain ⟨hc, h⟩ := h.ite
    exact op_pow pins s σ H _ _ v u Q I rx ry ⟨_, _, rfl, rfl, hc, h.ret rm (.int _)⟩
  · exact h.fail.elim
/-! ### comparisons -/
theorem str_one {a : Str} {c : Nat} (h : a.cps.toList = [c]) : a = ⟨#[c]⟩ := by
  obtain ⟨cps⟩ := a
  have : cps = #[c] := by
    apply Array.toList_inj.mp
    exact h
  rw [this]
theorem eq_wants {μ : List Addr} {M : Mem} {H : Hp} {a b : D} {f : Bool → Bool} {Q : V → Hp → Prop} {x y : V} (rm : RepM X.K X.mg μ M H) (ra : RepV X.K X.mg μ H a x) (rb : RepV X.K X.mg μ H b y)
    (h : Wants X.K X.mg W (RepV X.K X.mg) (bnd (eqD a b) (fun k => ret (.bl (f k))) M) μ H Q) : ∃ d e, Dp X.K H x d ∧ Dp X.K H y e ∧ SeqAt.shaped d = true ∧ SeqAt.shaped e = true ∧ Q (.bl (f (PyData.eqv d e))) H := by
  obtain ⟨r, M', e, k⟩ := h
  simp only [bnd, eqD] at e
  split at e
  · cases e
  · rename_i e1
    split at e1
    · split at e1 <;> cases e1
    · cases e1
  · rename_i e1
    split at e1
    · rename_i p q hp hq
      split at e1
      · rename_i hs
        cases e1
        simp only [Bool.and_eq_true] at hs
        cases e
        exact ⟨p, q, toPy_dp rm 20 a x p hp ra, toPy_dp rm 20 b y q hq rb, hs.1, hs.2, k μ H (Le.refl _ _) rm _ (.bl _)⟩
      · cases e1
    · cases e1
theorem op_eqDD {k : Nat} (hr : Room k X.A) : OpR X (compareOp .Eq) (rD X.K X.mg W (cmpD .eq)) := by
  intro pins s σ H x y v u Q I rx ry ⟨μ, M, a, b, rm, ra, rb, h⟩
  exact op_eqD hr.units pins s σ H _ _ v u Q I rx ry (eq_wants (f := id) rm ra rb h)
theorem op_neDD {k : Nat} (hr : Room k X.A) : OpR X (compareOp .NotEq) (rD X.K X.mg W (cmpD .ne)) := by
  intro pins s σ H x y v u Q I rx ry ⟨μ, M, a, b, rm, ra, rb, h⟩
  exact op_neD hr.units pins s σ H _ _ v u Q I rx ry (eq_wants (f := not) rm ra rb h)
theorem op_ltD : OpR X (compareOp .Lt) (rD X.K X.mg W (cmpD .lt)) := by
  intro pins s σ H x y v u Q I rx ry ⟨μ, M, a, b, rm, ra, rb, h⟩
  have h : Wants X.K X.mg W (RepV X.K X.mg) (ltD a b M) μ H Q := h
  unfold ltD at h
  split at h
  · cases ra; cases rb; exact op_lt pins s σ H _ _ v u Q I rx ry ⟨_, _, rfl, rfl, h.ret rm (.bl _)⟩
  · cases ra; cases rb; exact op_lt_str pins s σ H _ _ v u Q I rx ry ⟨_, _, rfl, rfl, h.ret rm (.bl _)⟩
  · exact h.fail.elim
theorem op_leD : OpR X (compareOp .LtE) (rD X.K X.mg W (cmpD .le)) := by
  intro pins s σ H x y v u Q I rx ry ⟨μ, M, a, b, rm, ra, rb, h⟩
  have h : Wants X.K X.mg W (RepV X.K X.mg) (leD a b M) μ H Q := h
  unfold leD at h
  split at h
  · cases ra; cases rb; exact op_le pins s σ H _ _ v u Q I rx ry ⟨_, _, rfl, rfl, h.ret rm (.bl _)⟩
  · cases ra; cases rb; exact op_le_str pins s σ H _ _ v u Q I rx ry ⟨_, _, rfl, rfl, h.ret rm (.bl _)⟩
  · exact h.fail.elim
theorem op_gtD : OpR X (compareOp .Gt) (rD X.K X.mg W (cmpD .gt)) := by
  intro pins s σ H x y v u Q I rx ry ⟨μ, M, a, b, rm, ra, rb, h⟩
  have h : Wants X.K X.mg W (RepV X.K X.mg) (gtD a b M) μ H Q := h
  unfold gtD at h
  split at h
  · cases ra; cases rb; exact op_gt pins s σ H _ _ v u Q I rx ry ⟨_, _, rfl, rfl, h.ret rm (.bl _)⟩
  · cases ra; cases rb; exact op_gt_str pins s σ H _ _ v u Q I rx ry ⟨_, _, rfl, rfl, h.ret rm (.bl _)⟩
  · exact h.fail.elim
theorem op_geD : OpR X (compareOp .GtE) (rD X.K X.mg W (cmpD .ge)) := by
  intro pins s σ H x y v u Q I rx ry ⟨μ, M, a, b, rm, ra, rb, h⟩
  have h : Wants X.K X.mg W (RepV X.K X.mg) (geD a b M) μ H Q := h
  unfold geD at h
  split at h
  · cases ra; cases rb; exact op_ge pins s σ H _ _ v u Q I rx ry ⟨_, _, rfl, rfl, h.ret rm (.bl _)⟩
  · cases ra; cases rb; exact op_ge_str pins s σ H _ _ v u Q I rx ry ⟨_, _, rfl, rfl, h.ret rm (.bl _)⟩
  · exact h.fail.elim
theorem is_wants {μ : List Addr} {M : Mem} {H : Hp} {a b : D} {f : Bool → Bool} {Q : V → Hp → Prop} {x y : V} (rm : RepM X.K X.mg μ M H) (ra : RepV X.K X.mg μ H a x) (rb : RepV X.K X.mg μ H b y)
    (h : Wants X.K X.mg W (RepV X.K X.mg) (bnd (opt (isD a b)) (fun k => ret (.bl (f k))) M) μ H Q) : (y = .non ∧ Q (.bl (f (decide (x = .non)))) H) ∨ ∃ p q : Bool, x = .bl p ∧ y = .bl q ∧ Q (.bl (f (decide (p = q)))) H := by
  obtain ⟨r, M', e, k⟩ := h
  simp only [bnd, opt] at e
  cases hi : isD a b with
  | none => rw [hi] at e; cases e
  | some t =>
    rw [hi] at e
    cases e
    have fin : ∀ b', b' = t → Q (.bl (f b')) H := fun b' e => by subst e; exact k μ H (Le.refl _ _) rm _ (.bl _)
    unfold isD at hi
    split at hi
    · cases ra; cases rb; cases hi; exact .inl ⟨rfl, fin _ (by simp)⟩
    · cases hi
    · rename_i hn hg
      cases rb; cases hi
      refine .inl ⟨rfl, fin _ ?_⟩
      cases ra <;> first | (simp; done) | (exact absurd rfl hn) | (exact absurd rfl (hg _))
    · cases ra; cases rb; cases hi
      exact .inr ⟨_, _, rfl, rfl, fin _ (by rename_i a b; cases a <;> cases b <;> rfl)⟩
    · cases hi
theorem op_isD : OpR X (compareOp .Is) (rD X.K X.mg W (cmpD .isO)) := by
  intro pins s σ H x y v u Q I rx ry ⟨μ, M, a, b, rm, ra, rb, h⟩
  rcases is_wants (f := id) rm ra rb h with h | ⟨p, q, e1, e2, h⟩
  · exact op_isN pins s σ H _ _ v u Q I rx ry h
  · exact op_isBl pins s σ H _ _ v u Q I rx ry ⟨p, q, e1, e2, h⟩
theorem op_isNotD : OpR X (compareOp .IsNot) (rD X.K X.mg W (cmpD .isNot)) := by
  intro pins s σ H x y v u Q I rx ry ⟨μ, M, a, b, rm, ra, rb, h⟩
  rcases is_wants (f := not) rm ra rb h with h | ⟨p, q, e1, e2, h⟩
  · exact op_notN pins s σ H _ _ v u Q I rx ry h
  · exact op_notBl pins s σ H _ _ v u Q I rx ry ⟨p, q, e1, e2, h⟩
theorem in_wants {μ : List Addr} {M : Mem} {H : Hp} {a b : D} {f : Bool → Bool} {Q : V → Hp → Prop} {x y : V} (rm : RepM X.K X.mg μ M H) (ra : RepV X.K X.mg μ H a x) (rb : RepV X.K X.mg μ H b y)
    (h : Wants X.K X.mg W (RepV X.K X.mg) (bnd (inD a b) (fun k => ret (.bl (f k))) M) μ H Q) :
    (∃ (c : Nat) (z : Str), x = .str ⟨#[c]⟩ ∧ y = .str z ∧ Q (.bl (f (decide (c ∈ z.cps.toList)))) H) ∨
    ∃ p xs, y = .ref p ∧ (SqL X.K H p xs ∨ SqT X.K H p xs) ∧ flatV x = true ∧ xs.all flatV = true ∧ Q (.bl (f (inV x xs))) H := by
  obtain ⟨r, M', e, k⟩ := h
  rcases bnd_some e with ⟨z, hi, e⟩ | ⟨t, M1, hi, e⟩
  · exfalso
    unfold inD at hi
    split at hi
    · split at hi <;> cases hi
    · split at hi
      · split at hi <;> cases hi
      · cases hi
  · unfold inD at hi
    split at hi
    · split at hi
      · rename_i c hc
        cases hi
        cases e
        cases ra; cases rb
        have := str_one hc
        exact .inl ⟨c, _, by rw [this], rfl, k μ H (Le.refl _ _) rm _ (.bl _)⟩
      · cases hi
    · split at hi
      · rename_i ys hy
        split at hi
        · rename_i hf
          cases hi
          cases e
          simp only [Bool.and_eq_true] at hf
          obtain ⟨p, vs, e1, hs, rv⟩ := seq_of (X := X) rm rb hy
          refine .inr ⟨p, vs, e1, hs, flat_v ra hf.1, flat_vs rv hf.2, ?_⟩
          rw [inSeq_v ra hf.1 rv hf.2]
          exact k μ H (Le.refl _ _) rm _ (.bl _)
        · cases hi
      · cases hi
theorem op_inDD : OpR X (compareOp .In) (rD X.K X.mg W (cmpD .inO)) := by
  intro pins s σ H x y v u Q I rx ry ⟨μ, M, a, b, rm, ra, rb, h⟩
  rcases in_wants (f := id) rm ra rb h with h | ⟨p, xs, e1, hs, h1, h2, h3⟩
  · exact op_in_sign pins s σ H _ _ v u Q I rx ry h
  · exact op_in_seq pins s σ H _ _ v u Q I rx ry ⟨p, xs, e1, hs, h1, h2, h3⟩
theorem op_notInDD : OpR X (compareOp .NotIn) (rD X.K X.mg W (cmpD .notIn)) := by
  intro pins s σ H x y v u Q I rx ry ⟨μ, M, a, b, rm, ra, rb, h⟩
  rcases in_wants (f := not) rm ra rb h with h | ⟨p, xs, e1, hs, h1, h2, h3⟩
  · exact op_notIn_sign pins s σ H _ _ v u Q I rx ry h
  · exact op_notIn_seq pins s σ H _ _ v u Q I rx ry ⟨p, xs, e1, hs, h1, h2, h3⟩
/-- all of them -/
def opOf : BinO → Operator
  | .add => .Add | .sub => .Sub | .mul => .Mult | .mod => .Mod | .fdiv => .FloorDiv | .pow => .Pow
def cmpOf : CmpO → CmpOp
  | .eq => .Eq | .ne => .NotEq | .lt => .Lt | .le => .LtE | .gt => .Gt | .ge => .GtE | .isO => .Is | .isNot => .IsNot | .inO => .In | .notIn => .NotIn
theorem op_D (o : BinO) : OpR X (binaryOp (opOf o)) (rD X.K X.mg W (binD o)) := by
  cases o
  · exact op_addD
  · exact op_subD
  · exact op_mulD
  · exact op_modD
  · exact op_fdivD
  · exact op_powD
theorem cmp_D {k : Nat} (hr : Room k X.A) (o : CmpO) : OpR X (compareOp (cmpOf o)) (rD X.K X.mg W (cmpD o)) := by
  cases o
  · exact op_eqDD hr
  · exact op_neDD hr
  · exact op_ltD
  · exact op_leD
  · exact op_gtD
  · exact op_geD
  · exact op_isD
  · exact op_isNotD
  · exact op_inDD
  · exact op_notInDD
end
end DL
end
section
set_option Elab.async false
set_option linter.all false
set_option maxRecDepth 100000
set_option maxHeartbeats 2000000
/-! DL, part i: the language and its interpreter. -/
namespace DL
open PySem
inductive Sel where | arg (k : Nat) | val (d : D)
/-- len, str, bool of an instance -/
inductive Dk where | len | str | bool
mutual
inductive CE where
  | var (i : Nat) | con (d : D) | bin (o : BinO) (a b : CE) | neg (a : CE) | tst (t : CT)
  | cmp (o : CmpO) (a b : CE) | chain (o o' : CmpO) (a b c : CE) | ite (t : CT) (a b : CE)
  | bcall (f : BF) (as : CEs) | bmeth (m : BM) (o : CE) (as : CEs) | isi (a : CE) (c : D)
  | own (f : Nat) (as ks : CEs) (sel : List Sel) | make (c : Str) (as ks : CEs) (sel : List Sel) | makeV (c : Str) (o : CE) (as : CEs) (sel : List Sel)
  | ometh (m : Str) (c : Str) (o : CE) (as ks : CEs) (sel : List Sel) | cmeth (c m : Str) (as ks : CEs) (sel : List Sel)
  | oeq (ne : Bool) (c : Str) (a b : CE) | dund (k : Dk) (c : Str) (a : CE)
  | attr (o : CE) (f : Str) | ix (a b : CE) | slice (a : CE) (lo hi : CO) | revS (a : CE)
  | tup (as : CEs) | lst (as : CEs) | comp (it : CI) (g : CG) (t : CT) (e : CE) (own : List Nat)
  | fstr (ps : CEs) | fmt (a : CE) | andV (a b : CE) | orV (a b : CE) | notV (a : CE)
inductive CEs where | nil | cons (e : CE) (es : CEs)
inductive CT where | val (e : CE) | nt (t : CT) | an (t u : CT) | or (t u : CT) | yes | bl (e : CE)
inductive CO where | no | yes (e : CE)
inductive CI where | of (e : CE) | rng (a : CE) | rng2 (a b : CE) | enum (a : CE) | zip (a b : CE)
inductive CG where | nm (i : Nat) | tup (gs : CGs) | sub (o i : CE) | att (o : CE) (f : Str)
inductive CGs where | nil | cons (g : CG) (gs : CGs)
inductive CS where
  | asg (g : CG) (e : CE) | ex (e : CE) | rt (e : CE) | rtN | cond (t : CT) (a b : CSs)
  | forS (g : CG) (it : CI) (b : CSs) | whileS (t : CT) (b : CSs) | pass | brk | cont | stuck | tryS (b : CSs)
inductive CSs where | nil | cons (s : CS) (ss : CSs)
end
def CGs.len : CGs → Nat | .nil => 0 | .cons _ gs => gs.len + 1
/-- where a statement leaves -/
inductive Fl where | nx (e : Env) | rt (d : D) | bk (e : Env) | ct (e : Env)
abbrev FM := List D → R D
structure ClsT where
  fld : List Str
  init : FM
  meth : Str → Option FM
  prop : Str → Option FM
  cmet : Str → Option FM
  eqm : Option FM
/-- what the text's own defs and classes do -/
structure Tab where
  fn : Nat → FM
  cls : Str → Option ClsT
  fuel : Nat
/-! ### combinators -/
def noErr {α : Type} (m : R α) : R α := fun M => match m M with | some (.ok a, M') => some (.ok a, M') | _ => none
def negD (d : D) : R D := match d with | .int i => ret (.int (-i)) | _ => fail
def tupD (vs : List D) : R D := if vs.length ≤ sizeLine then ret (.tup vs) else fail
def lstD (vs : List D) : R D := if vs.length ≤ sizeLine then new (.lst vs) else fail
def asBl (d : D) : R Bool := match d with | .bl b => ret b | _ => fail
def getVar (env : Env) (i : Nat) : R D := match env[i]? with | some (some d) => ret d | _ => fail
def selD (vs : List D) : List Sel → Option (List D)
  | [] => some []
  | .arg k :: r => match vs[k]?, selD vs r with | some d, some ds => some (d :: ds) | _, _ => none
  | .val d :: r => match selD vs r with | some ds => some (d :: ds) | none => none
def setIx (o i d : D) : R Unit := fun M =>
  match o, i with
  | .ref n, .int k => match M[n]? with
    | some (.lst ds) => match L2.ixN ds.length k with
      | some j => some (.ok (), M.set n (.lst (ds.set j d)))
      | none => none
    | _ => none
  | _, _ => none
def putF (f : Str) (v : D) : List (Str × D) → List (Str × D)
  | [] => [(f, v)]
  | (g, x) :: r => if g = f then (g, v) :: r else (g, x) :: putF f v r
def setAt (T : Tab) (o : D) (f : Str) (d : D) : R Unit := fun M =>
  match o with
  | .ref n => match M[n]? with
    | some (.ins c fs) => match T.cls c with
      | some k => if k.fld.contains f = true ∧ fs.length < 1000 then some (.ok (), M.set n (.ins c (putF f d fs))) else none
      | none => none
    | _ => none
  | _ => none
def getAt (T : Tab) (o : D) (f : Str) : R D := fun M =>
  match o with
  | .ref n => match M[n]? with
    | some (.ins c fs) => match T.cls c with
      | some k => match k.prop f with
        | some m => noErr (m [o]) M
        | none => if k.fld.contains f = true then match fs.lookup f with
          | some d => some (.ok d, M)
          | none => none
          else none
      | none => none
    | _ => none
  | _ => none
/-- the attributes of an instance of this class -/
def insOf (c : Str) (o : D) : R (List (Str × D)) := fun M =>
  match o with
  | .ref n => match M[n]? with
    | some (.ins c' fs) => if c' = c then some (.ok fs, M) else none
    | _ => none
  | _ => none
/-- what a class's method does -/
def methOf (T : Tab) (c m : Str) : Option FM := match T.cls c with | some k => k.meth m | none => none
def optF (f : Option FM) (vs : List D) : R D := match f with | some g => noErr (g vs) | none => fail
def makeI (T : Tab) (c : Str) (vs : List D) : R D := fun M =>
  match T.cls c with
  | some k => match k.init (.ref M.length :: vs) (M ++ [.ins c []]) with
    | some (.ok .non, M') => some (.ok (.ref M.length), M')
    | _ => none
  | none => none
def glIs (c : Str) (x : D) : R Unit := match x with | .glo c' => if c' = c then ret () else fail | _ => fail
def dundD (k : Dk) (d : D) : R D := match k, d with
  | .len, .int i => if 0 ≤ i ∧ i < 2 ^ 62 then ret (.int i) else fail
  | .str, .str y => ret (.str y)
  | .bool, .int i => if 0 ≤ i ∧ i < 2 ^ 62 then ret (.bl (decide (i ≠ 0))) else fail
  | _, _ => fail
def dkName : Dk → Str
  | .len => "__len__" | .str => "__str__" | .bool => "__len__"
def chk (g : Option (Nat × List D)) : R Unit := fun M =>
  match g with
  | none => some (.ok (), M)
  | some (n, ds) => match M[n]? with
    | some (.lst es) => if D.beqs es ds then some (.ok (), M) else none
    | _ => none
def push (n : Nat) (d : D) : R Unit := fun M =>
  match M[n]? with
  | some (.lst ds) => if ds.length < sizeLine then some (.ok (), M.set n (.lst (ds ++ [d]))) else none
  | _ => none
def compL (g : Option (Nat × List D)) (n : Nat) (turn : D → R (Option D)) : List D → R Unit
  | [] => chk g
  | d :: ds => bnd (chk g) fun _ => bnd (turn d) fun o => match o with
    | none => compL g n turn ds
    | some y => bnd (push n y) fun _ => compL g n turn ds
def forL (g : Option (Nat × List D)) (turn : D → Env → R Fl) : List D → Env → R Fl
  | [], env => bnd (chk g) fun _ => ret (.nx env)
  | d :: ds, env => bnd (chk g) fun _ => bnd (turn d env) fun f => match f with
    | .nx e => forL g turn ds e
    | .ct e => forL g turn ds e
    | .bk e => ret (.nx e)
    | .rt d => ret (.rt d)
def whileL (t : Env → R Bool) (b : Env → R Fl) : Nat → Env → R Fl
  | 0, _ => fail
  | n + 1, env => bnd (t env) fun k => if k = true then bnd (b env) fun f => match f with
      | .nx e => whileL t b n e
      | .ct e => whileL t b n e
      | .bk e => ret (.nx e)
      | .rt d => ret (.rt d)
    else ret (.nx env)
def wipeE (env : Env) : List Nat → Env
  | [] => env
  | v :: vs => (wipeE env vs).set v none
def itemsOf (x : D) : R (List D × Option (Nat × List D)) := fun M =>
  match x with
  | .str z => some (.ok (z.cps.toList.map fun c => .str ⟨#[c]⟩, none), M)
  | .tup ds => some (.ok (ds, none), M)
  | .fl ds => some (.ok (ds, none), M)
  | .ref n => match M[n]? with
    | some (.lst ds) => some (.ok (ds, some (n, ds)), M)
    | _ => none
  | _ => none
def seqG (x : D) : R (List D × Option (Nat × List D)) := fun M =>
  match x with
  | .tup ds => some (.ok (ds, none), M)
  | .fl ds => some (.ok (ds, none), M)
  | .ref n => match M[n]? with
    | some (.lst ds) => some (.ok (ds, some (n, ds)), M)
    | _ => none
  | _ => none
def numbered (k : Nat) : List D → List D
  | [] => []
  | d :: ds => .tup [.int k, d] :: numbered (k + 1) ds
def inR (k : Int) : Bool := decide (-(2 ^ 62) ≤ k ∧ k < 2 ^ 62)
def rangeD (lo : Int) : Nat → List D
  | 0 => []
  | n + 1 => .int lo :: rangeD (lo + 1) n
def reprD (x : D) : R D := fun M =>
  match toPy M 20 x with
  | some p => if p.showable && !p.hasDict && decide (p.depth ≤ 60) && decide (p.shown.length ≤ sizeLine) then some (.ok (.str p.shown), M) else none
  | none => none
def sortStrs (xs : List Str) : List Str := xs.mergeSort fun a b => !decide (b.cps.toList < a.cps.toList)
def sortInts (xs : List Int) : List Int := xs.mergeSort fun a b => decide (a ≤ b)
def lenB (vs : List D) : R D := fun M =>
  match vs with
  | [.str y] => if y.length ≤ sizeLine then some (.ok (.int y.length), M) else none
  | [x] => match seqOf M x with
    | some ds => some (.ok (.int ds.length), M)
    | none => none
  | _ => none
def absB (vs : List D) : R D := match vs with | [.int i] => ret (.int (if i < 0 then -i else i)) | _ => fail
def maxOf : List Int → Option Int
  | [] => none
  | n :: ns => some (ns.foldl (fun a b => if b > a then b else a) n)
def minOf : List Int → Option Int
  | [] => none
  | n :: ns => some (ns.foldl (fun a b => if b < a then b else a) n)
def maxB (vs : List D) : R D := fun M => match vs with
  | [.int i, .int j] => some (.ok (.int (if j > i then j else i)), M)
  | [x] => match lstOf M x with
    | some ds => match intsOf ds with
      | some ns => match maxOf ns with
        | some m => some (.ok (.int m), M)
        | none => none
      | none => none
    | none => none
  | _ => none
def minB (vs : List D) : R D := fun M => match vs with
  | [.int i, .int j] => some (.ok (.int (if j < i then j else i)), M)
  | [x] => match lstOf M x with
    | some ds => match intsOf ds with
      | some ns => match minOf ns with
        | some m => some (.ok (.int m), M)
        | none => none
      | none => none
    | none => none
  | _ => none
def sumB (vs : List D) : R D := fun M => match vs with
  | [x] => match lstOf M x with
    | some ds => match intsOf ds with
      | some ns => some (.ok (.int ns.sum), M)
      | none => none
    | none => none
  | _ => none
def anyB (vs : List D) : R D := fun M => match vs with
  | [x] => match lstOf M x with
    | some ds => match blsOf ds with
      | some ns => some (.ok (.bl (ns.any id)), M)
      | none => none
    | none => none
  | _ => none
def allB (vs : List D) : R D := fun M => match vs with
  | [x] => match lstOf M x with
    | some ds => match blsOf ds with
      | some ns => some (.ok (.bl (ns.all id)), M)
      | none => none
    | none => none
  | _ => none
def sortedB (vs : List D) : R D := fun M => match vs with
  | [x] => match lstOf M x with
    | some ds => match strsOf ds with
      | some ns => if ns.length < 64 then new (.lst ((sortStrs ns).map D.str)) M else none
      | none => match intsOf ds with
        | some ns => new (.lst ((sortInts ns).map D.int)) M
        | none => none
    | none => none
  | _ => none
def intB (vs : List D) : R D := match vs with
  | [.int i] => ret (.int i)
  | [.bl k] => ret (.int (if k then 1 else 0))
  | [.str a] => match PySem.intText? a with
    | some n => if a.length ≤ 640 then ret (.int n) else fail
    | none => fail
  | _ => fail
def strB (vs : List D) : R D := match vs with
  | [.int i] => if i.natAbs.log2 < 1920 then ret (.str (toString i)) else fail
  | [.str a] => ret (.str a)
  | _ => fail
def reprB (vs : List D) : R D := match vs with | [x] => reprD x | _ => fail
def listB (vs : List D) : R D := fun M => match vs with
  | [x] => match seqOf M x with
    | some ds => new (.lst ds) M
    | none => none
  | _ => none
def tupleB (vs : List D) : R D := fun M => match vs with
  | [x] => match seqOf M x with
    | some ds => some (.ok (.tup ds), M)
    | none => none
  | _ => none
def bfun : BF → List D → R D
  | .len => lenB | .abs => absB | .max => maxB | .min => minB | .sum => sumB | .any => anyB | .all => allB | .sorted => sortedB
  | .int => intB | .str => strB | .repr => reprB | .list => listB | .tuple => tupleB
def appendM (o : D) (vs : List D) : R D := fun M => match o, vs with
  | .ref n, [d] => match M[n]? with
    | some (.lst ds) => if ds.length < sizeLine then some (.ok .non, M.set n (.lst (ds ++ [d]))) else none
    | _ => none
  | _, _ => none
def popM (o : D) (vs : List D) : R D := fun M => match o, vs with
  | .ref n, [] => match M[n]? with
    | some (.lst ds) => match ds[ds.length - 1]? with
      | some d => some (.ok d, M.set n (.lst ds.dropLast))
      | none => none
    | _ => none
  | .ref n, [.int i] => match M[n]? with
    | some (.lst ds) => if -(2 ^ 63) ≤ i ∧ i < 2 ^ 63 then match seqIndex? i ds.length with
      | some k => match ds[k]? with
        | some d => some (.ok d, M.set n (.lst (ds.eraseIdx k)))
        | none => none
      | none => none
      else none
    | _ => none
  | _, _ => none
def partM (o : D) (vs : List D) : R D := match o, vs with
  | .str a, [.str b] => if (b.length == 0) = false ∧ a.length ≤ sizeLine then ret (.tup [.str (Txt.partition a b).1, .str (Txt.partition a b).2.1, .str (Txt.partition a b).2.2]) else fail
  | _, _ => fail
def splitM (o : D) (vs : List D) : R D := match o, vs with
  | .str a, [.str b] => if (b.length == 0) = false ∧ a.length + 2 ≤ sizeLine then new (.lst ((Txt.split a b).map D.str)) else fail
  | _, _ => fail
def joinM (o : D) (vs : List D) : R D := fun M => match o, vs with
  | .str a, [x] => match seqOf M x with
    | some ds => match strsOf ds with
      | some ys => if (ys.map (·.length)).sum + ys.length * a.length ≤ 16777216 then some (.ok (.str (Txt.join a ys)), M) else none
      | none => none
    | none => none
  | _, _ => none
def bmeth : BM → D → List D → R D
  | .append => appendM | .pop => popM | .partition => partM | .split => splitM | .join => joinM
/-- the receiver is of the type whose method is called -/
def tyChk (T : String) (x : D) : R Unit := fun M =>
  match x with
  | .str _ => if T = "str" then some (.ok (), M) else none
  | .ref n => match M[n]? with
    | some (.lst _) => if T = "list" then some (.ok (), M) else none
    | _ => none
  | _ => none
def bmTy : BM → String
  | .append | .pop => "list"
  | .partition | .split | .join => "str"
def fmtD (x : D) : R D := match x with
  | .str y => if y.length ≤ sizeLine then ret (.str y) else fail
  | .int i => if i.natAbs.log2 < 1920 then ret (.str (toString i)) else fail
  | _ => fail
/-- one text behind the other -/
def glue (acc : Str) (d : D) : Option Str := match d with
  | .str y => if (acc ++ y).length ≤ sizeLine then some (acc ++ y) else none
  | _ => none
/-- an instance is one of a class of the table -/
def insOk (T : Tab) (M : Mem) (x : D) : Bool := match x with
  | .ref k => match M[k]? with
    | some (.ins c _) => (T.cls c).isSome
    | _ => true
  | _ => true
/-- len, str, bool of an instance of the class c -/
def dundO (T : Tab) (k : Dk) (c : Str) (x : D) : R D := bnd (insOf c x) fun _ => bnd (optF (methOf T c (dkName k)) [x]) (dundD k)
/-- x == y, x != y, x an instance of the class c with its own __eq__ -/
def eqmOf (T : Tab) (c : Str) : Option FM := match T.cls c with | some k => k.eqm | none => none
/-- no class -/
def plainR : D → Bool
  | .glo _ => false
  | .bty _ => false
  | _ => true
def eqO (T : Tab) (ne : Bool) (c : Str) (x y : D) : R D := fun M => if insOk T M y = true ∧ plainR y = true then bnd (insOf c x) (fun _ => bnd (optF (eqmOf T c) [x, y]) fun d => bnd (asBl d) fun r => ret (.bl (if ne = true then !r else r))) M else none
def isCls (M : Mem) (x : D) (c : Str) : Option Bool := match x with
  | .ref k => match M[k]? with
    | some (.lst _) => some false
    | some (.ins c' _) => some (decide (c' = c))
    | none => none
  | .non | .bl _ | .int _ | .str _ | .tup _ | .fl _ => some false
  | _ => none
def isAny (M : Mem) (x c : D) : Option Bool := match c with
  | .bty n => isInst M x n
  | .glo c => isCls M x c
  | _ => none
def isiD (T : Tab) (x c : D) : R Bool := fun M => if insOk T M x = true then match isAny M x c with | some b => some (.ok b, M) | none => none else none
def optI (d : D) : R (Option Int) := match d with | .int i => ret (some i) | _ => fail
/-! ### the interpreter -/
mutual
def evE (T : Tab) : CE → Env → R D
  | .var i, env => getVar env i
  | .con d, _ => ret d
  | .bin o a b, env => bnd (evE T a env) fun x => bnd (evE T b env) fun y => binD o x y
  | .neg a, env => bnd (evE T a env) negD
  | .tst t, env => bnd (evT T t env) fun b => ret (.bl b)
  | .cmp o a b, env => bnd (evE T a env) fun x => bnd (evE T b env) fun y => cmpD o x y
  | .chain o o' a b c, env => bnd (evE T a env) fun x => bnd (evE T b env) fun y => bnd (cmpD o x y) fun d => bnd (asBl d) fun k =>
      if k = true then bnd (evE T c env) fun z => cmpD o' y z else ret (.bl false)
  | .ite t a b, env => bnd (evT T t env) fun k => if k = true then evE T a env else evE T b env
  | .bcall f as, env => bnd (evEs T as env) fun vs => bfun f vs
  | .bmeth m o as, env => bnd (evE T o env) fun x => bnd (tyChk (bmTy m) x) fun _ => bnd (evEs T as env) fun vs => bmeth m x vs
  | .isi a c, env => bnd (evE T a env) fun x => bnd (isiD T x c) fun b => ret (.bl b)
  | .own f as ks sel, env => bnd (evEs T as env) fun vs => bnd (evEs T ks env) fun us => bnd (opt (selD (vs ++ us) sel)) fun ws => noErr (T.fn f ws)
  | .make c as ks sel, env => bnd (evEs T as env) fun vs => bnd (evEs T ks env) fun us => bnd (opt (selD (vs ++ us) sel)) fun ws => makeI T c ws
  | .makeV c o as sel, env => bnd (evE T o env) fun x => bnd (glIs c x) fun _ => bnd (evEs T as env) fun vs => bnd (opt (selD vs sel)) fun ws => makeI T c ws
  | .ometh m c o as ks sel, env => bnd (evE T o env) fun x => bnd (insOf c x) fun fs => if (fs.lookup m).isNone = true then bnd (evEs T as env) fun vs => bnd (evEs T ks env) fun us => bnd (opt (selD (vs ++ us) sel)) fun ws => optF (methOf T c m) (x :: ws) else fail
  | .cmeth c m as ks sel, env => bnd (evEs T as env) fun vs => bnd (evEs T ks env) fun us => bnd (opt (selD (vs ++ us) sel)) fun ws => match T.cls c with
      | some k => optF (k.cmet m) (.glo c :: ws)
      | none => fail
  | .oeq ne c a b, env => bnd (evE T a env) fun x => bnd (evE T b env) fun y => eqO T ne c x y
  | .dund k c a, env => bnd (evE T a env) (dundO T k c)
  | .attr o f, env => bnd (evE T o env) fun x => getAt T x f
  | .ix a b, env => bnd (evE T a env) fun x => bnd (evE T b env) fun y => getIx x y
  | .slice a lo hi, env => bnd (evE T a env) fun x => bnd (evO T lo env) fun l => bnd (evO T hi env) fun h => getSl x l h
  | .revS a, env => bnd (evE T a env) fun x => fun M => match lstOf M x with | some ds => new (.lst ds.reverse) M | none => none
  | .tup as, env => bnd (evEs T as env) tupD
  | .lst as, env => bnd (evEs T as env) lstD
  | .comp it g t e own, env => bnd (evI T it env) fun p => bnd (new (.lst [])) fun r => match r with
      | .ref n => bnd (compL p.2 n (fun d => bnd (evG T g d (wipeE env own)) fun env2 => bnd (evT T t env2) fun k => if k = true then bnd (evE T e env2) fun y => ret (some y) else ret none) p.1) fun _ => ret (.ref n)
      | _ => fail
  | .fstr ps, env => bnd (evJ T ps Str.empty env) fun z => ret (.str z)
  | .fmt a, env => bnd (evE T a env) fmtD
  | .andV a b, env => bnd (evE T a env) fun x => bnd (tru x) fun k => if k = true then evE T b env else ret x
  | .orV a b, env => bnd (evE T a env) fun x => bnd (tru x) fun k => if k = true then ret x else evE T b env
  | .notV a, env => bnd (evE T a env) fun x => bnd (tru x) fun k => ret (.bl (!k))
def evEs (T : Tab) : CEs → Env → R (List D)
  | .nil, _ => ret []
  | .cons e es, env => bnd (evE T e env) fun x => bnd (evEs T es env) fun xs => ret (x :: xs)
def evJ (T : Tab) : CEs → Str → Env → R Str
  | .nil, acc, _ => ret acc
  | .cons e es, acc, env => bnd (evE T e env) fun x => bnd (opt (glue acc x)) fun z => evJ T es z env
def evT (T : Tab) : CT → Env → R Bool
  | .val e, env => bnd (evE T e env) tru
  | .bl e, env => bnd (evE T e env) asBl
  | .nt t, env => bnd (evT T t env) fun b => ret (!b)
  | .an t u, env => bnd (evT T t env) fun b => if b = true then evT T u env else ret false
  | .or t u, env => bnd (evT T t env) fun b => if b = true then ret true else evT T u env
  | .yes, _ => ret true
def evO (T : Tab) : CO → Env → R (Option Int)
  | .no, _ => ret none
  | .yes e, env => bnd (evE T e env) optI
def evI (T : Tab) : CI → Env → R (List D × Option (Nat × List D))
  | .of e, env => bnd (evE T e env) itemsOf
  | .rng a, env => bnd (evE T a env) fun x => match x with | .int j => if inR j then ret (rangeD 0 j.toNat, none) else fail | _ => fail
  | .rng2 a b, env => bnd (evE T a env) fun x => bnd (evE T b env) fun y => match x, y with | .int i, .int j => if inR i && inR j then ret (rangeD i (j - i).toNat, none) else fail | _, _ => fail
  | .enum a, env => bnd (evE T a env) fun x => bnd (seqG x) fun p => ret (numbered 0 p.1, p.2)
  | .zip a b, env => bnd (evE T a env) fun x => bnd (evE T b env) fun y => match x, y with
      | .tup ds, .tup es => ret (List.zipWith (fun d e => .tup [d, e]) ds es, none)
      | _, _ => fail
def evG (T : Tab) : CG → D → Env → R Env
  | .nm i, d, env => ret (env.set i (some d))
  | .tup gs, d, env => match d with
      | .tup ds => if ds.length = gs.len then evGs T gs ds env else fail
      | _ => fail
  | .sub o i, d, env => bnd (evE T o env) fun x => bnd (evE T i env) fun y => bnd (setIx x y d) fun _ => ret env
  | .att o f, d, env => bnd (evE T o env) fun x => bnd (setAt T x f d) fun _ => ret env
def evGs (T : Tab) : CGs → List D → Env → R Env
  | .nil, ds, env => if ds.isEmpty = true then ret env else fail
  | .cons g gs, ds, env => match ds with
      | d :: ds => bnd (evG T g d env) fun env2 => evGs T gs ds env2
      | [] => fail
def evS (T : Tab) : CS → Env → R Fl
  | .asg g e, env => bnd (evE T e env) fun d => bnd (evG T g d env) fun env2 => ret (.nx env2)
  | .ex e, env => bnd (evE T e env) fun _ => ret (.nx env)
  | .rt e, env => bnd (evE T e env) fun d => ret (.rt d)
  | .rtN, _ => ret (.rt .non)
  | .cond t a b, env => bnd (evT T t env) fun k => if k = true then evSs T a env else evSs T b env
  | .forS g it b, env => bnd (evI T it env) fun p => forL p.2 (fun d env => bnd (evG T g d env) fun env2 => evSs T b env2) p.1 env
  | .whileS t b, env => whileL (evT T t) (evSs T b) T.fuel env
  | .pass, env => ret (.nx env)
  | .brk, env => ret (.bk env)
  | .cont, env => ret (.ct env)
  | .stuck, _ => fail
  | .tryS b, env => evSs T b env
def evSs (T : Tab) : CSs → Env → R Fl
  | .nil, env => ret (.nx env)
  | .cons s ss, env => bnd (evS T s env) fun f => match f with
      | .nx env2 => evSs T ss env2
      | .rt d => ret (.rt d)
      | .bk e => ret (.bk e)
      | .ct e => ret (.ct e)
end
/-- a def's body with its arguments; n names in all -/
def runDef (T : Tab) (n : Nat) (b : CSs) : FM := fun vs => bnd (evSs T b (vs.map some ++ List.replicate (n - vs.length) none)) fun f => match f with
  | .rt d => ret d
  | .nx _ => ret .non
  | _ => fail
end DL
end
section
set_option Elab.async false
set_option linter.all false
set_option maxRecDepth 100000
set_option maxHeartbeats 2000000
/-! DL, part e: readings by computations; expressions. -/
namespace DL
open PySem PySem.Spec PyProof.Rows L2
/-- the values of the names -/
def RepS (K : PySem.W.Frag) (mg : Str → Option Value) (μ : List Addr) (H : Hp) (env : Env) (σ : L2.St) : Prop :=
  env.length = σ.length ∧ ∀ (i : Nat) (d : D), env[i]? = some (some d) → ∃ v, σ[i]? = some (some v) ∧ RepV K mg μ H d v
section
variable {K : PySem.W.Frag} {mg : Str → Option Value} {μ μ' : List Addr} {M : Mem} {H H' : Hp} {env : Env} {σ : L2.St}
theorem RepS.up (s : RepS K mg μ H env σ) (l : Le μ H μ' H') (r : RepM K mg μ M H) : RepS K mg μ' H' env σ :=
  ⟨s.1, fun i d e => let ⟨v, h, q⟩ := s.2 i d e; ⟨v, h, q.up l r⟩⟩
theorem RepS.set (s : RepS K mg μ H env σ) (i : Nat) {d : D} {v : V} (h : RepV K mg μ H d v) : RepS K mg μ H (env.set i (some d)) (σ.set i (some v)) := by
  refine ⟨by rw [List.length_set, List.length_set]; exact s.1, fun j e hj => ?_⟩
  by_cases hij : i = j
  · subst hij
    have hl : i < env.length := by
      have := (List.getElem?_eq_some_iff.mp hj).1
      simpa using this
    rw [List.getElem?_set_self hl] at hj
    cases hj
    exact ⟨v, List.getElem?_set_self (by rw [← s.1]; exact hl), h⟩
  · rw [List.getElem?_set_ne hij] at hj
    rw [List.getElem?_set_ne hij]
    exact s.2 j e hj
theorem RepS.unset (s : RepS K mg μ H env σ) (i : Nat) : RepS K mg μ H (env.set i none) (σ.set i none) := by
  refine ⟨by rw [List.length_set, List.length_set]; exact s.1, fun j e hj => ?_⟩
  by_cases hij : i = j
  · subst hij
    have hl : i < env.length := by
      have := (List.getElem?_eq_some_iff.mp hj).1
      simpa using this
    rw [List.getElem?_set_self hl] at hj
    cases hj
  · rw [List.getElem?_set_ne hij] at hj
    rw [List.getElem?_set_ne hij]
    exact s.2 j e hj
theorem RepS.wipe (s : RepS K mg μ H env σ) : ∀ vs : List Nat, RepS K mg μ H (wipeE env vs) (wipe σ vs)
  | [] => s
  | v :: vs => (RepS.wipe s vs).unset v
end
def relB (_ : List Addr) (_ : Hp) (a b : Bool) : Prop := a = b
def relO (_ : List Addr) (_ : Hp) (a b : Option Int) : Prop := a = b
def tD (K : PySem.W.Frag) (mg : Str → Option Value) (W : XW) (m : Env → R D) : TE := fun σ H Q => ∃ μ M env, RepM K mg μ M H ∧ RepS K mg μ H env σ ∧ Wants K mg W (RepV K mg) (m env M) μ H Q
def tTD (K : PySem.W.Frag) (mg : Str → Option Value) (W : XW) (m : Env → R Bool) : TT := fun σ H Q => ∃ μ M env, RepM K mg μ M H ∧ RepS K mg μ H env σ ∧ Wants K mg W relB (m env M) μ H Q
def tAD (K : PySem.W.Frag) (mg : Str → Option Value) (W : XW) (m : Env → R (List D)) : TA := fun σ H Q => ∃ μ M env, RepM K mg μ M H ∧ RepS K mg μ H env σ ∧ Wants K mg W (RepVs K mg) (m env M) μ H Q
def tOD (K : PySem.W.Frag) (mg : Str → Option Value) (W : XW) (m : Env → R (Option Int)) : TO := fun σ H Q => ∃ μ M env, RepM K mg μ M H ∧ RepS K mg μ H env σ ∧ Wants K mg W relO (m env M) μ H Q
theorem pe_imp {X : Cx} {e : Expr} {t t' : TE} (h : PE X e t) (i : ∀ σ H Q, t' σ H Q → t σ H Q) : PE X e t' := ⟨fun pins s σ H Q I q => h.run pins s σ H Q I (i σ H Q q)⟩
theorem pt_imp {X : Cx} {e : Expr} {t t' : TT} (h : PT X e t) (i : ∀ σ H Q, t' σ H Q → t σ H Q) : PT X e t' := ⟨fun pins s σ H Q I q => h.run pins s σ H Q I (i σ H Q q)⟩
theorem pa_imp {X : Cx} {e : List Expr} {t t' : TA} (h : PA X e t) (i : ∀ σ H Q, t' σ H Q → t σ H Q) : PA X e t' := ⟨fun pos pins s σ H Q I q => h.run pos pins s σ H Q I (i σ H Q q)⟩
theorem po_imp {X : Cx} {e : Option Expr} {t t' : TO} (h : PO X e t) (i : ∀ σ H Q, t' σ H Q → t σ H Q) : PO X e t' := ⟨fun pins s σ H Q I q => h.run pins s σ H Q I (i σ H Q q)⟩
theorem ps_imp {X : Cx} {e : Stmt} {t t' : TS} (h : PS X e t) (i : ∀ D σ H, t' D σ H → t D σ H) : PS X e t' := ⟨fun pins s σ H D I q => h.run pins s σ H D I (i D σ H q)⟩
theorem pss_imp {X : Cx} {e : List Stmt} {t t' : TS} (h : PSs X e t) (i : ∀ D σ H, t' D σ H → t D σ H) : PSs X e t' := ⟨fun pins s σ H D I q => h.run pins s σ H D I (i D σ H q)⟩
section
variable {X : Cx} {W : XW} {a b c e : Expr} {pos : Pos} {ma mb mc : Env → R D} {σ : L2.St} {H : Hp}
/-- first a computation, then what follows from its value -/
theorem tD_bnd {α : Type} {K : PySem.W.Frag} {mg : Str → Option Value} {rel : List Addr → Hp → α → β → Prop} {f : D → Env → R α} {Q : β → Hp → Prop} {μ : List Addr} {M : Mem} {env : Env} (rm : RepM K mg μ M H) (rs : RepS K mg μ H env σ)
    (h : Wants K mg W rel (bnd (ma env) (fun d => f d env) M) μ H Q) {Q' : VK} (k : ∀ v H1 μ1 M1 d, Le μ H μ1 H1 → RepM K mg μ1 M1 H1 → RepS K mg μ1 H1 env σ → RepV K mg μ1 H1 d v → Wants K mg W rel (f d env M1) μ1 H1 Q → Q' v H1) : tD K mg W ma σ H Q' := by
  obtain ⟨r, M', e, q⟩ := h.bnd (rel1 := RepV K mg)
  refine ⟨μ, M, env, rm, rs, r, M', e, fun μ' H' l rm' => ?_⟩
  have q' := q μ' H' l rm'
  cases r with
  | error x => exact q'
  | ok d =>
    intro v rv
    obtain ⟨μ1, M1, d1, l1, rm1, rv1, w⟩ := q' v rv
    exact k v H' μ1 M1 d1 l1 rm1 (rs.up l1 rm) rv1 w
theorem tT_bnd {α β : Type} {K : PySem.W.Frag} {mg : Str → Option Value} {rel : List Addr → Hp → α → β → Prop} {mt : Env → R Bool} {f : Bool → Env → R α} {Q : β → Hp → Prop} {μ : List Addr} {M : Mem} {env : Env} (rm : RepM K mg μ M H) (rs : RepS K mg μ H env σ)
    (h : Wants K mg W rel (bnd (mt env) (fun d => f d env) M) μ H Q) {Q' : Bool → Hp → Prop} (k : ∀ b H1 μ1 M1, Le μ H μ1 H1 → RepM K mg μ1 M1 H1 → RepS K mg μ1 H1 env σ → Wants K mg W rel (f b env M1) μ1 H1 Q → Q' b H1) : tTD K mg W mt σ H Q' := by
  obtain ⟨r, M', e, q⟩ := h.bnd (rel1 := relB)
  refine ⟨μ, M, env, rm, rs, r, M', e, fun μ' H' l rm' => ?_⟩
  have q' := q μ' H' l rm'
  cases r with
  | error x => exact q'
  | ok d =>
    intro v rv
    obtain ⟨μ1, M1, d1, l1, rm1, rv1, w⟩ := q' v rv
    cases rv1
    exact k _ H' μ1 M1 l1 rm1 (rs.up l1 rm) w
theorem tA_bnd {α β : Type} {K : PySem.W.Frag} {mg : Str → Option Value} {rel : List Addr → Hp → α → β → Prop} {mt : Env → R (List D)} {f : List D → Env → R α} {Q : β → Hp → Prop} {μ : List Addr} {M : Mem} {env : Env} (rm : RepM K mg μ M H) (rs : RepS K mg μ H env σ)
    (h : Wants K mg W rel (bnd (mt env) (fun d => f d env) M) μ H Q) {Q' : List V → Hp → Prop} (k : ∀ vs H1 μ1 M1 ds, Le μ H μ1 H1 → RepM K mg μ1 M1 H1 → RepS K mg μ1 H1 env σ → RepVs K mg μ1 H1 ds vs → Wants K mg W rel (f ds env M1) μ1 H1 Q → Q' vs H1) : tAD K mg W mt σ H Q' := by
  obtain ⟨r, M', e, q⟩ := h.bnd (rel1 := RepVs K mg)
  refine ⟨μ, M, env, rm, rs, r, M', e, fun μ' H' l rm' => ?_⟩
  have q' := q μ' H' l rm'
  cases r with
  | error x => exact q'
  | ok d =>
    intro v rv
    obtain ⟨μ1, M1, d1, l1, rm1, rv1, w⟩ := q' v rv
    exact k _ H' μ1 M1 d1 l1 rm1 (rs.up l1 rm) rv1 w
theorem tO_bnd {α β : Type} {K : PySem.W.Frag} {mg : Str → Option Value} {rel : List Addr → Hp → α → β → Prop} {mt : Env → R (Option Int)} {f : Option Int → Env → R α} {Q : β → Hp → Prop} {μ : List Addr} {M : Mem} {env : Env} (rm : RepM K mg μ M H) (rs : RepS K mg μ H env σ)
    (h : Wants K mg W rel (bnd (mt env) (fun d => f d env) M) μ H Q) {Q' : Option Int → Hp → Prop} (k : ∀ b H1 μ1 M1, Le μ H μ1 H1 → RepM K mg μ1 M1 H1 → RepS K mg μ1 H1 env σ → Wants K mg W rel (f b env M1) μ1 H1 Q → Q' b H1) : tOD K mg W mt σ H Q' := by
  obtain ⟨r, M', e, q⟩ := h.bnd (rel1 := relO)
  refine ⟨μ, M, env, rm, rs, r, M', e, fun μ' H' l rm' => ?_⟩
  have q' := q μ' H' l rm'
  cases r with
  | error x => exact q'
  | ok d =>
    intro v rv
    obtain ⟨μ1, M1, d1, l1, rm1, rv1, w⟩ := q' v rv
    cases rv1
    exact k _ H' μ1 M1 l1 rm1 (rs.up l1 rm) w
/-! ### names, constants -/
theorem de_var {i : Nat} {x : Str} (hN : X.N[i]? = some x) (hv : Vis X.env.scope x) (hd : (x == ("__debug__" : Str)) = false) (hc : (x == ("__classdict__" : Str)) = false) : PE X (.Name x pos) (tD X.K X.mg W (fun env => getVar env i)) :=
  pe_imp (pe_var hN hv hd hc) fun σ H Q ⟨μ, M, env, rm, rs, h⟩ => by
    have h : Wants X.K X.mg W (RepV X.K X.mg) (getVar env i M) μ H Q := h
    cases he : env[i]? with
    | none => simp only [getVar, he] at h; exact h.fail.elim
    | some o =>
      cases o with
      | none => simp only [getVar, he] at h; exact h.fail.elim
      | some d =>
        simp only [getVar, he] at h
        obtain ⟨v, e, rv⟩ := rs.2 i d he
        exact ⟨v, e, h.ret rm rv⟩
theorem de_c {v : V} {d : D} (h : PE X e (tC v)) (hv : ∀ μ H, RepV X.K X.mg μ H d v) : PE X e (tD X.K X.mg W (fun _ => ret d)) :=
  pe_imp h fun σ H Q ⟨μ, M, env, rm, rs, h⟩ => h.ret rm (hv μ H)
/-! ### operators -/
theorem de_bin (o : BinO) (ha : PE X a (tD X.K X.mg W ma)) (hb : PE X b (tD X.K X.mg W mb)) : PE X (.BinOp a (opOf o) b pos) (tD X.K X.mg W (fun env => bnd (ma env) fun x => bnd (mb env) fun y => binD o x y)) :=
  pe_imp (pe_op (op_D (W := W) o) ha hb) fun σ H Q ⟨μ, M, env, rm, rs, h⟩ =>
    tD_bnd rm rs h (f := fun x env => bnd (mb env) fun y => binD o x y) fun v H1 μ1 M1 d l1 rm1 rs1 rv w =>
      tD_bnd rm1 rs1 w (f := fun y env => binD o d y) fun v2 H2 μ2 M2 d2 l2 rm2 rs2 rv2 w2 => ⟨μ2, M2, d, d2, rm2, rv.up l2 rm1, rv2, w2⟩
theorem de_cmp {k : Nat} (hr : Room k X.A) (o : CmpO) (ha : PE X a (tD X.K X.mg W ma)) (hb : PE X b (tD X.K X.mg W mb)) (hm : behindInMarks (cmpOf o) b = false) :
    PE X (.Compare a [cmpOf o] [b] pos) (tD X.K X.mg W (fun env => bnd (ma env) fun x => bnd (mb env) fun y => cmpD o x y)) :=
  pe_imp (pe_cmpR (cmp_D (W := W) hr o) ha hb hm) fun σ H Q ⟨μ, M, env, rm, rs, h⟩ =>
    tD_bnd rm rs h (f := fun x env => bnd (mb env) fun y => cmpD o x y) fun v H1 μ1 M1 d l1 rm1 rs1 rv w =>
      tD_bnd rm1 rs1 w (f := fun y env => cmpD o d y) fun v2 H2 μ2 M2 d2 l2 rm2 rs2 rv2 w2 => ⟨μ2, M2, d, d2, rm2, rv.up l2 rm1, rv2, w2⟩
/-- a value wanted as a truth value -/
theorem asBl_w {M : Mem} {μ : List Addr} {d : D} {v : V} {Q : Bool → Hp → Prop} (rm : RepM X.K X.mg μ M H) (rv : RepV X.K X.mg μ H d v) (h : Wants X.K X.mg W relB (asBl d M) μ H Q) : ∃ k, v = .bl k ∧ Q k H := by
  unfold asBl at h
  split at h
  · cases rv; exact ⟨_, rfl, h.ret rm rfl⟩
  · exact h.fail.elim
theorem dt_cmp {k : Nat} (hr : Room k X.A) (o : CmpO) (ha : PE X a (tD X.K X.mg W ma)) (hb : PE X b (tD X.K X.mg W mb)) (hm : behindInMarks (cmpOf o) b = false) :
    PT X (.Compare a [cmpOf o] [b] pos) (tTD X.K X.mg W (fun env => bnd (bnd (ma env) fun x => bnd (mb env) fun y => cmpD o x y) asBl)) :=
  pt_imp (pt_cmpR (cmp_D (W := W) hr o) ha hb hm) fun σ H Q ⟨μ, M, env, rm, rs, h⟩ => by
    obtain ⟨r, M', e, q⟩ := h.bnd (rel1 := RepV X.K X.mg)
    have h2 : Wants X.K X.mg W (RepV X.K X.mg) ((bnd (ma env) fun x => bnd (mb env) fun y => cmpD o x y) M) μ H (fun v H1 => ∃ k, v = .bl k ∧ Q k H1) := by
      refine ⟨r, M', e, fun μ' H' l rm' => ?_⟩
      have q' := q μ' H' l rm'
      cases r with
      | error x => exact q'
      | ok d =>
        intro v rv
        obtain ⟨μ1, M1, d1, l1, rm1, rv1, w⟩ := q' v rv
        exact asBl_w rm1 rv1 w
    exact tD_bnd rm rs h2 (f := fun x env => bnd (mb env) fun y => cmpD o x y) fun v H1 μ1 M1 d l1 rm1 rs1 rv w =>
      tD_bnd rm1 rs1 w (f := fun y env => cmpD o d y) fun v2 H2 μ2 M2 d2 l2 rm2 rs2 rv2 w2 => ⟨μ2, M2, d, d2, rm2, rv.up l2 rm1, rv2, w2⟩
theorem chain_w (o o' : CmpO) {μ : List Addr} {M : Mem} {env : Env} {Q : VK} (rm : RepM X.K X.mg μ M H) (rs : RepS X.K X.mg μ H env σ)
    (h : Wants X.K X.mg W (RepV X.K X.mg) ((bnd (ma env) fun x => bnd (mb env) fun y => bnd (cmpD o x y) fun d => bnd (asBl d) fun k => if k = true then bnd (mc env) fun z => cmpD o' y z else ret (.bl false)) M) μ H Q) :
    tChain (rD X.K X.mg W (cmpD o)) (rD X.K X.mg W (cmpD o')) (tD X.K X.mg W ma) (tD X.K X.mg W mb) (tD X.K X.mg W mc) σ H Q :=
  tD_bnd rm rs h (f := fun x env => bnd (mb env) fun y => bnd (cmpD o x y) fun d => bnd (asBl d) fun k => if k = true then bnd (mc env) fun z => cmpD o' y z else ret (.bl false)) fun v H1 μ1 M1 d l1 rm1 rs1 rv w =>
    tD_bnd rm1 rs1 w (f := fun y env => bnd (cmpD o d y) fun d => bnd (asBl d) fun k => if k = true then bnd (mc env) fun z => cmpD o' y z else ret (.bl false)) fun v2 H2 μ2 M2 d2 l2 rm2 rs2 rv2 w2 => by
      obtain ⟨r, M', e, q⟩ := w2.bnd (rel1 := RepV X.K X.mg)
      refine ⟨μ2, M2, d, d2, rm2, rv.up l2 rm1, rv2, r, M', e, fun μ' H' l rm' => ?_⟩
      have q' := q μ' H' l rm'
      cases r with
      | error x => exact q'
      | ok t =>
        intro v3 rv3
        obtain ⟨μ3, M3, d3, l3, rm3, rv3, w3⟩ := q' v3 rv3
        obtain ⟨r4, M4, e4, q4⟩ := w3.bnd (rel1 := relB)
        have h4 : Wants X.K X.mg W relB (asBl d3 M3) μ3 H' (fun k H4 => if k = true then tD X.K X.mg W mc σ H4 fun w' H4 => rD X.K X.mg W (cmpD o') v2 w' H4 Q else Q (.bl false) H4) := by
          refine ⟨r4, M4, e4, fun μ5 H5 l5 rm5 => ?_⟩
          have q5 := q4 μ5 H5 l5 rm5
          cases r4 with
          | error x => exact q5
          | ok kk =>
            intro b hb
            obtain ⟨μ6, M6, b6, l6, rm6, hb6, w6⟩ := q5 b hb
            have hb6 : b6 = b := hb6
            subst hb6
            have rs6 := (rs2.up l3 rm2).up l6 rm3
            have rv6 := (rv2.up l3 rm2).up l6 rm3
            cases b6 with
            | true =>
              show tD X.K X.mg W mc σ H5 _
              exact tD_bnd rm6 rs6 w6 (f := fun z env => cmpD o' d2 z) fun v7 H7 μ7 M7 d7 l7 rm7 rs7 rv7 w7 => ⟨μ7, M7, d2, d7, rm7, rv6.up l7 rm6, rv7, w7⟩
            | false =>
              show Q (.bl false) H5
              exact Wants.ret (a := D.bl false) w6 rm6 (RepV.bl _)
        exact asBl_w rm3 rv3 h4
theorem de_chain {k : Nat} (hr : Room k X.A) (o o' : CmpO) (ha : PE X a (tD X.K X.mg W ma)) (hb : PE X b (tD X.K X.mg W mb)) (hc : PE X c (tD X.K X.mg W mc)) (hm : lastMarks [cmpOf o, cmpOf o'] [b, c] = false) :
    PE X (.Compare a [cmpOf o, cmpOf o'] [b, c] pos) (tD X.K X.mg W (fun env => bnd (ma env) fun x => bnd (mb env) fun y => bnd (cmpD o x y) fun d => bnd (asBl d) fun k => if k = true then bnd (mc env) fun z => cmpD o' y z else ret (.bl false))) :=
  pe_imp (pe_chain (cmp_D (W := W) hr o) (cmp_D (W := W) hr o') ha hb hc hm) fun σ H Q ⟨μ, M, env, rm, rs, h⟩ => chain_w o o' rm rs h
theorem dt_chain {k : Nat} (hr : Room k X.A) (o o' : CmpO) (ha : PE X a (tD X.K X.mg W ma)) (hb : PE X b (tD X.K X.mg W mb)) (hc : PE X c (tD X.K X.mg W mc)) (hm : lastMarks [cmpOf o, cmpOf o'] [b, c] = false) :
    PT X (.Compare a [cmpOf o, cmpOf o'] [b, c] pos) (tTD X.K X.mg W (fun env => bnd (bnd (ma env) fun x => bnd (mb env) fun y => bnd (cmpD o x y) fun d => bnd (asBl d) fun k => if k = true then bnd (mc env) fun z => cmpD o' y z else ret (.bl false)) asBl)) :=
  pt_imp (pt_chain (cmp_D (W := W) hr o) (cmp_D (W := W) hr o') ha hb hc hm) fun σ H Q ⟨μ, M, env, rm, rs, h⟩ => by
    obtain ⟨r, M', e, q⟩ := h.bnd (rel1 := RepV X.K X.mg)
    refine chain_w o o' rm rs ⟨r, M', e, fun μ' H' l rm' => ?_⟩
    have q' := q μ' H' l rm'
    cases r with
    | error x => exact q'
    | ok d =>
      intro v rv
      obtain ⟨μ1, M1, d1, l1, rm1, rv1, w⟩ := q' v rv
      exact asBl_w rm1 rv1 w
theorem de_neg (ha : PE X a (tD X.K X.mg W ma)) : PE X (.UnaryOp .USub a pos) (tD X.K X.mg W (fun env => bnd (ma env) negD)) :=
  pe_imp (pe_un un_neg ha) fun σ H Q ⟨μ, M, env, rm, rs, h⟩ =>
    tD_bnd rm rs h (f := fun x env => negD x) fun v H1 μ1 M1 d l1 rm1 rs1 rv w => by
      have w : Wants X.K X.mg W (RepV X.K X.mg) (negD d M1) μ1 H1 Q := w
      unfold negD at w
      split at w
      · cases rv; exact ⟨_, rfl, w.ret rm1 (.int _)⟩
      · exact w.fail.elim
/-! ### tests -/
theorem dt_val (ha : PE X a (tD X.K X.mg W ma)) (he : ∀ whole, isTrue a X.env whole = (do let v ← whole; standAt a.pos; holding [v] (truthy v))) : PT X a (tTD X.K X.mg W (fun env => bnd (ma env) tru)) :=
  pt_imp (pt_truth ha he) fun σ H Q ⟨μ, M, env, rm, rs, h⟩ =>
    tD_bnd rm rs h (f := fun x env => tru x) fun v H1 μ1 M1 d l1 rm1 rs1 rv w => by
      have w : Wants X.K X.mg W relB (tru d M1) μ1 H1 Q := w
      unfold tru at w
      split at w
      · exact w.none.elim
      · rename_i b hb
        exact ⟨b, tru_v rm1 rv hb, w.some (Le.refl _ _) rm1 rfl⟩
variable {mt mu : Env → R Bool}
theorem dt_not (ha : PT X a (tTD X.K X.mg W mt)) : PT X (.UnaryOp .Not a pos) (tTD X.K X.mg W (fun env => bnd (mt env) fun b => ret (!b))) :=
  pt_imp (pt_not ha) fun σ H Q ⟨μ, M, env, rm, rs, h⟩ => tT_bnd rm rs h (f := fun b env => ret (!b)) fun b H1 μ1 M1 l1 rm1 rs1 w => Wants.ret (a := !b) w rm1 rfl
theorem an_w {μ : List Addr} {M : Mem} {env : Env} {Q : Bool → Hp → Prop} (rm : RepM X.K X.mg μ M H) (rs : RepS X.K X.mg μ H env σ) (h : Wants X.K X.mg W relB ((bnd (mt env) fun b => if b = true then mu env else ret false) M) μ H Q) :
    tAnd (tTD X.K X.mg W mt) (tTD X.K X.mg W mu) σ H Q :=
  tT_bnd rm rs h (f := fun b env => if b = true then mu env else ret false) fun b H1 μ1 M1 l1 rm1 rs1 w => by
    cases b with
    | true => show tTD X.K X.mg W mu σ H1 Q; exact ⟨μ1, M1, env, rm1, rs1, w⟩
    | false => show Q false H1; exact Wants.ret (a := false) w rm1 rfl
theorem or_w {μ : List Addr} {M : Mem} {env : Env} {Q : Bool → Hp → Prop} (rm : RepM X.K X.mg μ M H) (rs : RepS X.K X.mg μ H env σ) (h : Wants X.K X.mg W relB ((bnd (mt env) fun b => if b = true then ret true else mu env) M) μ H Q) :
    tOr (tTD X.K X.mg W mt) (tTD X.K X.mg W mu) σ H Q :=
  tT_bnd rm rs h (f := fun b env => if b = true then ret true else mu env) fun b H1 μ1 M1 l1 rm1 rs1 w => by
    cases b with
    | false => show tTD X.K X.mg W mu σ H1 Q; exact ⟨μ1, M1, env, rm1, rs1, w⟩
    | true => show Q true H1; exact Wants.ret (a := true) w rm1 rfl
theorem pw_imp {e : Expr} {t t' : TT} (h : PW X e t) (i : ∀ σ H Q, t' σ H Q → t σ H Q) : PW X e t' := ⟨fun whole pins s σ H Q I q => h.run whole pins s σ H Q I (i σ H Q q)⟩
theorem dw_and {rest : List Expr} (ha : PT X a (tTD X.K X.mg W mt)) (hb : PW X (.BoolOp .And (b :: rest) pos) (tTD X.K X.mg W mu)) : PW X (.BoolOp .And (a :: b :: rest) pos) (tTD X.K X.mg W (fun env => bnd (mt env) fun b => if b = true then mu env else ret false)) :=
  pw_imp (pw_and ha hb) fun σ H Q ⟨μ, M, env, rm, rs, h⟩ => an_w rm rs h
theorem dw_or {rest : List Expr} (ha : PT X a (tTD X.K X.mg W mt)) (hb : PW X (.BoolOp .Or (b :: rest) pos) (tTD X.K X.mg W mu)) : PW X (.BoolOp .Or (a :: b :: rest) pos) (tTD X.K X.mg W (fun env => bnd (mt env) fun b => if b = true then ret true else mu env)) :=
  pw_imp (pw_or ha hb) fun σ H Q ⟨μ, M, env, rm, rs, h⟩ => or_w rm rs h
/-- truth values by tests: not, and, or as values -/
theorem de_notV (ha : PE X a (tD X.K X.mg W ma)) : PE X (.UnaryOp .Not a pos) (tD X.K X.mg W (fun env => bnd (bnd (bnd (ma env) asBl) fun b => ret (!b)) fun b => ret (.bl b))) :=
  pe_imp (pe_not ha) fun σ H Q ⟨μ, M, env, rm, rs, h⟩ => by
    have h1 := (h.bnd (rel1 := relB)).bnd (rel1 := relB)
    exact tD_bnd rm rs h1 (f := fun x env => asBl x) fun v H1 μ1 M1 d l1 rm1 rs1 rv w => by
      obtain ⟨k, e, q⟩ := asBl_w rm1 rv w
      obtain ⟨μ2, M2, b2, l2, rm2, e2, w2⟩ := q
      have e2 : b2 = k := e2
      subst e2
      have w3 := Wants.ret (a := !b2) w2 rm2 rfl
      obtain ⟨μ4, M4, b4, l4, rm4, e4, w4⟩ := w3
      have e4 : b4 = !b2 := e4
      subst e4
      exact ⟨b2, e, Wants.ret (a := D.bl (!b2)) w4 rm4 (RepV.bl _)⟩
theorem de_ite (hc : PT X c (tTD X.K X.mg W mt)) (ha : PE X a (tD X.K X.mg W ma)) (hb : PE X b (tD X.K X.mg W mb)) : PE X (.IfExp c a b pos) (tD X.K X.mg W (fun env => bnd (mt env) fun k => if k = true then ma env else mb env)) :=
  pe_imp (pe_ifExp hc ha hb) fun σ H Q ⟨μ, M, env, rm, rs, h⟩ =>
    tT_bnd rm rs h (f := fun k env => if k = true then ma env else mb env) fun k H1 μ1 M1 l1 rm1 rs1 w => by
      cases k with
      | true => show tD X.K X.mg W ma σ H1 Q; exact ⟨μ1, M1, env, rm1, rs1, w⟩
      | false => show tD X.K X.mg W mb σ H1 Q; exact ⟨μ1, M1, env, rm1, rs1, w⟩
/-! ### argument lists, displays -/
variable {es : List Expr} {mes : Env → R (List D)}
theorem da_nil : PA X [] (tAD X.K X.mg W (fun _ => ret [])) := pa_imp pa_nil fun σ H Q ⟨μ, M, env, rm, rs, h⟩ => Wants.ret (a := []) h rm .nil
theorem da_cons (ha : PE X e (tD X.K X.mg W ma)) (hr : PA X es (tAD X.K X.mg W mes)) (hs : starEach (e :: es) X.env = (false, eval e X.env) :: starEach es X.env) : PA X (e :: es) (tAD X.K X.mg W (fun env => bnd (ma env) fun x => bnd (mes env) fun xs => ret (x :: xs))) :=
  pa_imp (pa_cons ha hr hs) fun σ H Q ⟨μ, M, env, rm, rs, h⟩ =>
    tD_bnd rm rs h (f := fun x env => bnd (mes env) fun xs => ret (x :: xs)) fun v H1 μ1 M1 d l1 rm1 rs1 rv w =>
      tA_bnd rm1 rs1 w (f := fun xs env => ret (d :: xs)) fun vs H2 μ2 M2 ds l2 rm2 rs2 rv2 w2 => Wants.ret (a := d :: ds) w2 rm2 (.cons (rv.up l2 rm1) rv2)
theorem de_tup {x1 : Nat} (h : PA X es (tAD X.K X.mg W mes)) : PE X (.Tuple es x1 pos) (tD X.K X.mg W (fun env => bnd (mes env) tupD)) :=
  pe_imp (pe_tup h) fun σ H Q ⟨μ, M, env, rm, rs, h⟩ =>
    tA_bnd rm rs h (f := fun vs env => tupD vs) fun vs H1 μ1 M1 ds l1 rm1 rs1 rv w => by
      obtain ⟨hc, w⟩ := Wants.ite w
      exact ⟨by rw [← rv.length]; exact hc, fun p hp => w.some (Le.free hp) (rm1.free hp) (.tup (SqT.of upd_same) (rv.up (Le.free hp) rm1))⟩
theorem de_lst (h : PA X es (tAD X.K X.mg W mes)) : PE X (.List es pos) (tD X.K X.mg W (fun env => bnd (mes env) lstD)) :=
  pe_imp (pe_lst h) fun σ H Q ⟨μ, M, env, rm, rs, h⟩ =>
    tA_bnd rm rs h (f := fun vs env => lstD vs) fun vs H1 μ1 M1 ds l1 rm1 rs1 rv w => by
      obtain ⟨hc, w⟩ := Wants.ite w
      exact ⟨by rw [← rv.length]; exact hc, fun p hp => w.made rm1 hp ⟨_, upd_same, rv.up (Le.new hp) rm1⟩⟩
/-! ### subscripts, slices -/
theorem getIx_w {M : Mem} {μ : List Addr} {Q : VK} {d e : D} {x y : V} (rm : RepM X.K X.mg μ M H) (rd : RepV X.K X.mg μ H d x) (re : RepV X.K X.mg μ H e y) (h : Wants X.K X.mg W (RepV X.K X.mg) (getIx d e M) μ H Q) : rIx X.K x y H Q := by
  unfold getIx at h
  split at h
  · cases rd; cases re
    obtain ⟨hc, h⟩ := h.iteN
    split at h
    · exact h.none.elim
    · rename_i c hc'
      exact .inr (.inr ⟨_, _, c, rfl, rfl, hc, hc', h.some (Le.refl _ _) rm (.str _)⟩)
  · cases re
    split at h
    · rename_i ds hds
      split at h
      · exact h.none.elim
      · rename_i d' hd'
        obtain ⟨a, vs, e1, hs, rv⟩ := seq_of (X := X) rm rd hds
        obtain ⟨v, hv, r⟩ := atI_v rv hd'
        rcases hs with hs | hs
        · exact .inl ⟨a, vs, _, v, e1, rfl, hs, hv, h.some (Le.refl _ _) rm r⟩
        · exact .inr (.inl ⟨a, vs, _, v, e1, rfl, hs, hv, h.some (Le.refl _ _) rm r⟩)
    · exact h.none.elim
  · exact h.none.elim
theorem de_ix (ha : PE X a (tD X.K X.mg W ma)) (hb : PE X b (tD X.K X.mg W mb)) (hs : PlainIx b) : PE X (.Subscript a b pos) (tD X.K X.mg W (fun env => bnd (ma env) fun x => bnd (mb env) fun y => getIx x y)) :=
  pe_imp (pe_ix ix_seq ha hb hs) fun σ H Q ⟨μ, M, env, rm, rs, h⟩ =>
    tD_bnd rm rs h (f := fun x env => bnd (mb env) fun y => getIx x y) fun v H1 μ1 M1 d l1 rm1 rs1 rv w =>
      tD_bnd rm1 rs1 w (f := fun y env => getIx d y) fun v2 H2 μ2 M2 d2 l2 rm2 rs2 rv2 w2 => getIx_w rm2 (rv.up l2 rm1) rv2 w2
theorem do_no : PO X none (tOD X.K X.mg W (fun _ => ret none)) := po_imp po_none fun σ H Q ⟨μ, M, env, rm, rs, h⟩ => Wants.ret (a := none) h rm rfl
theorem do_yes (ha : PE X a (tD X.K X.mg W ma)) : PO X (some a) (tOD X.K X.mg W (fun env => bnd (ma env) optI)) :=
  po_imp (po_some ha) fun σ H Q ⟨μ, M, env, rm, rs, h⟩ =>
    tD_bnd rm rs h (f := fun x env => optI x) fun v H1 μ1 M1 d l1 rm1 rs1 rv w => by
      cases rv with
      | int i => exact ⟨i, rfl, Wants.ret (M := M1) (a := some i) w rm1 rfl⟩
      | _ => exact (Wants.fail (M := M1) w).elim
variable {lo hi : Option Expr} {ml mh : Env → R (Option Int)} {p2 : Pos}
theorem cut_all {α : Type} {xs : List α} {lo hi : Option Int} (h1 : HT.sIx xs.length 0 lo = 0) (h2 : HT.sIx xs.length xs.length hi = xs.length) : cut xs lo hi = xs := by
  unfold cut
  rw [h1, h2, List.drop_zero, Nat.sub_zero, List.take_length]
theorem de_slice (ha : PE X a (tD X.K X.mg W ma)) (hl : PO X lo (tOD X.K X.mg W ml)) (hh : PO X hi (tOD X.K X.mg W mh)) : PE X (.Subscript a (.Slice lo hi none p2) pos) (tD X.K X.mg W (fun env => bnd (ma env) fun x => bnd (ml env) fun l => bnd (mh env) fun h => getSl x l h)) :=
  pe_imp (pe_slice ((sl_str.or sl_tupA).or sl_list) ha hl hh) fun σ H Q ⟨μ, M, env, rm, rs, h⟩ =>
    tD_bnd rm rs h (f := fun x env => bnd (ml env) fun l => bnd (mh env) fun h => getSl x l h) fun v H1 μ1 M1 d l1 rm1 rs1 rv w =>
      tO_bnd rm1 rs1 w (f := fun l env => bnd (mh env) fun h => getSl d l h) fun lo' H2 μ2 M2 l2 rm2 rs2 w2 =>
        tO_bnd rm2 rs2 w2 (f := fun h env => getSl d lo' h) fun hi' H3 μ3 M3 l3 rm3 rs3 w3 => by
          have w3 : Wants X.K X.mg W (RepV X.K X.mg) (getSl d lo' hi' M3) μ3 H3 Q := w3
          have rv3 := (rv.up l2 rm1).up l3 rm2
          unfold getSl at w3
          split at w3
          · cases rv3
            obtain ⟨hz, w3⟩ := w3.iteN
            exact .inl (.inl ⟨_, rfl, hz, w3.some (Le.refl _ _) rm3 (.str _)⟩)
          · cases rv3 with | tup hq rr => ?_
            refine .inl (.inr ⟨_, _, rfl, hq, fun hw => ?_, fun _ p hp => ?_⟩)
            · refine w3.some (Le.refl _ _) rm3 (.tup hq ?_)
              have this := rr.cut lo' hi'
              rw [cut_all hw.1 hw.2] at this
              exact this
            · exact w3.some (Le.free hp) (rm3.free hp) (.tup (SqT.of upd_same) ((rr.cut lo' hi').up (Le.free hp) rm3))
          · cases rv3 with | fl hq rr => ?_
            exact .inr ⟨_, _, rfl, hq.sq, fun p hp => w3.made rm3 hp ⟨_, upd_same, (rr.cut lo' hi').up (Le.new hp) rm3⟩⟩
          · cases rv3 with | ref hn => ?_
            split at w3
            · rename_i ds hds
              obtain ⟨vs, h1, rr⟩ := seq_l rm3 hn hds
              exact .inr ⟨_, _, rfl, SqL.of h1, fun p hp => w3.made rm3 hp ⟨_, upd_same, (rr.cut lo' hi').up (Le.new hp) rm3⟩⟩
            · exact w3.none.elim
          · exact w3.none.elim
end
end DL
end
section
set_option Elab.async false
set_option linter.all false
set_option maxRecDepth 100000
set_option maxHeartbeats 2000000
/-! DL, part f: built-in functions and methods. -/
namespace DL
open PySem PySem.Spec PyProof.Rows L2
def rC (K : PySem.W.Frag) (mg : Str → Option Value) (W : XW) (g : List D → R D) : List V → Hp → VK → Prop := fun vs H Q => ∃ μ M ds, RepM K mg μ M H ∧ RepVs K mg μ H ds vs ∧ Wants K mg W (RepV K mg) (g ds M) μ H Q
def rMt (K : PySem.W.Frag) (mg : Str → Option Value) (W : XW) (g : D → List D → R D) : V → List V → Hp → VK → Prop := fun x vs H Q => ∃ μ M d ds, RepM K mg μ M H ∧ RepV K mg μ H d x ∧ RepVs K mg μ H ds vs ∧ Wants K mg W (RepV K mg) (g d ds M) μ H Q
section
variable {X : Cx} {W : XW}
theorem rv1 {K : PySem.W.Frag} {mg : Str → Option Value} {μ : List Addr} {H : Hp} {d : D} {vs : List V} (r : RepVs K mg μ H [d] vs) : ∃ v, vs = [v] ∧ RepV K mg μ H d v := by
  cases r with | cons h r => cases r; exact ⟨_, rfl, h⟩
theorem rv2 {K : PySem.W.Frag} {mg : Str → Option Value} {μ : List Addr} {H : Hp} {d e : D} {vs : List V} (r : RepVs K mg μ H [d, e] vs) : ∃ v w, vs = [v, w] ∧ RepV K mg μ H d v ∧ RepV K mg μ H e w := by
  cases r with | cons h r => obtain ⟨w, rfl, h2⟩ := rv1 r; exact ⟨_, _, rfl, h, h2⟩
theorem lst_of {μ : List Addr} {M : Mem} {H : Hp} {x : D} {v : V} {ds : List D} (rm : RepM X.K X.mg μ M H) (rv : RepV X.K X.mg μ H x v) (e : lstOf M x = some ds) : ∃ a vs, v = .ref a ∧ H a = some (.lst vs) ∧ RepVs X.K X.mg μ H ds vs := by
  cases rv with
  | @ref n a h =>
    simp only [lstOf] at e
    split at e
    · rename_i ds' hm
      cases e
      obtain ⟨vs, h1, h2⟩ := rm.obj n a _ h hm
      exact ⟨a, vs, rfl, h1, h2⟩
    · cases e
  | _ => simp [lstOf] at e
theorem lenC : CallR X (.builtin "len") (rC X.K X.mg W lenB) := by
  intro pins s σ H xs us Q I r ⟨μ, M, ds, rm, rv, h⟩
  unfold lenB at h
  split at h
  · obtain ⟨v, rfl, q⟩ := rv1 rv
    cases q
    obtain ⟨hc, h⟩ := h.iteN
    exact call_len_str pins s σ H _ us Q I r ⟨_, rfl, hc, h.some (Le.refl _ _) rm (.int _)⟩
  · obtain ⟨v, rfl, q⟩ := rv1 rv
    split at h
    · rename_i es he
      obtain ⟨a, vs, rfl, hs, rr⟩ := seq_of (X := X) rm q he
      refine call_len_seq pins s σ H _ us Q I r ⟨a, vs, rfl, hs, ?_⟩
      rw [← rr.length]
      exact h.some (Le.refl _ _) rm (.int _)
    · exact h.none.elim
  · exact h.none.elim
theorem absC : CallR X (.builtin "abs") (rC X.K X.mg W absB) := by
  intro pins s σ H xs us Q I r ⟨μ, M, ds, rm, rv, h⟩
  unfold absB at h
  split at h
  · obtain ⟨v, rfl, q⟩ := rv1 rv
    cases q
    exact call_abs pins s σ H _ us Q I r ⟨_, rfl, h.ret rm (.int _)⟩
  · exact h.fail.elim
theorem max_fold : ∀ (ns : List Int) (n : Int), (ns.foldl (fun a b => if b > a then b else a) n ∈ n :: ns) ∧ ∀ y ∈ n :: ns, y ≤ ns.foldl (fun a b => if b > a then b else a) n
  | [], n => ⟨by simp, by simp⟩
  | m :: ns, n => by
    obtain ⟨h1, h2⟩ := max_fold ns (if m > n then m else n)
    rw [List.foldl_cons]
    refine ⟨?_, fun y hy => ?_⟩
    · rcases List.mem_cons.mp h1 with e | e
      · rw [e]; split <;> simp
      · exact List.mem_cons_of_mem _ (List.mem_cons_of_mem _ e)
    · have h0 := h2 (if m > n then m else n) (List.mem_cons_self ..)
      rcases List.mem_cons.mp hy with e | hy
      · exact Int.le_trans (by subst e; split <;> omega) h0
      · rcases List.mem_cons.mp hy with e | hy
        · exact Int.le_trans (by subst e; split <;> omega) h0
        · exact h2 y (List.mem_cons_of_mem _ hy)
theorem min_fold : ∀ (ns : List Int) (n : Int), (ns.foldl (fun a b => if b < a then b else a) n ∈ n :: ns) ∧ ∀ y ∈ n :: ns, ns.foldl (fun a b => if b < a then b else a) n ≤ y
  | [], n => ⟨by simp, by simp⟩
  | m :: ns, n => by
    obtain ⟨h1, h2⟩ := min_fold ns (if m < n then m else n)
    rw [List.foldl_cons]
    refine ⟨?_, fun y hy => ?_⟩
    · rcases List.mem_cons.mp h1 with e | e
      · rw [e]; split <;> simp
      · exact List.mem_cons_of_mem _ (List.mem_cons_of_mem _ e)
    · have h0 := h2 (if m < n then m else n) (List.mem_cons_self ..)
      rcases List.mem_cons.mp hy with e | hy
      · exact Int.le_trans h0 (by subst e; split <;> omega)
      · rcases List.mem_cons.mp hy with e | hy
        · exact Int.le_trans h0 (by subst e; split <;> omega)
        · exact h2 y (List.mem_cons_of_mem _ hy)
theorem maxOf_eq {ns : List Int} {m m' : Int} (h : maxOf ns = some m) (h1 : m' ∈ ns) (h2 : ∀ y, y ∈ ns → y ≤ m') : m' = m := by
  cases ns with
  | nil => cases h
  | cons n ns =>
    obtain ⟨g1, g2⟩ := max_fold ns n
    simp only [maxOf, Option.some.injEq] at h
    rw [h] at g1 g2
    have a := h2 m g1
    have b := g2 m' h1
    omega
theorem minOf_eq {ns : List Int} {m m' : Int} (h : minOf ns = some m) (h1 : m' ∈ ns) (h2 : ∀ y, y ∈ ns → m' ≤ y) : m' = m := by
  cases ns with
  | nil => cases h
  | cons n ns =>
    obtain ⟨g1, g2⟩ := min_fold ns n
    simp only [minOf, Option.some.injEq] at h
    rw [h] at g1 g2
    have a := h2 m g1
    have b := g2 m' h1
    omega
theorem maxC (hc : X.calm = true) : CallR X (.builtin "max") (rC X.K X.mg W maxB) := by
  intro pins s σ H xs us Q I r ⟨μ, M, ds, rm, rv, h⟩
  unfold maxB at h
  split at h
  · obtain ⟨v, w, rfl, q1, q2⟩ := rv2 rv
    cases q1; cases q2
    exact call_max2 hc pins s σ H _ us Q I r ⟨_, _, rfl, h.some (Le.refl _ _) rm (.int _)⟩
  · obtain ⟨v, rfl, q⟩ := rv1 rv
    split at h
    · rename_i es he
      split at h
      · rename_i ns hn
        split at h
        · rename_i m hm
          obtain ⟨a, vs, rfl, hs, rr⟩ := lst_of (X := X) rm q he
          have e := repVs_ints rr hn
          subst e
          refine cr_max hc pins s σ H _ us Q I r ⟨a, ns, rfl, SqL.of hs, ?_, fun m' h1 h2 => ?_⟩
          · cases ns with
            | nil => cases hm
            | cons => simp
          · rw [maxOf_eq hm h1 h2]
            exact h.some (Le.refl _ _) rm (.int _)
        · exact h.none.elim
      · exact h.none.elim
    · exact h.none.elim
  · exact h.none.elim
theorem minC (hc : X.calm = true) : CallR X (.builtin "min") (rC X.K X.mg W minB) := by
  intro pins s σ H xs us Q I r ⟨μ, M, ds, rm, rv, h⟩
  unfold minB at h
  split at h
  · obtain ⟨v, w, rfl, q1, q2⟩ := rv2 rv
    cases q1; cases q2
    exact call_min2 hc pins s σ H _ us Q I r ⟨_, _, rfl, h.some (Le.refl _ _) rm (.int _)⟩
  · obtain ⟨v, rfl, q⟩ := rv1 rv
    split at h
    · rename_i es he
      split at h
      · rename_i ns hn
        split at h
        · rename_i m hm
          obtain ⟨a, vs, rfl, hs, rr⟩ := lst_of (X := X) rm q he
          have e := repVs_ints rr hn
          subst e
          refine cr_min hc pins s σ H _ us Q I r ⟨a, ns, rfl, SqL.of hs, ?_, fun m' h1 h2 => ?_⟩
          · cases ns with
            | nil => cases hm
            | cons => simp
          · rw [minOf_eq hm h1 h2]
            exact h.some (Le.refl _ _) rm (.int _)
        · exact h.none.elim
      · exact h.none.elim
    · exact h.none.elim
  · exact h.none.elim
theorem sumC (hc : X.calm = true) : CallR X (.builtin "sum") (rC X.K X.mg W sumB) := by
  intro pins s σ H xs us Q I r ⟨μ, M, ds, rm, rv, h⟩
  unfold sumB at h
  split at h
  · obtain ⟨v, rfl, q⟩ := rv1 rv
    split at h
    · rename_i es he
      split at h
      · rename_i ns hn
        obtain ⟨a, vs, rfl, hs, rr⟩ := lst_of (X := X) rm q he
        have e := repVs_ints rr hn
        subst e
        exact cr_sum hc pins s σ H _ us Q I r ⟨a, ns, rfl, SqL.of hs, h.some (Le.refl _ _) rm (.int _)⟩
      · exact h.none.elim
    · exact h.none.elim
  · exact h.none.elim
theorem anyC (hc : X.calm = true) : CallR X (.builtin "any") (rC X.K X.mg W anyB) := by
  intro pins s σ H xs us Q I r ⟨μ, M, ds, rm, rv, h⟩
  unfold anyB at h
  split at h
  · obtain ⟨v, rfl, q⟩ := rv1 rv
    split at h
    · rename_i es he
      split at h
      · rename_i ns hn
        obtain ⟨a, vs, rfl, hs, rr⟩ := lst_of (X := X) rm q he
        have e := repVs_bls rr hn
        subst e
        exact cr_any hc pins s σ H _ us Q I r ⟨a, ns, rfl, SqL.of hs, h.some (Le.refl _ _) rm (.bl _)⟩
      · exact h.none.elim
    · exact h.none.elim
  · exact h.none.elim
theorem allC (hc : X.calm = true) : CallR X (.builtin "all") (rC X.K X.mg W allB) := by
  intro pins s σ H xs us Q I r ⟨μ, M, ds, rm, rv, h⟩
  unfold allB at h
  split at h
  · obtain ⟨v, rfl, q⟩ := rv1 rv
    split at h
    · rename_i es he
      split at h
      · rename_i ns hn
        obtain ⟨a, vs, rfl, hs, rr⟩ := lst_of (X := X) rm q he
        have e := repVs_bls rr hn
        subst e
        exact cr_all hc pins s σ H _ us Q I r ⟨a, ns, rfl, SqL.of hs, h.some (Le.refl _ _) rm (.bl _)⟩
      · exact h.none.elim
    · exact h.none.elim
  · exact h.none.elim
theorem intC : CallR X (.type "int") (rC X.K X.mg W intB) := by
  intro pins s σ H xs us Q I r ⟨μ, M, ds, rm, rv, h⟩
  unfold intB at h
  split at h
  · obtain ⟨v, rfl, q⟩ := rv1 rv
    cases q
    exact call_int1 pins s σ H _ us Q I r (.inl ⟨_, rfl, h.ret rm (.int _)⟩)
  · obtain ⟨v, rfl, q⟩ := rv1 rv
    cases q
    exact call_int1 pins s σ H _ us Q I r (.inr ⟨_, rfl, h.ret rm (.int _)⟩)
  · obtain ⟨v, rfl, q⟩ := rv1 rv
    cases q
    rename_i a
    cases hn : PySem.intText? a with
    | none => simp only [hn] at h; exact h.fail.elim
    | some n =>
      simp only [hn] at h
      obtain ⟨hc, h⟩ := h.ite
      exact call_int_str pins s σ H _ us Q I r ⟨_, n, rfl, hn, hc, h.ret rm (.int _)⟩
  · exact h.fail.elim
theorem strC : CallR X (.type "str") (rC X.K X.mg W strB) := by
  intro pins s σ H xs us Q I r ⟨μ, M, ds, rm, rv, h⟩
  unfold strB at h
  split at h
  · obtain ⟨v, rfl, q⟩ := rv1 rv
    cases q
    obtain ⟨hc, h⟩ := h.ite
    exact call_str_int pins s σ H _ us Q I r ⟨_, rfl, hc, h.ret rm (.str _)⟩
  · obtain ⟨v, rfl, q⟩ := rv1 rv
    cases q
    exact SkE.call_str_str pins s σ H _ us Q I r ⟨_, rfl, h.ret rm (.str _)⟩
  · exact h.fail.elim
theorem listC : CallR X (.type "list") (rC X.K X.mg W listB) := by
  intro pins s σ H xs us Q I r ⟨μ, M, ds, rm, rv, h⟩
  unfold listB at h
  split at h
  · obtain ⟨v, rfl, q⟩ := rv1 rv
    split at h
    · rename_i es he
      obtain ⟨a, vs, rfl, hs, rr⟩ := seq_of (X := X) rm q he
      exact call_list_of pins s σ H _ us Q I r ⟨a, vs, rfl, hs, fun p hp => h.made rm hp ⟨_, upd_same, rr.up (Le.new hp) rm⟩⟩
    · exact h.none.elim
  · exact h.none.elim
theorem tupleC : CallR X (.type "tuple") (rC X.K X.mg W tupleB) := by
  intro pins s σ H xs us Q I r ⟨μ, M, ds, rm, rv, h⟩
  unfold tupleB at h
  split at h
  · obtain ⟨v, rfl, q⟩ := rv1 rv
    split at h
    · rename_i es he
      obtain ⟨a, vs, rfl, hs, rr⟩ := seq_of (X := X) rm q he
      refine call_tuple_of pins s σ H _ us Q I r ⟨a, vs, rfl, ?_⟩
      rcases hs with hs | hs
      · exact .inl ⟨hs, fun p hp => h.some (Le.free hp) (rm.free hp) (.tup (SqT.of upd_same) (rr.up (Le.free hp) rm))⟩
      · exact .inr ⟨hs, h.some (Le.refl _ _) rm (.tup hs rr)⟩
    · exact h.none.elim
  · exact h.none.elim
/-! ### repr, sorted -/
theorem reprC {k : Nat} (hg : X.A.guards = some []) (hr : Room k X.A) : CallR X (.builtin "repr") (rC X.K X.mg W reprB) := by
  intro pins s σ H xs us Q I r ⟨μ, M, ds, rm, rv, h⟩
  unfold reprB at h
  split at h
  · obtain ⟨v, rfl, q⟩ := rv1 rv
    unfold reprD at h
    split at h
    · rename_i p hp
      obtain ⟨hc, h⟩ := h.iteN
      simp only [Bool.and_eq_true, decide_eq_true_eq, Bool.not_eq_true'] at hc
      obtain ⟨⟨⟨h1, h2⟩, h3⟩, h4⟩ := hc
      have dp := toPy_dp (K := X.K) (mg := X.mg) rm 20 _ _ _ hp q
      obtain ⟨u, rfl, ru⟩ := vals1 r
      obtain ⟨as, rd⟩ := Dp.reads I p v u dp ru
      have fin : Q (.str p.shown) H := h.some (Le.refl _ _) rm (.str _)
      cases rd with
      | none =>
        simp only [PyData.shown] at fin
        exact PySem.P.repr_of_none ⟨V.str _, H, I.tok _, ⟨_, rfl⟩, fin⟩
      | bool b =>
        simp only [PyData.shown] at fin
        exact PySem.P.repr_of_bool ⟨V.str _, H, I.tok _, ⟨_, rfl⟩, fin⟩
      | int i t =>
        simp only [PyData.shown] at fin
        simp only [PyData.showable, decide_eq_true_eq] at h1
        exact PySem.P.repr_of_int h1 ⟨V.str _, H, I.tok _, ⟨_, rfl⟩, fin⟩
      | str x t =>
        simp only [PyData.shown] at fin h4
        exact PySem.P.repr_of_str ⟨V.str _, H, I.tok _, ⟨_, rfl⟩, fin⟩ h4
      | list e1 e2 e3 e4 =>
        exact repr_of_reads' (.list e1 e2 e3 e4) h1 (PyData.noDict_hsm h2) hg (by have := hr.un; omega) (fun _ _ e => e) (fun h' u tk hk => ⟨.str _, H, I.kept (t' := tk) hk, ⟨_, rfl⟩, fin⟩) h4
      | tuple e1 e2 e3 e4 =>
        exact repr_of_reads' (.tuple e1 e2 e3 e4) h1 (PyData.noDict_hsm h2) hg (by have := hr.un; omega) (fun _ _ e => e) (fun h' u tk hk => ⟨.str _, H, I.kept (t' := tk) hk, ⟨_, rfl⟩, fin⟩) h4
      | dict e1 e2 e3 e4 e5 =>
        simp only [PyData.hasDict] at h2
        cases h2
    · exact h.none.elim
  · exact h.fail.elim
def leS (a b : Str) : Bool := !decide (b.cps.toList < a.cps.toList)
theorem leS_total (a b : Str) : (leS a b || leS b a) = true := by
  unfold leS
  by_cases h : b.cps.toList < a.cps.toList
  · have : ¬ a.cps.toList < b.cps.toList := List.lt_asymm h
    simp [h, this]
  · simp [h]
theorem leS_trans (a b c : Str) (h1 : leS a b = true) (h2 : leS b c = true) : leS a c = true := by
  simp only [leS, Bool.not_eq_true', decide_eq_false_iff_not, List.not_lt] at *
  exact List.le_trans h1 h2
theorem leS_antisymm (a b : Str) (h1 : leS a b = true) (h2 : leS b a = true) : a = b := by
  simp only [leS, Bool.not_eq_true', decide_eq_false_iff_not, List.not_lt] at *
  have e := List.le_antisymm h1 h2
  obtain ⟨a⟩ := a
  obtain ⟨b⟩ := b
  have : a = b := Array.toList_inj.mp e
  rw [this]
theorem rising_pw : ∀ (l : List Str) (p : Str), risingS p l = true → (p :: l).Pairwise (fun a b => leS a b = true)
  | [], p, _ => by simp
  | x :: l, p, h => by
    simp only [risingS, Bool.and_eq_true] at h
    have ih := rising_pw l x h.2
    have hpx : leS p x = true := by
      have := h.1
      rw [PyProof.Rows.ltCps_eq] at this
      exact this
    refine List.pairwise_cons.mpr ⟨fun y hy => ?_, ih⟩
    rcases List.mem_cons.mp hy with e | hy
    · rw [e]; exact hpx
    · exact leS_trans p x y hpx ((List.pairwise_cons.mp ih).1 y hy)
theorem sorted_pw : ∀ (l : List Str), sortedS l = true → l.Pairwise (fun a b => leS a b = true)
  | [], _ => by simp
  | x :: l, h => rising_pw l x h
theorem sortStrs_eq {xs ys : List Str} (hp : ys.Perm xs) (hs : sortedS ys = true) : ys = sortStrs xs := by
  refine List.Perm.eq_of_pairwise (le := fun a b => leS a b = true) (fun a b _ _ h1 h2 => leS_antisymm a b h1 h2) (sorted_pw ys hs) ?_ (hp.trans (List.mergeSort_perm xs _).symm)
  exact List.pairwise_mergeSort leS_trans leS_total xs
theorem sortInts_eq {xs ys : List Int} (hp : ys.Perm xs) (hs : ys.Pairwise (· ≤ ·)) : ys = sortInts xs := by
  refine List.Perm.eq_of_pairwise (le := fun a b => a ≤ b) (fun a b _ _ h1 h2 => Int.le_antisymm h1 h2) hs ?_ (hp.trans (List.mergeSort_perm xs _).symm)
  have := List.pairwise_mergeSort (le := fun a b : Int => decide (a ≤ b)) (fun a b c h1 h2 => by simp at *; omega) (fun a b => by simp; omega) xs
  exact this.imp (by intro a b h; simpa using h)
theorem sortedC : CallR X (.builtin "sorted") (rC X.K X.mg W sortedB) := by
  intro pins s σ H xs us Q I r ⟨μ, M, ds, rm, rv, h⟩
  unfold sortedB at h
  split at h
  · obtain ⟨v, rfl, q⟩ := rv1 rv
    split at h
    · rename_i es he
      obtain ⟨a, vs, rfl, hs, rr⟩ := lst_of (X := X) rm q he
      split at h
      · rename_i ns hn
        obtain ⟨hc, h⟩ := h.iteN
        have e := repVs_strs rr hn
        subst e
        refine cr_sortedS pins s σ H _ us Q I r ⟨a, ns, rfl, SqL.of hs, hc, fun ys p hp hso hH => ?_⟩
        rw [sortStrs_eq hp hso]
        exact h.made rm hH ⟨_, upd_same, repVs_of_strs _⟩
      · split at h
        · rename_i ns hn
          have e := repVs_ints rr hn
          subst e
          refine cr_sortedI pins s σ H _ us Q I r ⟨a, ns, rfl, SqL.of hs, fun ys p hp hso hH => ?_⟩
          rw [sortInts_eq hp hso]
          exact h.made rm hH ⟨_, upd_same, repVs_of_ints _⟩
        · exact h.none.elim
    · exact h.none.elim
  · exact h.none.elim
end
end DL
end
section
set_option Elab.async false
set_option linter.all false
set_option maxRecDepth 100000
set_option maxHeartbeats 2000000
/-! DL, part g: methods of built-in types; the rules of calls. -/
namespace DL
open PySem PySem.Spec PyProof.Rows L2
section
variable {X : Cx} {W : XW}
theorem appendMt : MtR X "list.append" (rMt X.K X.mg W appendM) := by
  intro pins s σ H x xs v us Q I rx rxs ⟨μ, M, d, ds, rm, rv, rvs, h⟩
  unfold appendM at h
  split at h
  · obtain ⟨y, rfl, ry⟩ := rv1 rvs
    cases rv with | ref hn => ?_
    split at h
    · rename_i es he
      obtain ⟨hc, h⟩ := h.iteN
      obtain ⟨vs, h1, rr⟩ := seq_l rm hn he
      have hm := List.mem_of_getElem? hn
      exact mt_append pins s σ H _ _ v us Q I rx rxs ⟨_, vs, y, rfl, rfl, h1, by rw [← rr.length]; exact hc, h.some (Le.write hm) (rm.write hn ⟨_, upd_same, (rr.up (Le.write hm) rm).append (.cons (ry.up (Le.write hm) rm) .nil)⟩) .non⟩
    · exact h.none.elim
  · exact h.none.elim
theorem dropLast_rep {K : PySem.W.Frag} {mg : Str → Option Value} {μ : List Addr} {H : Hp} {ds : List D} {vs : List V} (r : RepVs K mg μ H ds vs) : RepVs K mg μ H ds.dropLast vs.dropLast := by
  rw [List.dropLast_eq_take, List.dropLast_eq_take, r.length]
  exact r.take _
theorem erase_rep {K : PySem.W.Frag} {mg : Str → Option Value} {μ : List Addr} {H : Hp} {ds : List D} {vs : List V} (r : RepVs K mg μ H ds vs) (k : Nat) : RepVs K mg μ H (ds.eraseIdx k) (vs.eraseIdx k) := by
  rw [List.eraseIdx_eq_take_drop_succ, List.eraseIdx_eq_take_drop_succ]
  exact (r.take _).append (r.drop _)
theorem popMt : MtR X "list.pop" (rMt X.K X.mg W popM) := by
  intro pins s σ H x xs v us Q I rx rxs ⟨μ, M, d, ds, rm, rv, rvs, h⟩
  unfold popM at h
  split at h
  · cases rvs
    cases rv with | ref hn => ?_
    split at h
    · rename_i es he
      obtain ⟨vs, h1, rr⟩ := seq_l rm hn he
      have hm := List.mem_of_getElem? hn
      split at h
      · rename_i d hd
        obtain ⟨w, hw, rw'⟩ := rr.get hd
        rw [rr.length] at hw
        exact mt_pop pins s σ H _ _ v us Q I rx rxs ⟨_, vs, w, rfl, rfl, h1, hw, h.some (Le.write hm) (rm.write hn ⟨_, upd_same, dropLast_rep (rr.up (Le.write hm) rm)⟩) (rw'.up (Le.write hm) rm)⟩
      · exact h.none.elim
    · exact h.none.elim
  · obtain ⟨y, rfl, ry⟩ := rv1 rvs
    cases ry
    cases rv with | ref hn => ?_
    split at h
    · rename_i es he
      obtain ⟨vs, h1, rr⟩ := seq_l rm hn he
      have hm := List.mem_of_getElem? hn
      obtain ⟨⟨c1, c2⟩, h⟩ := h.iteN
      split at h
      · rename_i k hk
        split at h
        · rename_i d hd
          obtain ⟨w, hw, rw'⟩ := rr.get hd
          rw [rr.length] at hk
          exact mt_popAt pins s σ H _ _ v us Q I rx rxs ⟨_, vs, _, k, w, rfl, rfl, h1, c1, c2, hk, hw, h.some (Le.write hm) (rm.write hn ⟨_, upd_same, erase_rep (rr.up (Le.write hm) rm) k⟩) (rw'.up (Le.write hm) rm)⟩
        · exact h.none.elim
      · exact h.none.elim
    · exact h.none.elim
  · exact h.none.elim
theorem partMt : MtR X "str.partition" (rMt X.K X.mg W partM) := by
  intro pins s σ H x xs v us Q I rx rxs ⟨μ, M, d, ds, rm, rv, rvs, h⟩
  unfold partM at h
  split at h
  · obtain ⟨y, rfl, ry⟩ := rv1 rvs
    cases ry; cases rv
    obtain ⟨⟨c1, c2⟩, h⟩ := h.ite
    exact mt_partition pins s σ H _ _ v us Q I rx rxs ⟨_, _, rfl, rfl, c1, c2, fun p hp => h.some (Le.free hp) (rm.free hp) (.tup (SqT.of upd_same) (.cons (.str _) (.cons (.str _) (.cons (.str _) .nil))))⟩
  · exact h.fail.elim
theorem splitMt : MtR X "str.split" (rMt X.K X.mg W splitM) := by
  intro pins s σ H x xs v us Q I rx rxs ⟨μ, M, d, ds, rm, rv, rvs, h⟩
  unfold splitM at h
  split at h
  · obtain ⟨y, rfl, ry⟩ := rv1 rvs
    cases ry; cases rv
    obtain ⟨⟨c1, c2⟩, h⟩ := h.ite
    exact mt_split pins s σ H _ _ v us Q I rx rxs ⟨_, _, rfl, rfl, c1, c2, fun p hp => h.made rm hp ⟨_, upd_same, repVs_of_strs _⟩⟩
  · exact h.fail.elim
theorem joinMt : MtR X "str.join" (rMt X.K X.mg W joinM) := by
  intro pins s σ H x xs v us Q I rx rxs ⟨μ, M, d, ds, rm, rv, rvs, h⟩
  unfold joinM at h
  split at h
  · obtain ⟨y, rfl, ry⟩ := rv1 rvs
    cases rv
    split at h
    · rename_i es he
      split at h
      · rename_i ys hy
        obtain ⟨hc, h⟩ := h.iteN
        obtain ⟨a, vs, rfl, hs, rr⟩ := seq_of (X := X) rm ry he
        have e := repVs_strs rr hy
        subst e
        exact mt_join pins s σ H _ _ v us Q I rx rxs ⟨_, a, ys, rfl, rfl, hs, hc, h.some (Le.refl _ _) rm (.str _)⟩
      · exact h.none.elim
    · exact h.none.elim
  · exact h.none.elim
/-! ### the rules -/
variable {e o : Expr} {es : List Expr} {mes : Env → R (List D)} {mo ma : Env → R D} {pos p apos : Pos} {x name : Str}
theorem de_callB {id : String} {g : List D → R D} (hc : CallR X (.builtin id) (rC X.K X.mg W g)) (hg : Gl X x) (hm : X.mg x = none) (hv : bootBuiltins x = some (.builtin id)) (hn : x ≠ "__name__") (hdb : (x == ("__debug__" : Str)) = false)
    (ha : PA X (e :: es) (tAD X.K X.mg W mes)) (he : starEach (e :: es) X.env = (false, eval e X.env) :: starEach es X.env) (hpl : (backTo pos (starEach es X.env)).any (·.1) = false) :
    PE X (.Call (.Name x p) (e :: es) [] pos) (tD X.K X.mg W (fun env => bnd (mes env) g)) :=
  pe_imp (pe_callB hc hg hm hv ha hn hdb he hpl) fun σ H Q ⟨μ, M, env, rm, rs, h⟩ =>
    tA_bnd rm rs h (f := fun vs env => g vs) fun vs H1 μ1 M1 ds l1 rm1 rs1 rv w => ⟨μ1, M1, ds, rm1, rv, w⟩
theorem de_callTy {T : String} {g : List D → R D} (hc : CallR X (.type T) (rC X.K X.mg W g)) (hg : Gl X x) (hm : X.mg x = none) (hv : bootBuiltins x = some (.type T)) (hn : x ≠ "__name__") (hdb : (x == ("__debug__" : Str)) = false)
    (ha : PA X (e :: es) (tAD X.K X.mg W mes)) (he : starEach (e :: es) X.env = (false, eval e X.env) :: starEach es X.env) (hpl : (backTo pos (starEach es X.env)).any (·.1) = false) :
    PE X (.Call (.Name x p) (e :: es) [] pos) (tD X.K X.mg W (fun env => bnd (mes env) g)) :=
  pe_imp (pe_callTy hc hg hm hv ha hn hdb he hpl) fun σ H Q ⟨μ, M, env, rm, rs, h⟩ =>
    tA_bnd rm rs h (f := fun vs env => g vs) fun vs H1 μ1 M1 ds l1 rm1 rs1 rv w => ⟨μ1, M1, ds, rm1, rv, w⟩
theorem tyChk_w {α β : Type} {rel : List Addr → Hp → α → β → Prop} {T : String} {f : Unit → R α} {M : Mem} {μ : List Addr} {H : Hp} {Q : β → Hp → Prop} {d : D} {v : V} (rm : RepM X.K X.mg μ M H) (rv : RepV X.K X.mg μ H d v)
    (h : Wants X.K X.mg W rel (bnd (tyChk T d) f M) μ H Q) : tyV X.K T v H ∧ Wants X.K X.mg W rel (f () M) μ H Q := by
  obtain ⟨r, M', e, k⟩ := h
  rcases bnd_some e with ⟨z, hi, e⟩ | ⟨t, M1, hi, e⟩
  · exfalso
    unfold tyChk at hi
    split at hi
    · split at hi <;> cases hi
    · split at hi
      · split at hi <;> cases hi
      · cases hi
    · cases hi
  · unfold tyChk at hi
    split at hi
    · split at hi
      · rename_i hT
        cases hi
        cases rv
        exact ⟨hT, r, M', e, k⟩
      · cases hi
    · split at hi
      · rename_i ds hds
        split at hi
        · rename_i hT
          cases hi
          cases rv with | ref hn => ?_
          obtain ⟨vs, h1, rr⟩ := seq_l rm hn hds
          exact ⟨.inl ⟨hT, vs, SqL.of h1⟩, r, M', e, k⟩
        · cases hi
      · cases hi
    · cases hi
/-- a method of one built-in type -/
theorem de_bm {T id : String} {g : D → List D → R D} (pa : PlainAttrs T) (slot : Slot T name id) (hty : typeOf (.builtin id) = pure (.type "method_descriptor")) (hm : MtR X id (rMt X.K X.mg W g))
    (ho : PE X o (tD X.K X.mg W mo)) (ha : PA X (e :: es) (tAD X.K X.mg W mes)) (hbase : attributeBase o name X.env (eval o X.env) = eval o X.env)
    (hfew : ((backTo pos (starEach (e :: es) X.env)).all (fun x => !x.1) && (backToKw pos (keywordEach [] X.env)).all (fun x => x.1.isSome)
      && decide ((e :: es).length + ([] : List Keyword).length + (if ([] : List Keyword).isEmpty then 0 else 1) < 30)) = true)
    (hline : (apos.endLine == pos.line) = true) (hs : starEach (e :: es) X.env = (false, eval e X.env) :: starEach es X.env) (hpl : (backTo pos (starEach es X.env)).any (·.1) = false) :
    PE X (.Call (.Attribute o name apos) (e :: es) [] pos) (tD X.K X.mg W (fun env => bnd (mo env) fun x => bnd (tyChk T x) fun _ => bnd (mes env) fun vs => g x vs)) :=
  pe_imp (pe_bm pa slot hty hm ho ha hbase hfew hline hs hpl) fun σ H Q ⟨μ, M, env, rm, rs, h⟩ =>
    tD_bnd rm rs h (f := fun x env => bnd (tyChk T x) fun _ => bnd (mes env) fun vs => g x vs) fun v H1 μ1 M1 d l1 rm1 rs1 rv w => by
      obtain ⟨ty, w⟩ := tyChk_w rm1 rv w
      exact ⟨ty, tA_bnd rm1 rs1 w (f := fun vs env => g d vs) fun vs H2 μ2 M2 ds l2 rm2 rs2 rvs w2 => ⟨μ2, M2, d, ds, rm2, rv.up l2 rm1, rvs, w2⟩⟩
theorem de_bm0 {T id : String} {g : D → List D → R D} (pa : PlainAttrs T) (slot : Slot T name id) (hty : typeOf (.builtin id) = pure (.type "method_descriptor")) (hm : MtR X id (rMt X.K X.mg W g))
    (ho : PE X o (tD X.K X.mg W mo)) (hbase : attributeBase o name X.env (eval o X.env) = eval o X.env) (hline : (apos.endLine == pos.line) = true) :
    PE X (.Call (.Attribute o name apos) [] [] pos) (tD X.K X.mg W (fun env => bnd (mo env) fun x => bnd (tyChk T x) fun _ => bnd (ret []) fun vs => g x vs)) :=
  pe_imp (pe_bm0 pa slot hty hm ho hbase hline) fun σ H Q ⟨μ, M, env, rm, rs, h⟩ =>
    tD_bnd rm rs h (f := fun x env => bnd (tyChk T x) fun _ => bnd (ret []) fun vs => g x vs) fun v H1 μ1 M1 d l1 rm1 rs1 rv w => by
      obtain ⟨ty, w⟩ := tyChk_w rm1 rv w
      exact ⟨ty, μ1, M1, d, [], rm1, rv, .nil, w⟩
/-! ### f-strings -/
theorem de_fmt (ha : PE X o (tD X.K X.mg W mo)) : PE X (.FormattedValue o (-1) none pos) (tD X.K X.mg W (fun env => bnd (mo env) fmtD)) :=
  pe_imp (pe_fmt ha) fun σ H Q ⟨μ, M, env, rm, rs, h⟩ =>
    tD_bnd rm rs h (f := fun x env => fmtD x) fun v H1 μ1 M1 d l1 rm1 rs1 rv w => by
      have w : Wants X.K X.mg W (RepV X.K X.mg) (fmtD d M1) μ1 H1 Q := w
      unfold fmtD at w
      split at w
      · cases rv
        obtain ⟨hc, w⟩ := w.ite
        exact .inl ⟨_, rfl, hc, w.ret rm1 (.str _)⟩
      · cases rv
        obtain ⟨hc, w⟩ := w.ite
        exact .inr ⟨_, rfl, hc, w.ret rm1 (.str _)⟩
      · exact w.fail.elim
/-- the parts -/
inductive PJD (X : Cx) (W : XW) : List Expr → List (Env → R D) → Prop where
  | nil : PJD X W [] []
  | cons {e : Expr} {m : Env → R D} {es : List Expr} {ms : List (Env → R D)} (h : PE X e (tD X.K X.mg W m)) (r : PJD X W es ms) : PJD X W (e :: es) (m :: ms)
def glueM : List (Env → R D) → Str → Env → R Str
  | [], acc, _ => ret acc
  | m :: ms, acc, env => bnd (m env) fun x => bnd (opt (glue acc x)) fun z => glueM ms z env
theorem pjd_pj {es : List Expr} {ms : List (Env → R D)} (h : PJD X W es ms) : PJ X es (ms.map (tD X.K X.mg W)) := by
  induction h with
  | nil => exact .nil
  | cons h r ih => exact .cons h ih
def relT (_ : List Addr) (_ : Hp) (a b : Str) : Prop := a = b
theorem opt_w {α β γ : Type} {K : PySem.W.Frag} {mg : Str → Option Value} {rel : List Addr → Hp → α → β → Prop} {o : Option γ} {f : γ → R α} {M : Mem} {μ : List Addr} {H : Hp} {Q : β → Hp → Prop} (h : Wants K mg W rel (bnd (opt o) f M) μ H Q) : ∃ x, o = some x ∧ Wants K mg W rel (f x M) μ H Q := by
  obtain ⟨r, M', e, k⟩ := h
  cases o with
  | none => cases e
  | some x => exact ⟨x, rfl, r, M', e, k⟩
theorem js_w {σ : L2.St} : ∀ {ms : List (Env → R D)} {acc : Str} {μ : List Addr} {M : Mem} {H : Hp} {env : Env} {Q : Str → Hp → Prop} (rm : RepM X.K X.mg μ M H) (rs : RepS X.K X.mg μ H env σ)
    (h : Wants X.K X.mg W relT (glueM ms acc env M) μ H Q), tJs (ms.map (tD X.K X.mg W)) acc σ H Q
  | [], acc, μ, M, H, env, Q, rm, rs, h => by
    show Q acc H
    exact Wants.ret (M := M) (a := acc) h rm rfl
  | m :: ms, acc, μ, M, H, env, Q, rm, rs, h => by
    refine tD_bnd rm rs h (f := fun x env => bnd (opt (glue acc x)) fun z => glueM ms z env) fun v H1 μ1 M1 d l1 rm1 rs1 rv w => ?_
    obtain ⟨z, hz, w⟩ := opt_w w
    unfold glue at hz
    split at hz
    · split at hz
      · rename_i hc
        cases hz
        cases rv
        exact ⟨_, rfl, hc, js_w rm1 rs1 w⟩
      · cases hz
    · cases hz
theorem de_fstr {v1 v2 : Expr} {rest : List Expr} {ms : List (Env → R D)} (h : PJD X W (v1 :: v2 :: rest) ms) : PE X (.JoinedStr (v1 :: v2 :: rest) pos) (tD X.K X.mg W (fun env => bnd (glueM ms Str.empty env) fun z => ret (.str z))) :=
  pe_imp (pe_joined (pjd_pj h)) fun σ H Q ⟨μ, M, env, rm, rs, h⟩ => by
    obtain ⟨r, M', e, q⟩ := h.bnd (rel1 := relT)
    refine js_w rm rs ⟨r, M', e, fun μ' H' l rm' => ?_⟩
    have q' := q μ' H' l rm'
    cases r with
    | error x => exact q'
    | ok z =>
      intro y hy
      obtain ⟨μ1, M1, z1, l1, rm1, e1, w⟩ := q' y hy
      have e1 : z1 = y := e1
      subst e1
      exact Wants.ret (M := M1) (a := D.str z1) w rm1 (RepV.str _)
end
end DL
end
section
set_option Elab.async false
set_option linter.all false
set_option maxRecDepth 100000
set_option maxHeartbeats 2000000
/-! DL, part h: the defs of the text, called. -/
namespace DL
open PySem PySem.Spec PyProof.Rows L2
/-- nothing is raised -/
def W0 : XW := fun _ _ _ _ => False
theorem Wants.noErr {α β : Type} {K : PySem.W.Frag} {mg : Str → Option Value} {W : XW} {rel : List Addr → Hp → α → β → Prop} {m : R α} {M : Mem} {μ : List Addr} {H : Hp} {Q : β → Hp → Prop} (h : Wants K mg W rel (DL.noErr m M) μ H Q) : Wants K mg W0 rel (m M) μ H Q := by
  obtain ⟨r, M', e, k⟩ := h
  unfold DL.noErr at e
  split at e
  · rename_i a M1 he
    cases e
    exact ⟨_, _, he, fun μ' H' l rm => k μ' H' l rm⟩
  · cases e
/-- a fact of all values that a computation gives -/
theorem Wants.also {α β : Type} {K : PySem.W.Frag} {mg : Str → Option Value} {W : XW} {rel : List Addr → Hp → α → β → Prop} {x : Option (Except D α × Mem)} {μ : List Addr} {H : Hp} {Q : β → Hp → Prop} (P : α → Prop) (hP : ∀ a M', x = Option.some (Except.ok a, M') → P a) (h : Wants K mg W (fun μ H a b => P a ∧ rel μ H a b) x μ H Q) : Wants K mg W rel x μ H Q := by
  obtain ⟨r, M', e, k⟩ := h
  refine ⟨r, M', e, fun μ' H' l rm => ?_⟩
  have z := k μ' H' l rm
  cases r with
  | error er => exact z
  | ok a => exact fun b hb => z b ⟨hP a M' e, hb⟩
/-- what stands around a call: room, and no repr under way -/
structure Sur (k : Nat) (A : Around) : Prop where
  room : Room k A
  gd : A.guards = some []
section
variable {j k : Nat} {A : Around}
theorem Sur.mono (r : Sur k A) (h : j ≤ k) : Sur j A := ⟨r.room.mono h, r.gd⟩
theorem Sur.deeper (r : Sur (k + 1) A) (env : PySem.Env) : Sur k (A.deeper env) := ⟨r.room.deeper env, r.gd⟩
theorem Sur.in1 (r : Sur (k + 1) A) : Sur k A.in1 := ⟨r.room.in1, r.gd⟩
theorem Sur.make (r : Sur (k + 1) A) (C : Addr) (us : List Value) (kw : List (Str × Value)) : Sur k (A.under (.builtin "type.__call__" ⟨.ref C :: us, kw⟩)) := by
  refine ⟨r.room.make C us kw, ?_⟩
  have e : (Code.builtin "type.__call__" ⟨.ref C :: us, kw⟩).guards = [] := by
    have z : (guardIds.contains "type.__call__") = false := by decide +kernel
    show (if (guardIds.contains "type.__call__") = true then _ else _) = _
    rw [z]; rfl
  show pushGuards (Code.builtin "type.__call__" ⟨.ref C :: us, kw⟩).guards A.guards = _
  rw [e]; exact r.gd
end
/-- what a def of the text does to values of the store -/
structure FnG (P : Program) (w : World) (K : PySem.W.Frag) (mg : Str → Option Value) (base : Heap) (k : Nat) (f : Addr) (fd : FuncData) (ps : List Str) (fm : FM) : Prop where
  run : ∀ (A : Around) (outer : List PySem.Env) (s : Shared) (H : Hp) (args : Args) (us : List Value) (vs : List V) (ds : List D) (μ : List Addr) (M : Mem) (Q : VK), Sur k A → Env0 P w K mg base A outer s H → BindsTo s fd args (ps.zip us) → Vals vs us → ds.length = ps.length →
    RepM K mg μ M H → RepVs K mg μ H ds vs → Wants K mg W0 (RepV K mg) (fm ds M) μ H Q → codeAny (model P w) A (.call (.ref f) args) (CR CX0 outer P w H s Q fun _ _ _ => False) s
/-- how a call's values reach the parameters: n positional ones, keywords ks -/
structure BindG (K : PySem.W.Frag) (mg : Str → Option Value) (fd : FuncData) (ps : List Str) (n : Nat) (ks : List Str) (sel : List Sel) : Prop where
  to : ∀ (s : Shared) (us ws : List Value), K.In s.heap → us.length = n → ws.length = ks.length → ∃ rs : List Value, BindsTo s fd ⟨us, ks.zip ws⟩ (ps.zip rs) ∧
    ∀ (vs : List V) (μ : List Addr) (H : Hp) (ds es : List D), Vals vs (us ++ ws) → RepVs K mg μ H ds vs → selD ds sel = some es → ∃ rv, Vals rv rs ∧ RepVs K mg μ H es rv
  len : sel.length = ps.length
theorem selD_length : ∀ {sel : List Sel} {ds es : List D}, selD ds sel = some es → es.length = sel.length
  | [], _, _, h => by cases h; rfl
  | .arg k :: r, ds, es, h => by
    unfold selD at h
    split at h
    · rename_i d es' h1 h2
      cases h
      simp [selD_length h2]
    · cases h
  | .val d :: r, ds, es, h => by
    unfold selD at h
    split at h
    · rename_i es' h2
      cases h
      simp [selD_length h2]
    · cases h
theorem sel_args {K : PySem.W.Frag} {mg : Str → Option Value} {μ : List Addr} {H : Hp} {vs : List V} {us : List Value} {ds : List D} (r : Vals vs us) (q : RepVs K mg μ H ds vs) : ∀ {idx : List Nat} {es : List D}, selD ds (idx.map Sel.arg) = some es →
    ∃ rv, Vals rv (idx.map fun i => us[i]?.getD .none) ∧ RepVs K mg μ H es rv
  | [], _, h => by cases h; exact ⟨[], .nil, .nil⟩
  | i :: idx, es, h => by
    unfold List.map selD at h
    split at h
    · rename_i d es' h1 h2
      cases h
      obtain ⟨rv, e1, e2⟩ := sel_args r q h2
      obtain ⟨v, hv, rvd⟩ := q.get h1
      obtain ⟨u, hu, ru⟩ := r.get hv
      refine ⟨v :: rv, ?_, .cons rvd e2⟩
      rw [List.map_cons]
      refine .cons ?_ e1
      rw [hu]
      exact ru
    · cases h
/-- a call that gives every parameter -/
theorem BindG.args {K : PySem.W.Frag} {mg : Str → Option Value} {fd : FuncData} {ps : List Str} {n : Nat} {ks : List Str} (idx : List Nat) (hl : idx.length = ps.length)
    (h : ∀ us ws : List Value, us.length = n → ws.length = ks.length → bindArgs fd ⟨us, ks.zip ws⟩ = pure (ps.zip (idx.map fun i => (us ++ ws)[i]?.getD .none))) : BindG K mg fd ps n ks (idx.map Sel.arg) :=
  ⟨fun s us ws _ h1 h2 => ⟨_, .of_eq (h us ws h1 h2), fun vs μ H ds es r q e => sel_args r q e⟩, by rw [List.length_map]; exact hl⟩
/-- what a callee does -/
def CallG (X : Cx) (u : Value) (n : Nat) (ks : List Str) (m : List D → R D) : Prop :=
  ∀ (pins : List (Addr × Obj)) (s : Shared) (σ : L2.St) (H : Hp) (us ws : List Value) (vs zs : List V) (ds es : List D) (μ : List Addr) (M : Mem) (Q : VK), Inv X pins σ H s → Vals vs us → Vals zs ws → us.length = n → ws.length = ks.length →
    RepM X.K X.mg μ M H → RepVs X.K X.mg μ H ds vs → RepVs X.K X.mg μ H es zs → Wants X.K X.mg W0 (RepV X.K X.mg) (m (ds ++ es) M) μ H Q → wpAny (model X.prog X.w) X.A (call u us (ks.zip ws)) (EP X pins σ Q) X.xe s
section
variable {X : Cx} {k n : Nat} {f C : Addr} {fd : FuncData} {ps ks : List Str} {sel : List Sel} {fm : FM} {T : Tab} {c : Str}
theorem back_w {pins : List (Addr × Obj)} {σ : L2.St} {H : Hp} {s : Shared} {Q : VK} {E : XK} (I : Inv X pins σ H s) : ∀ (r : Result) (s' : Shared), CR CX0 X.stack X.prog X.w H s Q E r s' → wants (EP X pins σ Q) X.xe r s'
  | .ok (.ret _), _, h => I.after h
  | .ok .next, _, h => h.elim
  | .ok .brk, _, h => h.elim
  | .ok .cont, _, h => h.elim
  | .error _, _, h => h.elim
theorem callG_fn (F : FnG X.prog X.w X.K X.mg X.base k f fd ps fm) (hr : Sur k X.A) (hb : BindG X.K X.mg fd ps n ks sel) : CallG X (.ref f) n ks (fun vs => bnd (opt (selD vs sel)) fm) := by
  intro pins s σ H us ws vs zs ds es μ M Q I r1 r2 l1 l2 rm q1 q2 h
  obtain ⟨as, e, h⟩ := opt_w h
  obtain ⟨rs, hbind, hsel⟩ := hb.to s us ws I.kIn l1 l2
  obtain ⟨rv, r3, q3⟩ := hsel _ _ _ _ _ (r1.append r2) (q1.append q2) e
  exact wpAny_call (codeAny_mono (F.run X.A X.stack s H _ rs rv as μ M Q hr I.env0 hbind r3 ((selD_length e).trans hb.len) rm q3 h) (back_w I))
/-- the receiver in front -/
def selS (sel : List Sel) : List Sel := .arg 0 :: sel.map fun q => match q with | .arg k => .arg (k + 1) | .val d => .val d
theorem selD_S {d : D} {ds : List D} : ∀ {sel : List Sel}, selD (d :: ds) (sel.map fun q => match q with | .arg k => .arg (k + 1) | .val d => .val d) = selD ds sel
  | [] => rfl
  | .arg k :: r => by
    have ih := selD_S (d := d) (ds := ds) (sel := r)
    show selD (d :: ds) (.arg (k + 1) :: r.map _) = _
    unfold selD
    rw [ih]
    rfl
  | .val v :: r => by
    have ih := selD_S (d := d) (ds := ds) (sel := r)
    show selD (d :: ds) (.val v :: r.map _) = _
    unfold selD
    rw [ih]
theorem selD_selS {d : D} {ds es : List D} {sel : List Sel} (h : selD ds sel = some es) : selD (d :: ds) (selS sel) = some (d :: es) := by
  unfold selS selD
  rw [selD_S, h]
  rfl
theorem callG_mt (F : FnG X.prog X.w X.K X.mg X.base k f fd ps fm) (hr : Sur k X.A) (hb : BindG X.K X.mg fd ps (n + 1) ks (selS sel)) {pins : List (Addr × Obj)} {s : Shared} {σ : L2.St} {H : Hp} {u : Value} {v : V} {d : D} {us ws : List Value} {vs zs : List V} {ds es as : List D} {μ : List Addr} {M : Mem} {Q : VK}
    (I : Inv X pins σ H s) (r0 : RelV v u) (r1 : Vals vs us) (r2 : Vals zs ws) (l1 : us.length = n) (l2 : ws.length = ks.length) (rm : RepM X.K X.mg μ M H) (q0 : RepV X.K X.mg μ H d v) (q1 : RepVs X.K X.mg μ H ds vs) (q2 : RepVs X.K X.mg μ H es zs)
    (e : selD (ds ++ es) sel = some as) (h : Wants X.K X.mg W0 (RepV X.K X.mg) (fm (d :: as) M) μ H Q) : wpAny (model X.prog X.w) X.A (call (.ref f) (u :: us) (ks.zip ws)) (EP X pins σ Q) X.xe s := by
  refine callG_fn F hr hb pins s σ H (u :: us) ws (v :: vs) zs (d :: ds) es μ M Q I (.cons r0 r1) r2 (by simp [l1]) l2 rm (.cons q0 q1) q2 ?_
  have e2 : selD (d :: ds ++ es) (selS sel) = some (d :: as) := selD_selS e
  show Wants _ _ _ _ (bnd (opt (selD (d :: ds ++ es) (selS sel))) fm M) _ _ _
  rw [e2]
  exact h
/-- a new instance -/
theorem callG_make (MK : L2.Mk X.K C f) (F : FnG X.prog X.w X.K X.mg X.base k f fd ps fm) (hr : Sur (k + 1) X.A) (hb : BindG X.K X.mg fd ps (n + 1) ks (selS sel)) (hc : X.mg c = some (.ref C)) {ct : ClsT} (hT : T.cls c = some ct) (hi : ct.init = fm) :
    CallG X (.ref C) n ks (fun vs => bnd (opt (selD vs sel)) (makeI T c)) := by
  intro pins s σ H us ws vs zs ds es μ M Q I r1 r2 l1 l2 rm q1 q2 h
  obtain ⟨as, e, h⟩ := opt_w h
  obtain ⟨r, M', e1, kk⟩ := h
  unfold makeI at e1
  rw [hT] at e1
  dsimp only at e1
  rw [hi] at e1
  split at e1
  · rename_i M2 he
    cases e1
    have I2 := Inv.made (C := C) I
    have f1 : H s.heap.objs.size = none := I.hok.fresh (Nat.le_refl _)
    have f2 : (upd H s.heap.objs.size (.own (s.heap.objs.size + 1))) (s.heap.objs.size + 1) = none := by
      rw [upd_ne (Nat.ne_of_gt (Nat.lt_succ_self _))]
      exact I.hok.fresh (Nat.le_succ _)
    have le1 : Le μ H μ (upd H s.heap.objs.size (.own (s.heap.objs.size + 1))) := Le.free f1
    have rm1 := rm.free (o := .own (s.heap.objs.size + 1)) f1
    have le2 := Le.new (μ := μ) (o := .ins C s.heap.objs.size []) f2
    have le := le1.trans le2
    have rm2 := rm1.new (o := .ins C s.heap.objs.size []) (q := .ins c []) f2 ⟨C, s.heap.objs.size, [], hc, upd_same, .nil⟩
    have hx : (μ ++ [s.heap.objs.size + 1])[M.length]? = some (s.heap.objs.size + 1) := by
      rw [← rm.len, List.getElem?_append_right (Nat.le_refl _)]
      simp
    obtain ⟨rs, hbind, hsel⟩ := hb.to { s with heap := (s.heap.push PySem.W.emptyDict).push (PySem.W.instObj C s.heap.objs.size) } (.ref (s.heap.objs.size + 1) :: us) ws I2.kIn (by simp [l1]) l2
    have e2 : selD (D.ref M.length :: ds ++ es) (selS sel) = some (D.ref M.length :: as) := selD_selS e
    obtain ⟨rv, r3, q3⟩ := hsel (.ref (s.heap.objs.size + 1) :: vs ++ zs) _ _ _ _ (.cons rfl (r1.append r2)) (.cons (.ref hx) ((q1.append q2).up le rm)) e2
    refine wpAny_call (make_map (f := f) I.kIn MK.makes MK.init (beq_iff_eq.mp MK.fn) (codeAny_mono (F.run _ X.stack _ _ _ rs rv (D.ref M.length :: as) (μ ++ [s.heap.objs.size + 1]) (M ++ [.ins c []]) (fun v H2 => v = .non ∧ Q (.ref (s.heap.objs.size + 1)) H2) (hr.make C us (ks.zip ws))
      (I2.env0.make C us (ks.zip ws)) hbind r3 ((selD_length e2).trans hb.len) rm2 q3 ⟨.ok .non, M', he, fun μ' H' l' rm' v hv => (by cases hv; exact ⟨rfl, kk μ' H' (le.trans l') rm' _ (.ref (l'.at hx))⟩)⟩) fun r s' hq' => ?_))
    · match r, hq' with
      | .ok (.ret u), hq' =>
        obtain ⟨v, H', I3, rv', ev, q4⟩ := I2.after hq'
        subst ev
        exact ⟨rv', V.ref (s.heap.objs.size + 1), H', I3, rfl, q4⟩
      | .ok .next, hq' => exact False.elim hq'
      | .ok .brk, hq' => exact False.elim hq'
      | .ok .cont, hq' => exact False.elim hq'
      | .error _, hq' => exact False.elim hq'
  · cases e1
end
end DL
end
section
set_option Elab.async false
set_option linter.all false
set_option maxRecDepth 100000
set_option maxHeartbeats 2000000
/-! DL, part j: rules over the language: names, calls, attributes. -/
namespace DL
open PySem PySem.Spec PyProof.Rows L2
abbrev DE (X : Cx) (W : XW) (T : Tab) (e : Expr) (c : CE) : Prop := PE X e (tD X.K X.mg W (evE T c))
abbrev DT (X : Cx) (W : XW) (T : Tab) (e : Expr) (c : CT) : Prop := PT X e (tTD X.K X.mg W (evT T c))
abbrev DEs (X : Cx) (W : XW) (T : Tab) (e : List Expr) (c : CEs) : Prop := PA X e (tAD X.K X.mg W (evEs T c))
abbrev DO (X : Cx) (W : XW) (T : Tab) (e : Option Expr) (c : CO) : Prop := PO X e (tOD X.K X.mg W (evO T c))
abbrev DK (X : Cx) (W : XW) (T : Tab) (e : List Keyword) (c : CEs) : Prop := PK X e (tAD X.K X.mg W (evEs T c))
def CEs.len : CEs → Nat | .nil => 0 | .cons _ es => es.len + 1
theorem evEs_len {T : Tab} : ∀ {as : CEs} {env : Env} {M M' : Mem} {ds : List D}, evEs T as env M = some (.ok ds, M') → ds.length = as.len
  | .nil, env, M, M', ds, h => by
    rw [evEs] at h
    cases (show some (Except.ok [], M) = some (.ok ds, M') from h)
    rfl
  | .cons e es, env, M, M', ds, h => by
    rw [evEs] at h
    rcases bnd_some h with ⟨z, hi, e⟩ | ⟨t, M1, hi, e⟩
    · cases e
    · rcases bnd_some e with ⟨z, hi2, e2⟩ | ⟨ts, M2, hi2, e2⟩
      · cases e2
      · have := evEs_len hi2
        cases (show some (Except.ok (t :: ts), M2) = some (.ok ds, M') from e2)
        show ts.length + 1 = es.len + 1
        rw [this]
section
variable {X : Cx} {W : XW} {T : Tab} {σ : L2.St} {H : Hp}
theorem tA_bndL {α β : Type} {as : CEs} {rel : List Addr → Hp → α → β → Prop} {f : List D → Env → R α} {Q : β → Hp → Prop} {μ : List Addr} {M : Mem} {env : Env} (rm : RepM X.K X.mg μ M H) (rs : RepS X.K X.mg μ H env σ)
    (h : Wants X.K X.mg W rel (bnd (evEs T as env) (fun d => f d env) M) μ H Q) {Q' : List V → Hp → Prop} (k : ∀ vs H1 μ1 M1 ds, Le μ H μ1 H1 → RepM X.K X.mg μ1 M1 H1 → RepS X.K X.mg μ1 H1 env σ → RepVs X.K X.mg μ1 H1 ds vs → ds.length = as.len → Wants X.K X.mg W rel (f ds env M1) μ1 H1 Q → Q' vs H1) : tAD X.K X.mg W (evEs T as) σ H Q' := by
  have hb := h.bnd (rel1 := fun μ H a b => a.length = as.len ∧ RepVs X.K X.mg μ H a b)
  refine ⟨μ, M, env, rm, rs, Wants.also (fun a => a.length = as.len) (fun a M' e => evEs_len e) ?_⟩
  obtain ⟨r, M', e, q⟩ := hb
  refine ⟨r, M', e, fun μ' H' l rm' => ?_⟩
  have q' := q μ' H' l rm'
  cases r with
  | error x => exact q'
  | ok d =>
    intro v rv
    obtain ⟨μ1, M1, d1, l1, rm1, rv1, w⟩ := q' v rv
    exact k _ H' μ1 M1 d1 l1 rm1 (rs.up l1 rm) rv1.2 rv1.1 w
/-! ### keywords -/
theorem dk_nil : DK X W T [] .nil := ⟨fun pos pins s σ H Q I ⟨μ, M, env, rm, rs, h⟩ => pk_nil.run pos pins s σ H Q I (by
  have h : Wants X.K X.mg W (RepVs X.K X.mg) (ret [] M) μ H Q := h
  exact h.ret rm .nil)⟩
theorem dk_cons {nm : Option Str} {e : Expr} {kpos : Pos} {kws : List Keyword} {c : CE} {cs : CEs} (ha : DE X W T e c) (hr : DK X W T kws cs) : DK X W T (⟨nm, e, kpos⟩ :: kws) (.cons c cs) :=
  ⟨fun pos pins s σ H Q I ⟨μ, M, env, rm, rs, h⟩ => (pk_cons ha hr).run pos pins s σ H Q I (by
    have h : Wants X.K X.mg W (RepVs X.K X.mg) (bnd (evE T c env) (fun x => bnd (evEs T cs env) fun xs => ret (x :: xs)) M) μ H Q := h
    exact tD_bnd rm rs h (f := fun x env => bnd (evEs T cs env) fun xs => ret (x :: xs)) fun v H1 μ1 M1 d l1 rm1 rs1 rv w =>
      tA_bnd rm1 rs1 w (f := fun xs env => ret (d :: xs)) fun vs H2 μ2 M2 ds l2 rm2 rs2 rvs w2 => Wants.ret (a := d :: ds) w2 rm2 (.cons (rv.up l2 rm1) rvs))⟩
/-! ### calls -/
inductive ArgsOk (X : Cx) (pos : Pos) : List Expr → CEs → Prop where
  | nil : ArgsOk X pos [] .nil
  | cons {e : Expr} {r : List Expr} {as : CEs} (he : starEach (e :: r) X.env = (false, eval e X.env) :: starEach r X.env) (hpl : (backTo pos (starEach r X.env)).any (·.1) = false) : ArgsOk X pos (e :: r) as
inductive KwsOk (X : Cx) (pos : Pos) (ks : List Str) : List Keyword → CEs → Prop where
  | nil (h : ks = []) : KwsOk X pos ks [] .nil
  | cons {kws : List Keyword} {bs : CEs} (hall : (backToKw pos (keywordEach kws X.env)).all (·.1.isSome) = true) (hks : (backToKw pos (keywordEach kws X.env)).filterMap (·.1) = ks) (hn : (backToKw pos (keywordEach kws X.env)).any (·.1.isNone) = false) : KwsOk X pos ks kws bs
theorem call_wP {u : Value} {first : List Value} {P : Heap → Prop} {pins : List (Addr × Obj)} {s : Shared} {es : List Expr} {kws : List Keyword} {pos : Pos} {as bs : CEs} {ks : List Str} {μ : List Addr} {M : Mem} {env : Env} {g : List D → R D} {Q : VK} {Z : Value → Shared → Prop}
    (hk : ∀ h, P h → ∃ k, (k = Keeper.frame ∨ k = Keeper.machine ∨ k = Keeper.boundFrame) ∧ PySem.W.Looks (model X.prog X.w) h (keeperOf u) k) (ao : ArgsOk X pos es as) (ko : KwsOk X pos ks kws bs) (ha : DEs X W T es as) (hkw : DK X W T kws bs) (I : Inv X pins σ H s) (rm : RepM X.K X.mg μ M H) (rs : RepS X.K X.mg μ H env σ)
    (h : Wants X.K X.mg W (RepV X.K X.mg) (bnd (evEs T as env) (fun vs => bnd (evEs T bs env) fun us => g (vs ++ us)) M) μ H Q)
    (run : ∀ (s2 : Shared) (H2 : Hp) (us ws : List Value) (vs zs : List V) (ds es : List D) (μ2 : List Addr) (M2 : Mem), Inv X pins σ H2 s2 → Vals vs us → Vals zs ws → us.length = as.len → ws.length = bs.len → Le μ H μ2 H2 → RepM X.K X.mg μ2 M2 H2 → RepVs X.K X.mg μ2 H2 ds vs → RepVs X.K X.mg μ2 H2 es zs →
      Wants X.K X.mg W (RepV X.K X.mg) (g (ds ++ es) M2) μ2 H2 Q → P s2.heap ∧ wpAny (model X.prog X.w) X.A (call u (first ++ us) (ks.zip ws)) Z X.xe s2) :
    wpAny (model X.prog X.w) X.A (callWith pos u first (backTo pos (starEach es X.env)) (backToKw pos (keywordEach kws X.env))) Z X.xe s := by
  cases ko with
  | nil hn =>
    subst hn
    cases ao with
    | nil => exact PySem.W.callWith_of rfl hk (evalArgs_nil3 (run s H [] [] [] [] [] [] μ M I .nil .nil rfl rfl (Le.refl _ _) rm .nil .nil h))
    | @cons e r as he hpl =>
      refine PySem.W.callWith_of (by rw [he]; show ((false || (backTo pos (starEach r X.env)).any (·.1)) || false) = false; rw [hpl]; rfl) hk ?_
      have z : wpAny (model X.prog X.w) X.A (spliced (backTo pos (starEach (e :: r) X.env))) (fun vs s' => P s'.heap ∧ wpAny (model X.prog X.w) X.A (call u (first ++ vs) []) Z X.xe s') X.xe s := by
        refine thn (ha.run pos pins s σ H _ I (tA_bndL rm rs h (f := fun vs env => bnd (evEs T .nil env) fun us => g (vs ++ us)) (Q' := fun vs H1 => ∃ μ1 M1 ds, Le μ H μ1 H1 ∧ RepM X.K X.mg μ1 M1 H1 ∧ RepVs X.K X.mg μ1 H1 ds vs ∧ ds.length = as.len ∧ Wants X.K X.mg W (RepV X.K X.mg) (g (ds ++ []) M1) μ1 H1 Q) fun vs H1 μ1 M1 ds l1 rm1 rs1 rv ll w => ⟨μ1, M1, ds, l1, rm1, rv, ll, w⟩)) fun us s1 ⟨vs, H1, I1, r, μ1, M1, ds, l1, rm1, rv, ll, w⟩ => ?_
        exact run s1 H1 us [] vs [] ds [] μ1 M1 I1 r .nil (by rw [← r.length, ← rv.length, ll]) rfl l1 rm1 rv .nil w
      rw [he] at z ⊢
      exact Calls.evalArgs_plain z
  | cons hall hks hn =>
    cases ao with
    | nil =>
      refine PySem.W.callWith_of (by show (false || _) = false; rw [hn]; rfl) hk (evalArgs_kw2_nil hall ?_)
      refine thn (hkw.run pos pins s σ H _ I (tA_bndL rm rs h (f := fun us env => g ([] ++ us)) (Q' := fun vs H1 => ∃ μ1 M1 ds, Le μ H μ1 H1 ∧ RepM X.K X.mg μ1 M1 H1 ∧ RepVs X.K X.mg μ1 H1 ds vs ∧ ds.length = bs.len ∧ Wants X.K X.mg W (RepV X.K X.mg) (g ([] ++ ds) M1) μ1 H1 Q) fun vs H1 μ1 M1 ds l1 rm1 rs1 rv ll w => ⟨μ1, M1, ds, l1, rm1, rv, ll, w⟩)) fun ws s1 ⟨zs, H1, I1, r, μ1, M1, ds, l1, rm1, rv, ll, w⟩ => ?_
      rw [hks]
      exact run s1 H1 [] ws [] zs [] ds μ1 M1 I1 .nil r rfl (by rw [← r.length, ← rv.length, ll]) l1 rm1 .nil rv w
    | @cons e r as he hpl =>
      refine PySem.W.callWith_of (by
        rw [he]
        show ((false || (backTo pos (starEach r X.env)).any (·.1)) || _) = false
        rw [hpl, hn]; rfl) hk (evalArgs_kw2 hall ?_ he)
      refine thn (ha.run pos pins s σ H _ I (tA_bndL rm rs h (f := fun vs env => bnd (evEs T bs env) fun us => g (vs ++ us)) (Q' := fun vs H1 => ∃ μ1 M1 ds, Le μ H μ1 H1 ∧ RepM X.K X.mg μ1 M1 H1 ∧ RepS X.K X.mg μ1 H1 env σ ∧ RepVs X.K X.mg μ1 H1 ds vs ∧ ds.length = as.len ∧ Wants X.K X.mg W (RepV X.K X.mg) (bnd (evEs T bs env) (fun us => g (ds ++ us)) M1) μ1 H1 Q) fun vs H1 μ1 M1 ds l1 rm1 rs1 rv ll w => ⟨μ1, M1, ds, l1, rm1, rs1, rv, ll, w⟩)) fun us s1 ⟨vs, H1, I1, r1, μ1, M1, ds, l1, rm1, rs1, rv, ll, w⟩ => ?_
      refine thn (hkw.run pos pins s1 σ H1 _ I1 (tA_bndL rm1 rs1 w (f := fun us env => g (ds ++ us)) (Q' := fun zs H2 => ∃ μ2 M2 es, Le μ1 H1 μ2 H2 ∧ RepM X.K X.mg μ2 M2 H2 ∧ RepVs X.K X.mg μ2 H2 es zs ∧ es.length = bs.len ∧ Wants X.K X.mg W (RepV X.K X.mg) (g (ds ++ es) M2) μ2 H2 Q) fun zs H2 μ2 M2 es l2 rm2 rs2 rv2 ll2 w2 => ⟨μ2, M2, es, l2, rm2, rv2, ll2, w2⟩)) fun ws s2 ⟨zs, H2, I2, r2, μ2, M2, es, l2, rm2, rv2, ll2, w2⟩ => ?_
      rw [hks]
      exact run s2 H2 us ws vs zs ds es μ2 M2 I2 r1 r2 (by rw [← r1.length, ← rv.length, ll]) (by rw [← r2.length, ← rv2.length, ll2]) (l1.trans l2) rm2 (rv.up l2 rm1) rv2 w2
theorem call_w {u : Value} {first : List Value} {pins : List (Addr × Obj)} {s : Shared} {es : List Expr} {kws : List Keyword} {pos : Pos} {as bs : CEs} {ks : List Str} {μ : List Addr} {M : Mem} {env : Env} {g : List D → R D} {Q : VK}
    (hk : PySem.W.keepIn X.K u = true) (ao : ArgsOk X pos es as) (ko : KwsOk X pos ks kws bs) (ha : DEs X W T es as) (hkw : DK X W T kws bs) (I : Inv X pins σ H s) (rm : RepM X.K X.mg μ M H) (rs : RepS X.K X.mg μ H env σ)
    (h : Wants X.K X.mg W (RepV X.K X.mg) (bnd (evEs T as env) (fun vs => bnd (evEs T bs env) fun us => g (vs ++ us)) M) μ H Q)
    (run : ∀ (s2 : Shared) (H2 : Hp) (us ws : List Value) (vs zs : List V) (ds es : List D) (μ2 : List Addr) (M2 : Mem), Inv X pins σ H2 s2 → Vals vs us → Vals zs ws → us.length = as.len → ws.length = bs.len → Le μ H μ2 H2 → RepM X.K X.mg μ2 M2 H2 → RepVs X.K X.mg μ2 H2 ds vs → RepVs X.K X.mg μ2 H2 es zs →
      Wants X.K X.mg W (RepV X.K X.mg) (g (ds ++ es) M2) μ2 H2 Q → wpAny (model X.prog X.w) X.A (call u (first ++ us) (ks.zip ws)) (EP X pins σ Q) X.xe s2) :
    wpAny (model X.prog X.w) X.A (callWith pos u first (backTo pos (starEach es X.env)) (backToKw pos (keywordEach kws X.env))) (EP X pins σ Q) X.xe s :=
  call_wP (P := fun h => X.K.In h) (fun h z => PySem.W.keeps_K hk h z) ao ko ha hkw I rm rs h fun s2 H2 us ws vs zs ds es μ2 M2 I2 r1 r2 l1 l2 le rm2 q1 q2 w => ⟨I2.kIn, run s2 H2 us ws vs zs ds es μ2 M2 I2 r1 r2 l1 l2 le rm2 q1 q2 w⟩
variable {x : Str} {p pos apos : Pos} {u : Value} {n : Nat} {ks : List Str} {es : List Expr} {kws : List Keyword} {as bs : CEs} {sel : List Sel}
theorem optW {γ : Type} {o : Option γ} {f : γ → R D} {M : Mem} {μ : List Addr} {Q : VK} (h : Wants X.K X.mg W (RepV X.K X.mg) (bnd (opt o) (fun w => noErr (f w)) M) μ H Q) : Wants X.K X.mg W0 (RepV X.K X.mg) (bnd (opt o) f M) μ H Q := by
  obtain ⟨y, e, w⟩ := opt_w h
  subst e
  exact w.noErr
theorem de_own {i : Nat} (hg : Gl X x) (hm : X.mg x = some u) (hk : PySem.W.keepIn X.K u = true) (hc : CallG X u n ks (fun vs => bnd (opt (selD vs sel)) (T.fn i))) (ao : ArgsOk X pos es as) (ko : KwsOk X pos ks kws bs) (ln : as.len = n) (lk : bs.len = ks.length)
    (ha : DEs X W T es as) (hkw : DK X W T kws bs) (hdb : (x == ("__debug__" : Str)) = false) : DE X W T (.Call (.Name x p) es kws pos) (.own i as bs sel) := by
  refine ⟨fun pins s σ H Q I ⟨μ, M, env, rm, rs, h⟩ => ?_⟩
  refine wpAny_Call_Name_kw (ld_glob I hg hm ?_ hdb)
  have h : Wants X.K X.mg W (RepV X.K X.mg) (bnd (evEs T as env) (fun vs => bnd (evEs T bs env) fun us => bnd (opt (selD (vs ++ us) sel)) fun ws => noErr (T.fn i ws)) M) μ H Q := h
  refine call_w (first := []) (g := fun l => bnd (opt (selD l sel)) fun ws => noErr (T.fn i ws)) hk ao ko ha hkw I rm rs h fun s2 H2 us ws vs zs ds es μ2 M2 I2 r1 r2 l1 l2 _ rm2 q1 q2 w => ?_
  exact hc pins s2 σ H2 us ws vs zs ds es μ2 M2 Q I2 r1 r2 (l1.trans ln) (l2.trans lk) rm2 q1 q2 (optW w)
theorem makeI_noErr {c : Str} {vs : List D} {M : Mem} {μ : List Addr} {Q : VK} (h : Wants X.K X.mg W (RepV X.K X.mg) (makeI T c vs M) μ H Q) : Wants X.K X.mg W0 (RepV X.K X.mg) (makeI T c vs M) μ H Q := by
  obtain ⟨r, M', e, k⟩ := h
  refine ⟨r, M', e, ?_⟩
  unfold makeI at e
  split at e
  · split at e
    · cases e
      exact k
    · cases e
  · cases e
theorem optMk {c : Str} {o : Option (List D)} {M : Mem} {μ : List Addr} {Q : VK} (h : Wants X.K X.mg W (RepV X.K X.mg) (bnd (opt o) (makeI T c) M) μ H Q) : Wants X.K X.mg W0 (RepV X.K X.mg) (bnd (opt o) (makeI T c) M) μ H Q := by
  obtain ⟨y, e, w⟩ := opt_w h
  subst e
  exact makeI_noErr w
theorem de_make {c : Str} (hg : Gl X x) (hm : X.mg x = some u) (hk : PySem.W.keepIn X.K u = true) (hc : CallG X u n ks (fun vs => bnd (opt (selD vs sel)) (makeI T c))) (ao : ArgsOk X pos es as) (ko : KwsOk X pos ks kws bs) (ln : as.len = n) (lk : bs.len = ks.length)
    (ha : DEs X W T es as) (hkw : DK X W T kws bs) (hdb : (x == ("__debug__" : Str)) = false) : DE X W T (.Call (.Name x p) es kws pos) (.make c as bs sel) := by
  refine ⟨fun pins s σ H Q I ⟨μ, M, env, rm, rs, h⟩ => ?_⟩
  refine wpAny_Call_Name_kw (ld_glob I hg hm ?_ hdb)
  have h : Wants X.K X.mg W (RepV X.K X.mg) (bnd (evEs T as env) (fun vs => bnd (evEs T bs env) fun us => bnd (opt (selD (vs ++ us) sel)) fun ws => makeI T c ws) M) μ H Q := h
  refine call_w (first := []) (g := fun l => bnd (opt (selD l sel)) fun ws => makeI T c ws) hk ao ko ha hkw I rm rs h fun s2 H2 us ws vs zs ds es μ2 M2 I2 r1 r2 l1 l2 _ rm2 q1 q2 w => ?_
  exact hc pins s2 σ H2 us ws vs zs ds es μ2 M2 Q I2 r1 r2 (l1.trans ln) (l2.trans lk) rm2 q1 q2 (optMk w)
/-- cls(..), the class in a local name -/
theorem de_makeV {c : Str} {o : CE} {C : Addr} (ho : DE X W T (.Name x p) o) (hm : X.mg c = some (.ref C)) (hk : PySem.W.keepIn X.K (.ref C) = true) (hc : CallG X (.ref C) n [] (fun vs => bnd (opt (selD vs sel)) (makeI T c))) (ao : ArgsOk X pos es as) (ln : as.len = n)
    (ha : DEs X W T es as) : DE X W T (.Call (.Name x p) es [] pos) (.makeV c o as sel) := by
  refine ⟨fun pins s σ H Q I ⟨μ, M, env, rm, rs, h⟩ => ?_⟩
  have h : Wants X.K X.mg W (RepV X.K X.mg) (bnd (evE T o env) (fun x => bnd (glIs c x) fun _ => bnd (evEs T as env) fun vs => bnd (opt (selD vs sel)) fun ws => makeI T c ws) M) μ H Q := h
  refine wpAny_Call_Name_kw (thn (ho.run pins s σ H (fun v H1 => v = .ref C ∧ ∃ μ1 M1, Le μ H μ1 H1 ∧ RepM X.K X.mg μ1 M1 H1 ∧ RepS X.K X.mg μ1 H1 env σ ∧ Wants X.K X.mg W (RepV X.K X.mg) (bnd (evEs T as env) (fun vs => bnd (opt (selD vs sel)) fun ws => makeI T c ws) M1) μ1 H1 Q) I
    (tD_bnd rm rs h (f := fun x env => bnd (glIs c x) fun _ => bnd (evEs T as env) fun vs => bnd (opt (selD vs sel)) fun ws => makeI T c ws) fun v H1 μ1 M1 d l1 rm1 rs1 rv w => ?_)) fun uu s1 ⟨v, H1, I1, r1, ev, μ1, M1, l1, rm1, rs1, w⟩ => ?_)
  · cases rv with
    | @glo y v w0 hy ry =>
      by_cases hyc : y = c
      · subst hyc
        rw [hm] at hy; cases hy
        have ev : v = V.ref C := RelV.inj ry (show RelV (V.ref C) (Value.ref C) from rfl)
        refine ⟨ev, μ1, M1, l1, rm1, rs1, ?_⟩
        have e : glIs y (.glo y) = ret () := if_pos rfl
        rw [e] at w
        exact w
      · exfalso
        have e : glIs c (.glo y) = fail := if_neg hyc
        rw [e] at w
        obtain ⟨_, _, z, _⟩ := w
        cases z
    | _ => exfalso; obtain ⟨_, _, z, _⟩ := w; cases z
  · subst ev
    obtain rfl : uu = Value.ref C := r1
    have w' : Wants X.K X.mg W (RepV X.K X.mg) (bnd (evEs T as env) (fun vs => bnd (evEs T .nil env) fun us => bnd (opt (selD (vs ++ us) sel)) fun ws => makeI T c ws) M1) μ1 H1 Q := by
      have e : (fun vs => bnd (evEs T .nil env) fun us => bnd (opt (selD (vs ++ us) sel)) fun ws => makeI T c ws) = fun vs => bnd (opt (selD vs sel)) fun ws => makeI T c ws := by
        funext vs M
        show bnd (opt (selD (vs ++ []) sel)) (fun ws => makeI T c ws) M = _
        rw [List.append_nil]
      rw [e]
      exact w
    refine call_w (first := []) (ks := []) (bs := .nil) (kws := []) (g := fun l => bnd (opt (selD l sel)) fun ws => makeI T c ws) hk ao (.nil rfl) ha dk_nil I1 rm1 rs1 w' fun s2 H2 us ws vs zs ds es μ2 M2 I2 r1 r2 l1 l2 _ rm2 q1 q2 w => ?_
    exact hc pins s2 σ H2 us ws vs zs ds es μ2 M2 Q I2 r1 r2 (l1.trans ln) l2 rm2 q1 q2 (optMk w)
end
end DL
end
section
set_option Elab.async false
set_option linter.all false
set_option maxRecDepth 100000
set_option maxHeartbeats 2000000
/-! DL, part k: methods, attributes, isinstance. -/
namespace DL
open PySem PySem.Spec PyProof.Rows L2
section
variable {X : Cx} {W : XW} {T : Tab} {σ : L2.St} {H : Hp} {pos p apos : Pos}
theorem RepF.look {K : PySem.W.Frag} {mg : Str → Option Value} {μ : List Addr} {f : Str} : ∀ {fs : List (Str × D)} {gs : List (Str × V)}, RepF K mg μ H fs gs → (∀ d, fs.lookup f = some d → ∃ v, gs.lookup f = some v ∧ RepV K mg μ H d v) ∧ (fs.lookup f = none → gs.lookup f = none)
  | _, _, .nil => ⟨fun d h => (by have h : (none : Option D) = some d := h; cases h), fun _ => rfl⟩
  | _, _, @RepF.cons _ _ _ _ g d v ds vs h r => by
    have ih := r.look (f := f)
    by_cases e : f == g
    · refine ⟨fun d' z => ?_, fun z => ?_⟩
      · rw [List.lookup_cons, e] at z
        have z : some d = some d' := z
        cases z
        exact ⟨v, by rw [List.lookup_cons, e], h⟩
      · rw [List.lookup_cons, e] at z
        cases z
    · have e : (f == g) = false := by simpa using e
      refine ⟨fun d' z => ?_, fun z => ?_⟩
      · rw [List.lookup_cons, e] at z
        obtain ⟨w, h1, h2⟩ := ih.1 d' z
        exact ⟨w, by rw [List.lookup_cons, e]; exact h1, h2⟩
      · rw [List.lookup_cons, e] at z
        rw [List.lookup_cons, e]
        exact ih.2 z
theorem insOf_w {α β : Type} {rel : List Addr → Hp → α → β → Prop} {c : Str} {d : D} {f : List (Str × D) → R α} {M : Mem} {μ : List Addr} {Q : β → Hp → Prop} (h : Wants X.K X.mg W rel (bnd (insOf c d) f M) μ H Q) :
    ∃ n fs, d = .ref n ∧ M[n]? = some (.ins c fs) ∧ Wants X.K X.mg W rel (f fs M) μ H Q := by
  obtain ⟨r, M', e, k⟩ := h
  rcases bnd_some e with ⟨z, hi, e⟩ | ⟨t, M1, hi, e⟩
  · exfalso
    unfold insOf at hi
    split at hi
    · split at hi
      · split at hi <;> cases hi
      · cases hi
    · cases hi
  · unfold insOf at hi
    split at hi
    · split at hi
      · rename_i hm
        split at hi
        · rename_i hc
          subst hc
          cases hi
          exact ⟨_, _, rfl, hm, r, M', e, k⟩
        · cases hi
      · cases hi
    · cases hi
/-- the instance as the layer has it -/
theorem ins_at {n : Nat} {a : Addr} {c : Str} {C : Addr} {fs : List (Str × D)} {μ : List Addr} {M : Mem} (rm : RepM X.K X.mg μ M H) (hn : μ[n]? = some a) (hm : M[n]? = some (.ins c fs)) (hC : X.mg c = some (.ref C)) : ∃ dx gs, H a = some (.ins C dx gs) ∧ RepF X.K X.mg μ H fs gs := by
  obtain ⟨C', dx, gs, h0, h1, h2⟩ := rm.obj n a _ hn hm
  rw [hC] at h0
  cases h0
  exact ⟨dx, gs, h1, h2⟩
theorem ifT {α β : Type} {rel : List Addr → Hp → α → β → Prop} {c : Prop} [Decidable c] {m : R α} {M : Mem} {μ : List Addr} {Q : β → Hp → Prop} (h : Wants X.K X.mg W rel ((if c then m else fail) M) μ H Q) : c ∧ Wants X.K X.mg W rel (m M) μ H Q := by
  by_cases hc : c
  · rw [if_pos hc] at h; exact ⟨hc, h⟩
  · rw [if_neg hc] at h; exact h.fail.elim
theorem optF_w {fm : FM} {vs : List D} {M : Mem} {μ : List Addr} {Q : VK} {o : Option FM} (ho : o = some fm) (h : Wants X.K X.mg W (RepV X.K X.mg) (optF o vs M) μ H Q) : Wants X.K X.mg W0 (RepV X.K X.mg) (fm vs M) μ H Q := by
  subst ho
  exact Wants.noErr h
/-! ### methods -/
/-- a method of the class c of the table -/
structure MethG (X : Cx) (T : Tab) (c m : Str) (C f : Addr) (fd : FuncData) (ps : List Str) (k : Nat) (fm : FM) : Prop where
  at_ : X.mg c = some (.ref C)
  cl : L2.Cls X.K C
  mt : L2.Meth X.K C m f
  fn : FnG X.prog X.w X.K X.mg X.base k f fd ps fm
  tab : methOf T c m = some fm
theorem de_ometh {oe : Expr} {m c : Str} {es : List Expr} {kws : List Keyword} {o : CE} {as bs : CEs} {sel : List Sel} {C f : Addr} {fd : FuncData} {ps ks : List Str} {k n : Nat} {fm : FM} {pl : Sem Bool}
    (G : MethG X T c m C f fd ps k fm) (hr : Sur k X.A) (hb : BindG X.K X.mg fd ps (n + 1) ks (selS sel)) (ao : ArgsOk X pos es as) (ko : KwsOk X pos ks kws bs) (ln : as.len = n) (lk : bs.len = ks.length) (ho : DE X W T oe o) (ha : DEs X W T es as) (hkw : DK X W T kws bs)
    (ht : eval (.Call (.Attribute oe m apos) es kws pos) X.env = (do
      let ov ← eval oe X.env
      standAt apos.atName
      let (f, first) ← holding [ov] (getMethod ov m pl)
      callWith pos f first (backTo pos (starEach es X.env)) (backToKw pos (keywordEach kws X.env)))) : DE X W T (.Call (.Attribute oe m apos) es kws pos) (.ometh m c o as bs sel) := by
  refine ⟨fun pins s σ H Q I ⟨μ, M, env, rm, rs, h⟩ => ?_⟩
  have h : Wants X.K X.mg W (RepV X.K X.mg) (bnd (evE T o env) (fun x => bnd (insOf c x) fun fs => if (fs.lookup m).isNone = true then bnd (evEs T as env) fun vs => bnd (evEs T bs env) fun us => bnd (opt (selD (vs ++ us) sel)) fun ws => optF (methOf T c m) (x :: ws) else fail) M) μ H Q := h
  refine PySem.W.methodCall_KW (pl := pl) (thn (ho.run pins s σ H (fun v H1 => ∃ a dx gs d μ1 M1, v = .ref a ∧ H1 a = some (.ins C dx gs) ∧ gs.lookup m = none ∧ RepM X.K X.mg μ1 M1 H1 ∧ RepS X.K X.mg μ1 H1 env σ ∧ RepV X.K X.mg μ1 H1 d v ∧
      Wants X.K X.mg W (RepV X.K X.mg) (bnd (evEs T as env) (fun vs => bnd (evEs T bs env) fun us => bnd (opt (selD (vs ++ us) sel)) fun ws => optF (methOf T c m) (d :: ws)) M1) μ1 H1 Q) I
    (tD_bnd rm rs h (f := fun x env => bnd (insOf c x) fun fs => if (fs.lookup m).isNone = true then bnd (evEs T as env) fun vs => bnd (evEs T bs env) fun us => bnd (opt (selD (vs ++ us) sel)) fun ws => optF (methOf T c m) (x :: ws) else fail) fun v H1 μ1 M1 d l1 rm1 rs1 rv w => ?_)) fun u s1 ⟨v, H1, I1, r1, a, dx, gs, d, μ1, M1, ev, ea, hl, rm1, rs1, rv, w⟩ => ?_) ht
  · obtain ⟨nn, fs, hd, hM, w⟩ := insOf_w w
    subst hd
    obtain ⟨hl, w⟩ := ifT w
    cases rv with | @ref nn a hn => ?_
    obtain ⟨dx, gs, ea, rf⟩ := ins_at rm1 hn hM G.at_
    exact ⟨a, dx, gs, _, μ1, M1, rfl, ea, rf.look.2 (by simpa using hl), rm1, rs1, .ref hn, w⟩
  · subst ev
    obtain rfl : u = Value.ref a := r1
    refine getmeth_ok I1 ea G.cl G.mt hl ?_
    refine call_w (first := [.ref a]) (g := fun l => bnd (opt (selD l sel)) fun ws => optF (methOf T c m) (d :: ws)) G.mt.kp ao ko ha hkw I1 rm1 rs1 w fun s2 H2 us ws vs zs ds es μ2 M2 I2 r1 r2 l1 l2 le rm2 q1 q2 w => ?_
    obtain ⟨as', e, w⟩ := opt_w w
    exact callG_mt (v := V.ref a) (u := Value.ref a) G.fn hr hb I2 rfl r1 r2 (l1.trans ln) (l2.trans lk) rm2 (rv.up le rm1) q1 q2 e (optF_w G.tab w)
/-- a classmethod of the class c of the table -/
structure CmethG (X : Cx) (T : Tab) (c m : Str) (C f : Addr) (fd : FuncData) (ps : List Str) (k : Nat) (fm : FM) : Prop where
  at_ : X.mg c = some (.ref C)
  rd : ∃ mc pp, ClX.CRead X.K C mc ∧ ClX.CMet X.K C mc m pp f
  fn : FnG X.prog X.w X.K X.mg X.base k f fd ps fm
  tab : ∃ ct, T.cls c = some ct ∧ ct.cmet m = some fm
theorem de_cmeth {m c : Str} {es : List Expr} {kws : List Keyword} {as bs : CEs} {sel : List Sel} {C f : Addr} {fd : FuncData} {ps ks : List Str} {k n : Nat} {fm : FM} {pl : Sem Bool}
    (G : CmethG X T c m C f fd ps k fm) (hr : Sur k X.A) (hb : BindG X.K X.mg fd ps (n + 1) ks (selS sel)) (ao : ArgsOk X pos es as) (ko : KwsOk X pos ks kws bs) (ln : as.len = n) (lk : bs.len = ks.length) (hg : Gl X c) (hdb : (c == ("__debug__" : Str)) = false) (ha : DEs X W T es as) (hkw : DK X W T kws bs)
    (ht : eval (.Call (.Attribute (.Name c p) m apos) es kws pos) X.env = (do
      let ov ← eval (.Name c p) X.env
      standAt apos.atName
      let (f, first) ← holding [ov] (getMethod ov m pl)
      callWith pos f first (backTo pos (starEach es X.env)) (backToKw pos (keywordEach kws X.env)))) : DE X W T (.Call (.Attribute (.Name c p) m apos) es kws pos) (.cmeth c m as bs sel) := by
  refine ⟨fun pins s σ H Q I ⟨μ, M, env, rm, rs, h⟩ => ?_⟩
  obtain ⟨mc, pp, rd, cm⟩ := G.rd
  obtain ⟨ct, tc, tm⟩ := G.tab
  have h : Wants X.K X.mg W (RepV X.K X.mg) (bnd (evEs T as env) (fun vs => bnd (evEs T bs env) fun us => bnd (opt (selD (vs ++ us) sel)) fun ws => match T.cls c with
      | some k => optF (k.cmet m) (.glo c :: ws)
      | none => fail) M) μ H Q := h
  rw [tc] at h
  dsimp only at h
  refine PySem.W.methodCall_KW (pl := pl) (ld_glob I hg G.at_ ?_ hdb) ht
  refine ClX.getmethcm_ok I rd cm fun s2 I2 => ?_
  have z := call_wP (first := []) (P := PySem.W.MethP X.K s.heap.objs.size f (.ref C)) (Z := EP X ((s.heap.objs.size, PySem.W.methodObj (.ref f) (.ref C)) :: pins) σ Q) (g := fun l => bnd (opt (selD l sel)) fun ws => optF (ct.cmet m) (.glo c :: ws)) (PySem.W.keeps_M cm.fi) ao ko ha hkw I2 rm rs h fun s2 H2 us ws vs zs ds es μ2 M2 I3 r1 r2 l1 l2 le rm2 q1 q2 w => ?_
  · exact thn z fun _ _ y => ClX.unpinE y
  · obtain ⟨as', e, w⟩ := opt_w w
    refine ⟨⟨ClX.pin_at I3, I3.kIn⟩, wpAny_call (PySem.W.method_call (ClX.pin_at I3) ?_)⟩
    obtain ⟨rs', hbind, hsel⟩ := hb.to s2 (.ref C :: us) ws I3.kIn (by simp [l1, ln]) (l2.trans lk)
    have e2 : selD (D.glo c :: ds ++ es) (selS sel) = some (D.glo c :: as') := selD_selS e
    obtain ⟨rv, r3, q3⟩ := hsel (.ref C :: vs ++ zs) μ2 H2 _ _ (.cons rfl (r1.append r2)) (.cons (.glo G.at_ rfl) (q1.append q2)) e2
    exact codeAny_mono (G.fn.run X.A X.stack s2 H2 _ rs' rv (D.glo c :: as') μ2 M2 Q hr I3.env0 hbind r3 ((selD_length e2).trans hb.len) rm2 q3 (optF_w tm w)) (back_w I3)
/-! ### attributes -/
/-- what the text's classes make of an attribute's name -/
def AttrOk (X : Cx) (T : Tab) (f : Str) : Prop := ∀ c ct, T.cls c = some ct → ∃ C, X.mg c = some (.ref C) ∧ L2.Cls X.K C ∧ (ct.prop f = none → ct.fld.contains f = true → L2.NoAttr X.K C f) ∧
  ∀ fm, ct.prop f = some fm → ∃ p g fd ps k, L2.PropOf X.K C f p g ∧ FnG X.prog X.w X.K X.mg X.base k g fd ps fm ∧ BindG X.K X.mg fd ps 1 [] [.arg 0] ∧ Sur (k + 1) X.A
theorem getprop_w {a C pp g dx : Addr} {gs : List (Str × V)} {f : Str} {fd : FuncData} {ps : List Str} {k : Nat} {fm : FM} {pins : List (Addr × Obj)} {s : Shared} {Q : VK} {b : Bool} {μ : List Addr} {M : Mem} {d : D} (I : Inv X pins σ H s) (ea : H a = some (.ins C dx gs)) (c : L2.Cls X.K C) (hp : L2.PropOf X.K C f pp g)
    (F : FnG X.prog X.w X.K X.mg X.base k g fd ps fm) (hb : BindG X.K X.mg fd ps 1 [] [.arg 0]) (hr : Sur (k + 1) X.A) (rm : RepM X.K X.mg μ M H) (rv : RepV X.K X.mg μ H d (.ref a)) (h : Wants X.K X.mg W0 (RepV X.K X.mg) (fm [d] M) μ H Q) :
    wpAny (model X.prog X.w) X.A (getAttr (.ref a) f b) (EP X pins σ Q) X.xe s := by
  obtain ⟨mA, O, _, _, _, _⟩ := ins_get I.hok ea
  obtain ⟨od, J, _⟩ := O.look
  obtain ⟨rest, hrec⟩ := hp.rec_
  have I1 := I.tok (s.toks + 1)
  obtain ⟨rs, hbind, hsel⟩ := hb.to { s with toks := s.toks + 1 } [.ref a] [] I1.kIn rfl rfl
  obtain ⟨rw1, r3, q3⟩ := hsel [.ref a] μ H [d] [d] (.cons rfl .nil) (.cons rv .nil) rfl
  have known : (PySem.W.clsIn X.K C).isSome = true := by
    obtain ⟨cd, e, _⟩ := PySem.W.any_some c.hd
    rw [e]; rfl
  refine PySem.W.get_bind I.kIn J (PySem.W.plainGet_of (c.get f)).1 (PySem.W.findObj_data known hp.at_ hp.get hp.tak) (PySem.W.plainGet_of (c.get f)).2 (wpAny_call (PySem.W.prop_get (s := { s with toks := s.toks + 1 }) I.kIn hrec ?_))
  refine codeAny_mono (F.run X.A.in1 X.stack { s with toks := s.toks + 1 } H _ rs rw1 [d] μ M Q hr.in1 I1.env0.in1 hbind r3 hb.len rm q3 h) fun r s' hq => ?_
  match r, hq with
  | .ok (.ret u), hq =>
    obtain ⟨v, H', I3, rv3, q4⟩ := I1.after hq
    show wpAny _ _ (handedOut u) _ _ _
    rw [PySem.W.handedOut_of (handed_of rv3)]
    exact wpAny_pure ⟨v, H', I3, rv3, q4⟩
  | .ok .next, hq => exact False.elim hq
  | .ok .brk, hq => exact False.elim hq
  | .ok .cont, hq => exact False.elim hq
  | .error _, hq => exact False.elim hq
theorem de_attr {oe : Expr} {o : CE} {f : Str} (ho : DE X W T oe o) (G : AttrOk X T f) (hab : attributeBase oe f X.env (eval oe X.env) = eval oe X.env) : DE X W T (.Attribute oe f pos) (.attr o f) := by
  refine ⟨fun pins s σ H Q I ⟨μ, M, env, rm, rs, h⟩ => ?_⟩
  have h : Wants X.K X.mg W (RepV X.K X.mg) (bnd (evE T o env) (fun x => getAt T x f) M) μ H Q := h
  refine attr_of hab (thn (ho.run pins s σ H _ I (tD_bnd rm rs h (f := fun x env => getAt T x f) (Q' := fun v H1 => ∃ d μ1 M1, RepM X.K X.mg μ1 M1 H1 ∧ RepV X.K X.mg μ1 H1 d v ∧ Wants X.K X.mg W (RepV X.K X.mg) (getAt T d f M1) μ1 H1 Q) fun v H1 μ1 M1 d l1 rm1 rs1 rv w => ⟨d, μ1, M1, rm1, rv, w⟩)) fun u s1 ⟨v, H1, I1, r1, d, μ1, M1, rm1, rv, w⟩ => ?_)
  unfold getAt at w
  split at w
  · rename_i n
    split at w
    · rename_i c fs hM
      split at w
      · rename_i ct hct
        cases rv with | @ref _ a hn => ?_
        obtain rfl : u = Value.ref a := r1
        obtain ⟨C, hC, cl, hno, hpr⟩ := G c ct hct
        obtain ⟨dx, gs, ea, rf⟩ := ins_at rm1 hn hM hC
        split at w
        · rename_i fm hfm
          obtain ⟨p, g, fd, ps, k, hp, F, hb, hr⟩ := hpr fm hfm
          exact getprop_w I1 ea cl hp F hb hr rm1 (.ref hn) w.noErr
        · rename_i hnp
          obtain ⟨hf, w⟩ := w.iteN
          split at w
          · rename_i dd hdd
            obtain ⟨v, hv, rvv⟩ := rf.look.1 _ hdd
            exact getattr_ok I1 ea cl (hno hnp hf) hv fun u' s2 I2 ru => ⟨v, H1, I2, ru, w.some (Le.refl _ _) rm1 rvv⟩
          · exact w.none.elim
      · exact w.none.elim
    · exact w.none.elim
  · exact w.none.elim
end
end DL
end
section
set_option Elab.async false
set_option linter.all false
set_option maxRecDepth 100000
set_option maxHeartbeats 2000000
/-! DL, part l: isinstance, targets, statements. -/
namespace DL
open PySem PySem.Spec PyProof.Rows L2
section
variable {α β : Type} {K : PySem.W.Frag} {mg : Str → Option Value} {W : XW}
theorem Wants.rel {rel rel' : List Addr → Hp → α → β → Prop} {x : Option (Except D α × Mem)} {μ : List Addr} {H : Hp} {Q : β → Hp → Prop} (h : Wants K mg W rel x μ H Q) (f : ∀ μ' H' a b, rel' μ' H' a b → rel μ' H' a b) : Wants K mg W rel' x μ H Q := by
  obtain ⟨r, M', e, k⟩ := h
  refine ⟨r, M', e, fun μ' H' l rm => ?_⟩
  have z := k μ' H' l rm
  cases r with
  | error er => exact z
  | ok a => exact fun b hb => z b (f _ _ _ _ hb)
theorem Wants.imp {rel : List Addr → Hp → α → β → Prop} {x : Option (Except D α × Mem)} {μ : List Addr} {H : Hp} {Q Q' : β → Hp → Prop} (h : Wants K mg W rel x μ H Q) (f : ∀ b H', Q b H' → Q' b H') : Wants K mg W rel x μ H Q' := by
  obtain ⟨r, M', e, k⟩ := h
  refine ⟨r, M', e, fun μ' H' l rm => ?_⟩
  have z := k μ' H' l rm
  cases r with
  | error er => exact z
  | ok a => exact fun b hb => f _ _ (z b hb)
theorem bnd_assoc {γ : Type} {m : R α} {f : α → R β} {g : β → R γ} : bnd (bnd m f) g = bnd m fun x => bnd (f x) g := by
  funext M
  unfold bnd
  cases m M with
  | none => rfl
  | some p => obtain ⟨r, M'⟩ := p; cases r <;> rfl
end
section
variable {X : Cx} {W : XW} {T : Tab} {pos p apos : Pos}
/-! ### isinstance -/
structure InsTy (K : PySem.W.Frag) (C : Addr) : Prop where
  cl : L2.Cls K C
  ha : PySem.W.findIn K (.ref C) "__class__" = some (some (.builtin "object.__class__"))
  hn : PySem.W.specialIn K (.builtin "object.__class__") "__get__" = some (some (.builtin "getset_descriptor.__get__"))
  htk : PySem.W.takesIn K (.builtin "object.__class__") = some true
  hm : PySem.W.mroIn K C (.type "object") = some true
/-- what isinstance says of the text's instances and of the built-in types -/
structure IsiB (X : Cx) (T : Tab) (n : String) : Prop where
  non : kitB "NoneType" n = some false
  bl : kitB "bool" n = some (n == "bool" || n == "int")
  int : kitB "int" n = some (n == "int")
  str : kitB "str" n = some (n == "str")
  tup : kitB "tuple" n = some (n == "tuple")
  lst : kitB "list" n = some (n == "list")
  ins : ∀ c ct, T.cls c = some ct → ∀ C, X.mg c = some (.ref C) → InsTy X.K C ∧ PySem.W.kitOne X.K (.ref C) (.type n) = some false
structure IsiC (X : Cx) (T : Tab) (c : Str) (C : Addr) : Prop where
  at_ : X.mg c = some (.ref C)
  tys : ∀ t ∈ ["NoneType", "bool", "int", "str", "tuple", "list"], PySem.W.kitOne X.K (.type t) (.ref C) = some false
  ins : ∀ c' ct, T.cls c' = some ct → ∀ C', X.mg c' = some (.ref C') → InsTy X.K C' ∧ PySem.W.kitOne X.K (.ref C') (.ref C) = some (decide (c' = c))
theorem tyx_ins {K : PySem.W.Frag} {H : Hp} {a C dx : Addr} {fs : List (Str × V)} (t : InsTy K C) (e : H a = some (.ins C dx fs)) : TyX K H (.ref a) (.ref C) := .base (.ins e t.cl t.ha t.hn t.htk t.hm)
theorem tyx_tup {K : PySem.W.Frag} {H : Hp} {a : Addr} {xs : List V} (h : SqT K H a xs) : TyX K H (.ref a) (.type "tuple") := by
  rcases h with (h | ⟨o, h⟩) | ⟨o, its, n, h1, h2, _⟩
  · exact .base (.tup h)
  · exact .fTuple h
  · exact .kTuple h1 h2
theorem tyx_fl {K : PySem.W.Frag} {H : Hp} {a : Addr} {xs : List V} (h : FrL K H a xs) : TyX K H (.ref a) (.type "list") := by
  rcases h with ⟨o, h⟩ | ⟨o, its, n, h1, h2, _⟩
  · exact .base (.frz h)
  · exact .kList h1 h2
theorem isi_tyB {n : String} {μ : List Addr} {M : Mem} {H : Hp} {d : D} {v : V} {b : Bool} (G : IsiB X T n) (rm : RepM X.K X.mg μ M H) (rv : RepV X.K X.mg μ H d v) (ho : insOk T M d = true) (hi : isInst M d n = some b) : ∃ t, TyX X.K H v t ∧ PySem.W.kitOne X.K t (.type n) = some b := by
  cases rv with
  | non => cases hi; exact ⟨_, .base .non, kit_ty G.non⟩
  | bl x => cases hi; exact ⟨_, .base (.bl x), kit_ty G.bl⟩
  | int x => cases hi; exact ⟨_, .base (.int x), kit_ty G.int⟩
  | str x => cases hi; exact ⟨_, .base (.str x), kit_ty G.str⟩
  | tup h r => cases hi; exact ⟨_, tyx_tup h, kit_ty G.tup⟩
  | fl h r => cases hi; exact ⟨_, tyx_fl h, kit_ty G.lst⟩
  | @ref k a hk =>
    have hi : (match M[k]? with | some (.lst _) => some (n == "list") | some (.ins _ _) => some false | none => none) = some b := hi
    split at hi
    · rename_i ds hm
      cases hi
      obtain ⟨vs, h1, _⟩ := rm.obj _ _ _ hk hm
      exact ⟨_, .base (.lst h1), kit_ty G.lst⟩
    · rename_i c fs hm
      cases hi
      have ho : (match M[k]? with | some (.ins c _) => (T.cls c).isSome | _ => true) = true := ho
      rw [hm] at ho
      obtain ⟨ct, hct⟩ := Option.isSome_iff_exists.mp ho
      obtain ⟨C, dx, gs, hC, h1, _⟩ := rm.obj _ _ _ hk hm
      obtain ⟨t, k1⟩ := G.ins c ct hct C hC
      exact ⟨_, tyx_ins t h1, k1⟩
    · cases hi
  | glo _ _ => cases hi
  | bty _ => cases hi
theorem isi_tyC {c : Str} {C : Addr} {μ : List Addr} {M : Mem} {H : Hp} {d : D} {v : V} {b : Bool} (G : IsiC X T c C) (rm : RepM X.K X.mg μ M H) (rv : RepV X.K X.mg μ H d v) (ho : insOk T M d = true) (hi : isCls M d c = some b) : ∃ t, TyX X.K H v t ∧ PySem.W.kitOne X.K t (.ref C) = some b := by
  cases rv with
  | non => cases hi; exact ⟨_, .base .non, G.tys _ (by decide)⟩
  | bl x => cases hi; exact ⟨_, .base (.bl x), G.tys _ (by decide)⟩
  | int x => cases hi; exact ⟨_, .base (.int x), G.tys _ (by decide)⟩
  | str x => cases hi; exact ⟨_, .base (.str x), G.tys _ (by decide)⟩
  | tup h r => cases hi; exact ⟨_, tyx_tup h, G.tys _ (by decide)⟩
  | fl h r => cases hi; exact ⟨_, tyx_fl h, G.tys _ (by decide)⟩
  | @ref k a hk =>
    have hi : (match M[k]? with | some (.lst _) => some false | some (.ins c' _) => some (decide (c' = c)) | none => none) = some b := hi
    have ho : (match M[k]? with | some (.ins c _) => (T.cls c).isSome | _ => true) = true := ho
    split at hi
    · rename_i ds hm
      cases hi
      obtain ⟨vs, h1, _⟩ := rm.obj _ _ _ hk hm
      exact ⟨_, .base (.lst h1), G.tys _ (by decide)⟩
    · rename_i c' fs hm
      cases hi
      rw [hm] at ho
      obtain ⟨ct, hct⟩ := Option.isSome_iff_exists.mp ho
      obtain ⟨C', dx, gs, hC, h1, _⟩ := rm.obj _ _ _ hk hm
      obtain ⟨t, k1⟩ := G.ins c' ct hct C' hC
      exact ⟨_, tyx_ins t h1, k1⟩
    · cases hi
  | glo _ _ => cases hi
  | bty _ => cases hi
theorem isiD_w {α β : Type} {rel : List Addr → Hp → α → β → Prop} {c d : D} {f : Bool → R α} {M : Mem} {μ : List Addr} {H : Hp} {Q : β → Hp → Prop} (h : Wants X.K X.mg W rel (bnd (isiD T d c) f M) μ H Q) :
    ∃ b, insOk T M d = true ∧ isAny M d c = some b ∧ Wants X.K X.mg W rel (f b M) μ H Q := by
  obtain ⟨r, M', e, k⟩ := h
  rcases bnd_some e with ⟨z, hi, e⟩ | ⟨t, M1, hi, e⟩
  · exfalso
    unfold isiD at hi
    split at hi
    · split at hi <;> cases hi
    · cases hi
  · unfold isiD at hi
    split at hi
    · rename_i ho
      split at hi
      · rename_i b hb
        cases hi
        exact ⟨_, ho, hb, r, M', e, k⟩
      · cases hi
    · cases hi
theorem de_isiB {ae ce : Expr} {a : CE} {n : String} (hg : Gl X "isinstance") (hm : X.mg "isinstance" = none) (G : IsiB X T n) (ha : DE X W T ae a) (hc : PE X ce (tC (.ty n)))
    (hs2 : starEach [ae, ce] X.env = (false, eval ae X.env) :: starEach [ce] X.env) (hs : starEach [ce] X.env = (false, eval ce X.env) :: starEach [] X.env) (hpl : (backTo pos (starEach [ce] X.env)).any (·.1) = false) :
    DE X W T (.Call (.Name "isinstance" p) [ae, ce] [] pos) (.isi a (.bty n)) :=
  pe_imp (pe_callB call_isi hg hm (by decide +kernel) (pa_cons ha (pa_cons hc pa_nil hs) hs2) (by decide +kernel) (by decide +kernel) hs2 hpl) fun σ H Q ⟨μ, M, env, rm, rs, h⟩ =>
    tD_bnd rm rs h (f := fun x env => bnd (isiD T x (.bty n)) fun b => ret (D.bl b)) fun v H1 μ1 M1 d l1 rm1 rs1 rv w => by
      have w : Wants X.K X.mg W (RepV X.K X.mg) (bnd (isiD T d (.bty n)) (fun b => ret (D.bl b)) M1) μ1 H1 Q := w
      obtain ⟨b, ho, hb, w⟩ := isiD_w w
      obtain ⟨t, h1, h2⟩ := isi_tyB G rm1 rv ho hb
      exact ⟨v, .ty n, t, _, b, rfl, .ty n, h1, h2, Wants.ret (a := D.bl b) w rm1 (RepV.bl b)⟩
theorem de_isiC {ae ce : Expr} {a : CE} {c : Str} {C : Addr} (hg : Gl X "isinstance") (hm : X.mg "isinstance" = none) (G : IsiC X T c C) (ha : DE X W T ae a) (hc : PE X ce (tC (.ref C)))
    (hs2 : starEach [ae, ce] X.env = (false, eval ae X.env) :: starEach [ce] X.env) (hs : starEach [ce] X.env = (false, eval ce X.env) :: starEach [] X.env) (hpl : (backTo pos (starEach [ce] X.env)).any (·.1) = false) :
    DE X W T (.Call (.Name "isinstance" p) [ae, ce] [] pos) (.isi a (.glo c)) :=
  pe_imp (pe_callB call_isi hg hm (by decide +kernel) (pa_cons ha (pa_cons hc pa_nil hs) hs2) (by decide +kernel) (by decide +kernel) hs2 hpl) fun σ H Q ⟨μ, M, env, rm, rs, h⟩ =>
    tD_bnd rm rs h (f := fun x env => bnd (isiD T x (.glo c)) fun b => ret (D.bl b)) fun v H1 μ1 M1 d l1 rm1 rs1 rv w => by
      have w : Wants X.K X.mg W (RepV X.K X.mg) (bnd (isiD T d (.glo c)) (fun b => ret (D.bl b)) M1) μ1 H1 Q := w
      obtain ⟨b, ho, hb, w⟩ := isiD_w w
      obtain ⟨t, h1, h2⟩ := isi_tyC G rm1 rv ho hb
      exact ⟨v, .ref C, t, _, b, rfl, .own C, h1, h2, Wants.ret (a := D.bl b) w rm1 (RepV.bl b)⟩
/-! ### targets -/
def relG (K : PySem.W.Frag) (mg : Str → Option Value) (ns : List Nat) (σ : L2.St) (μ : List Addr) (H : Hp) (env2 : Env) (σ2 : L2.St) : Prop := RepS K mg μ H env2 σ2 ∧ σ2.length = σ.length ∧ ∀ i, i ∉ ns → σ2[i]? = σ[i]?
def tGD (K : PySem.W.Frag) (mg : Str → Option Value) (W : XW) (ns : List Nat) (m : D → Env → R Env) : TG := fun v σ H Q => ∃ μ M d env, RepM K mg μ M H ∧ RepS K mg μ H env σ ∧ RepV K mg μ H d v ∧ Wants K mg W (relG K mg ns σ) (m d env M) μ H Q
def tGsD (K : PySem.W.Frag) (mg : Str → Option Value) (W : XW) (ns : List Nat) (m : List D → Env → R Env) : TGs := fun vs σ H Q => ∃ μ M ds env, RepM K mg μ M H ∧ RepS K mg μ H env σ ∧ RepVs K mg μ H ds vs ∧ Wants K mg W (relG K mg ns σ) (m ds env M) μ H Q
abbrev DG (X : Cx) (W : XW) (T : Tab) (ns : List Nat) (e : Expr) (c : CG) : Prop := PG X e (tGD X.K X.mg W ns (evG T c))
abbrev DGs (X : Cx) (W : XW) (T : Tab) (ns : List Nat) (e : List Expr) (c : CGs) : Prop := PGs X e (tGsD X.K X.mg W ns (evGs T c))
theorem pg_imp {e : Expr} {t t' : TG} (h : PG X e t) (i : ∀ v σ H Q, t' v σ H Q → t v σ H Q) : PG X e t' := ⟨fun pins s σ H v u Q I r q => h.run pins s σ H v u Q I r (i v σ H Q q)⟩
theorem pgs_imp {e : List Expr} {t t' : TGs} (h : PGs X e t) (i : ∀ v σ H Q, t' v σ H Q → t v σ H Q) : PGs X e t' := ⟨fun pins s σ H v u Q I r q => h.run pins s σ H v u Q I r (i v σ H Q q)⟩
theorem dg_nm {i : Nat} {x : Str} (hN : X.N.Nodup) (hi : X.N[i]? = some x) (hx : Loc X.env.scope x) (hf : X.fn x = true ∨ X.env.scope.names.lookup x = some .local) : DG X W T [i] (.Name x pos) (.nm i) :=
  pg_imp (pg_name hN hi hx hf) fun v σ H Q ⟨μ, M, d, env, rm, rs, rv, h⟩ => by
    have h : Wants X.K X.mg W (relG X.K X.mg [i] σ) (ret (env.set i (some d)) M) μ H Q := h
    exact Wants.ret (a := env.set i (some d)) (b := σ.set i (some v)) h rm ⟨rs.set i rv, by rw [List.length_set], fun j hj => by
      rw [List.getElem?_set_ne (by intro e; exact hj (by rw [e]; exact List.mem_singleton.mpr rfl))]⟩
theorem dgs_nil : DGs X W T [] [] .nil :=
  pgs_imp pgs_nil fun v σ H Q ⟨μ, M, ds, env, rm, rs, rv, h⟩ => by
    have h : Wants X.K X.mg W (relG X.K X.mg [] σ) ((if ds.isEmpty = true then ret env else fail) M) μ H Q := h
    obtain ⟨hc, h⟩ := ifT h
    have hc : ds = [] := by simpa using hc
    subst hc
    cases rv
    exact ⟨rfl, Wants.ret (a := env) (b := σ) h rm ⟨rs, rfl, fun _ _ => rfl⟩⟩
theorem dgs_cons {e : Expr} {es : List Expr} {g : CG} {gs : CGs} {n1 n2 : List Nat} (h1 : DG X W T n1 e g) (h2 : DGs X W T n2 es gs) (hs : (assignEach (e :: es) X.env).map (·.2) = assign e X.env :: (assignEach es X.env).map (·.2)) : DGs X W T (n1 ++ n2) (e :: es) (.cons g gs) :=
  pgs_imp (pgs_cons h1 h2 hs) fun v σ H Q ⟨μ, M, ds, env, rm, rs, rv, h⟩ => by
    cases rv with
    | nil => exact absurd (show Wants X.K X.mg W (relG X.K X.mg (n1 ++ n2) σ) (fail M) μ H Q from h) fun z => z.fail
    | @cons d v ds vs r rr =>
      have h : Wants X.K X.mg W (relG X.K X.mg (n1 ++ n2) σ) (bnd (evG T g d env) (fun env2 => evGs T gs ds env2) M) μ H Q := h
      refine ⟨v, vs, rfl, μ, M, d, env, rm, rs, r, ?_⟩
      have z := h.bnd (rel1 := relG X.K X.mg n1 σ)
      obtain ⟨rr', M', e1, k⟩ := z
      refine ⟨rr', M', e1, fun μ' H' l rm' => ?_⟩
      have k' := k μ' H' l rm'
      cases rr' with
      | error er => exact k'
      | ok a =>
        intro σ1 h1
        obtain ⟨μ1, M1, a1, l1, rm1, g1, w⟩ := k' σ1 h1
        refine ⟨μ1, M1, ds, a1, rm1, g1.1, rr.up l1 rm, w.rel fun μ' H' a b hb => ⟨hb.1, hb.2.1.trans g1.2.1, fun i hi => ?_⟩⟩
        rw [hb.2.2 i (fun z => hi (List.mem_append_right _ z)), g1.2.2 i (fun z => hi (List.mem_append_left _ z))]
theorem dg_tup {es : List Expr} {k : Nat} {gs : CGs} {ns : List Nat} (hc : X.calm = true) (h : DGs X W T ns es gs) (hn : (assignEach es X.env).length = gs.len) (hst : (assignEach es X.env).findIdx? (·.1) = none) : DG X W T ns (.Tuple es k pos) (.tup gs) :=
  pg_imp (pg_tup hc h hn hst) fun v σ H Q ⟨μ, M, d, env, rm, rs, rv, h⟩ => by
    cases rv with
    | @tup a vs ds hq r =>
      have h : Wants X.K X.mg W (relG X.K X.mg ns σ) ((if ds.length = gs.len then evGs T gs ds env else fail) M) μ H Q := h
      obtain ⟨hl, h⟩ := ifT h
      exact ⟨a, vs, rfl, hq, by rw [← r.length]; exact hl, μ, M, ds, env, rm, rs, r, h⟩
    | _ => exact absurd (show Wants X.K X.mg W (relG X.K X.mg ns σ) (fail M) μ H Q from h) fun z => z.fail
theorem dg_sub {oe ie : Expr} {o i : CE} (ho : DE X W T oe o) (hi : DE X W T ie i)
    (ha : ∀ v, assign (.Subscript oe ie pos) X.env v = (do
      let ov ← holding [v] (eval oe X.env)
      let iv ← holding [v, ov] (eval ie X.env)
      standAt pos
      holding [v, ov, iv] (setItem ov iv v)
      release [v, ov, iv] [])) : DG X W T [] (.Subscript oe ie pos) (.sub o i) :=
  pg_imp (pg_sub ho hi set_list ha) fun v σ H Q ⟨μ, M, d, env, rm, rs, rv, h⟩ =>
    tD_bnd rm rs h (f := fun x env => bnd (evE T i env) fun y => bnd (setIx x y d) fun _ => ret env) fun v1 H1 μ1 M1 d1 l1 rm1 rs1 rv1 w =>
      tD_bnd rm1 rs1 w (f := fun y env => bnd (setIx d1 y d) fun _ => ret env) fun v2 H2 μ2 M2 d2 l2 rm2 rs2 rv2 w2 => by
        have w2 := w2.bnd (rel1 := fun _ _ _ (_ : Unit) => True)
        have rv := (rv.up l1 rm).up l2 rm1
        have rv1 := rv1.up l2 rm1
        unfold setIx at w2
        split at w2
        · cases rv1 with | @ref _ a hn => ?_
          cases rv2 with | int kk => ?_
          split at w2
          · rename_i ds hM
            split at w2
            · rename_i j hj
              obtain ⟨vs, h1, rr⟩ := rm2.obj _ _ _ hn hM
              have hm := List.mem_of_getElem? hn
              refine ⟨a, vs, _, j, rfl, rfl, h1, by rw [← rr.length]; exact hj, ?_⟩
              have rmw := rm2.write (o := .lst (vs.set j v)) (q := .lst (ds.set j d)) hn ⟨_, upd_same, (rr.up (Le.write hm) rm2).set (rv.up (Le.write hm) rm2) j⟩
              obtain ⟨μ3, M3, _, l3, rm3, _, w3⟩ := w2.some (Le.write hm) rmw (b := ()) trivial
              exact Wants.ret (a := env) (b := σ) w3 rm3 ⟨rs2.up l3 rm2, rfl, fun _ _ => rfl⟩
            · exact w2.none.elim
          · exact w2.none.elim
        · exact w2.none.elim
/-- attributes that may be stored -/
def SetOk (X : Cx) (T : Tab) (f : Str) : Prop := ∀ c ct, T.cls c = some ct → ct.fld.contains f = true → ∀ C, X.mg c = some (.ref C) → L2.Cls X.K C ∧ L2.NoAttr X.K C f
theorem repF_put {mg : Str → Option Value} {K : PySem.W.Frag} {μ : List Addr} {H : Hp} {f : Str} {d : D} {v : V} (r : RepV K mg μ H d v) : ∀ {fs : List (Str × D)} {gs : List (Str × V)}, RepF K mg μ H fs gs → RepF K mg μ H (DL.putF f d fs) (L2.putF f v gs)
  | _, _, .nil => .cons r .nil
  | _, _, @RepF.cons _ _ _ _ g d' v' ds vs h q => by
    show RepF K mg μ H (if g = f then (g, d) :: ds else (g, d') :: DL.putF f d ds) (if g = f then (g, v) :: vs else (g, v') :: L2.putF f v vs)
    by_cases e : g = f
    · rw [if_pos e, if_pos e]; exact .cons r q
    · rw [if_neg e, if_neg e]; exact .cons h (repF_put r q)
theorem repF_len {mg : Str → Option Value} {K : PySem.W.Frag} {μ : List Addr} {H : Hp} : ∀ {fs : List (Str × D)} {gs : List (Str × V)}, RepF K mg μ H fs gs → fs.length = gs.length
  | _, _, .nil => rfl
  | _, _, .cons _ q => congrArg Nat.succ (repF_len q)
theorem dg_att {oe : Expr} {o : CE} {f : Str} (ho : DE X W T oe o) (G : SetOk X T f) : DG X W T [] (.Attribute oe f pos) (.att o f) := by
  refine ⟨fun pins s σ H v u Q I r ⟨μ, M, d, env, rm, rs, rv, h⟩ => ?_⟩
  have ea : assign (.Attribute oe f pos) X.env u = (do
    let ov ← holding [u] (eval oe X.env)
    standAt pos.atName
    holding [u, ov] (setAttr ov f u)
    release [u, ov] []) := by rw [assign]
  rw [ea]
  have h : Wants X.K X.mg W (relG X.K X.mg [] σ) (bnd (evE T o env) (fun x => bnd (setAt T x f d) fun _ => ret env) M) μ H Q := h
  refine wpAny_bind (wpAny_holding (thn (ho.run pins s σ H _ I (tD_bnd rm rs h (f := fun x env => bnd (setAt T x f d) fun _ => ret env) (Q' := fun v1 H1 => ∃ d1 μ1 M1, Le μ H μ1 H1 ∧ RepM X.K X.mg μ1 M1 H1 ∧ RepS X.K X.mg μ1 H1 env σ ∧ RepV X.K X.mg μ1 H1 d1 v1 ∧ Wants X.K X.mg W (relG X.K X.mg [] σ) (bnd (setAt T d1 f d) (fun _ => ret env) M1) μ1 H1 Q)
    fun v1 H1 μ1 M1 d1 l1 rm1 rs1 rv1 w => ⟨d1, μ1, M1, l1, rm1, rs1, rv1, w⟩)) fun ov s1 ⟨v1, H1, I1, r1, d1, μ1, M1, l1, rm1, rs1, rv1, w⟩ => ?_))
  refine wpAny_bind (wpAny_standAt (wpAny_bind (wpAny_holding ?_)))
  have w := w.bnd (rel1 := fun _ _ _ (_ : Unit) => True)
  have rv := rv.up l1 rm
  unfold setAt at w
  split at w
  · rename_i n
    cases rv1 with | @ref _ a hn => ?_
    split at w
    · rename_i c fs hM
      split at w
      · rename_i ct hct
        obtain ⟨⟨hf, hl⟩, w⟩ := w.iteN
        obtain ⟨C, dx, gs, hC, h1, rf⟩ := rm1.obj _ _ _ hn hM
        obtain ⟨cl, na⟩ := G c ct hct hf C hC
        obtain rfl : ov = Value.ref a := r1
        have hm := List.mem_of_getElem? hn
        refine setattr_ok I1 h1 cl na (by rw [← repF_len rf]; exact hl) r fun s2 I2 => wpAny_release ?_
        have rmw := rm1.write (o := .ins C dx (L2.putF f v gs)) (q := .ins c (DL.putF f d fs)) hn ⟨C, dx, _, hC, upd_same, repF_put (rv.up (Le.write hm) rm1) (rf.mono (Le.write hm) rm1.sto)⟩
        obtain ⟨μ3, M3, _, l3, rm3, _, w3⟩ := w.some (Le.write hm) rmw (b := ()) trivial
        exact ⟨σ, _, I2, Wants.ret (a := env) (b := σ) w3 rm3 ⟨rs1.up l3 rm1, rfl, fun _ _ => rfl⟩⟩
      · exact w.none.elim
    · exact w.none.elim
  · exact w.none.elim
end
end DL
end
section
set_option Elab.async false
set_option linter.all false
set_option maxRecDepth 100000
set_option maxHeartbeats 2000000
/-! DL, part m: statements, loops, comprehensions. -/
namespace DL
open PySem PySem.Spec PyProof.Rows L2
section
variable {α β : Type} {K : PySem.W.Frag} {mg : Str → Option Value} {W : XW}
theorem Wants.bndK {γ δ : Type} {rel1 : List Addr → Hp → α → β → Prop} {rel2 : List Addr → Hp → γ → δ → Prop} {m : R α} {f : α → R γ} {M : Mem} {μ : List Addr} {H : Hp} {Q : δ → Hp → Prop} {Q' : β → Hp → Prop} (h : Wants K mg W rel2 (DL.bnd m f M) μ H Q)
    (k : ∀ a b μ1 M1 H1, Le μ H μ1 H1 → RepM K mg μ1 M1 H1 → rel1 μ1 H1 a b → Wants K mg W rel2 (f a M1) μ1 H1 Q → Q' b H1) : Wants K mg W rel1 (m M) μ H Q' := by
  obtain ⟨r, M', e, q⟩ := h.bnd (rel1 := rel1)
  refine ⟨r, M', e, fun μ' H' l rm => ?_⟩
  have z := q μ' H' l rm
  cases r with
  | error er => exact z
  | ok a => exact fun b hb => let ⟨μ1, M1, a1, l1, rm1, r1, w⟩ := z b hb; k a1 b μ1 M1 H' l1 rm1 r1 w
end
inductive FlV where | nx (σ : L2.St) | rt (v : V) | bk (σ : L2.St) | ct (σ : L2.St)
def RepFl (K : PySem.W.Frag) (mg : Str → Option Value) (μ : List Addr) (H : Hp) : Fl → FlV → Prop
  | .nx e, .nx σ => RepS K mg μ H e σ
  | .rt d, .rt v => RepV K mg μ H d v
  | .bk e, .bk σ => RepS K mg μ H e σ
  | .ct e, .ct σ => RepS K mg μ H e σ
  | _, _ => False
def endQ (E : Ends) : FlV → Hp → Prop
  | .nx σ, H => E.nx σ H
  | .rt v, H => E.rt v H
  | .bk σ, H => E.bk σ H
  | .ct σ, H => E.ct σ H
def tSD (K : PySem.W.Frag) (mg : Str → Option Value) (W : XW) (m : Env → R Fl) : TS := fun E σ H => ∃ μ M env, RepM K mg μ M H ∧ RepS K mg μ H env σ ∧ Wants K mg W (RepFl K mg) (m env M) μ H (endQ E)
abbrev DS (X : Cx) (W : XW) (T : Tab) (s : Stmt) (c : CS) : Prop := PS X s (tSD X.K X.mg W (evS T c))
abbrev DSs (X : Cx) (W : XW) (T : Tab) (s : List Stmt) (c : CSs) : Prop := PSs X s (tSD X.K X.mg W (evSs T c))
section
variable {X : Cx} {W : XW} {T : Tab} {pos p : Pos}
theorem nx_w {E : Ends} {e : Env} {σ : L2.St} {M : Mem} {μ : List Addr} {H : Hp} (w : Wants X.K X.mg W (RepFl X.K X.mg) (ret (Fl.nx e) M) μ H (endQ E)) (rm : RepM X.K X.mg μ M H) (r : RepS X.K X.mg μ H e σ) : E.nx σ H := Wants.ret (a := Fl.nx e) (b := FlV.nx σ) w rm r
theorem ct_w {E : Ends} {e : Env} {σ : L2.St} {M : Mem} {μ : List Addr} {H : Hp} (w : Wants X.K X.mg W (RepFl X.K X.mg) (ret (Fl.ct e) M) μ H (endQ E)) (rm : RepM X.K X.mg μ M H) (r : RepS X.K X.mg μ H e σ) : E.ct σ H := Wants.ret (a := Fl.ct e) (b := FlV.ct σ) w rm r
theorem bk_w {E : Ends} {e : Env} {σ : L2.St} {M : Mem} {μ : List Addr} {H : Hp} (w : Wants X.K X.mg W (RepFl X.K X.mg) (ret (Fl.bk e) M) μ H (endQ E)) (rm : RepM X.K X.mg μ M H) (r : RepS X.K X.mg μ H e σ) : E.bk σ H := Wants.ret (a := Fl.bk e) (b := FlV.bk σ) w rm r
theorem rt_w {E : Ends} {d : D} {v : V} {M : Mem} {μ : List Addr} {H : Hp} (w : Wants X.K X.mg W (RepFl X.K X.mg) (ret (Fl.rt d) M) μ H (endQ E)) (rm : RepM X.K X.mg μ M H) (r : RepV X.K X.mg μ H d v) : E.rt v H := Wants.ret (a := Fl.rt d) (b := FlV.rt v) w rm r
theorem dss_nil : DSs X W T [] .nil := pss_imp pss_nil fun E σ H ⟨μ, M, env, rm, rs, h⟩ => nx_w h rm rs
theorem dss_cons {s : Stmt} {ss : List Stmt} {c : CS} {cs : CSs} (h1 : DS X W T s c) (h2 : DSs X W T ss cs) : DSs X W T (s :: ss) (.cons c cs) :=
  pss_imp (pss_cons h1 h2) fun E σ H ⟨μ, M, env, rm, rs, h⟩ => by
    refine ⟨μ, M, env, rm, rs, Wants.bndK h fun a b μ1 M1 H1 l1 rm1 r w => ?_⟩
    match a, b, r, w with
    | .nx e, .nx σ', r, w => exact ⟨μ1, M1, e, rm1, r, w⟩
    | .rt d, .rt v, r, w => exact rt_w (E := E) w rm1 r
    | .bk e, .bk σ', r, w => exact bk_w (E := E) w rm1 r
    | .ct e, .ct σ', r, w => exact ct_w (E := E) w rm1 r
theorem ds_pass : DS X W T (.Pass pos) .pass := ps_imp ps_pass fun E σ H ⟨μ, M, env, rm, rs, h⟩ => nx_w h rm rs
theorem ds_brk : DS X W T (.Break pos) .brk := ps_imp ps_break fun E σ H ⟨μ, M, env, rm, rs, h⟩ => bk_w h rm rs
theorem ds_cont : DS X W T (.Continue pos) .cont := ps_imp ps_continue fun E σ H ⟨μ, M, env, rm, rs, h⟩ => ct_w h rm rs
theorem ds_doc {x : Str} {j : Nat} {pos' : Pos} : DS X W T (.Expr (.Constant (.str x) j pos) pos') .pass := ps_imp ps_doc fun E σ H ⟨μ, M, env, rm, rs, h⟩ => nx_w h rm rs
theorem ds_stuck {s : Stmt} : DS X W T s .stuck := ps_imp ps_never fun E σ H ⟨μ, M, env, rm, rs, h⟩ => by
  have h : Wants X.K X.mg W (RepFl X.K X.mg) (fail M) μ H (endQ E) := h
  exact h.fail
theorem ds_ex {e : Expr} {c : CE} (he : DE X W T e c) (hs : swapsWith e none pos.line X.env = pure false) : DS X W T (.Expr e pos) (.ex c) :=
  ps_imp (ps_expr he hs) fun E σ H ⟨μ, M, env, rm, rs, h⟩ => tD_bnd rm rs h (f := fun _ env => ret (Fl.nx env)) fun v H1 μ1 M1 d l1 rm1 rs1 rv w => nx_w w rm1 rs1
theorem ds_rt {e : Expr} {c : CE} (he : DE X W T e c) : DS X W T (.Return (some e) pos) (.rt c) :=
  ps_imp (ps_ret he) fun E σ H ⟨μ, M, env, rm, rs, h⟩ => tD_bnd rm rs h (f := fun d _ => ret (Fl.rt d)) fun v H1 μ1 M1 d l1 rm1 rs1 rv w => rt_w w rm1 rv
theorem ds_rtN : DS X W T (.Return none pos) .rtN := ps_imp ps_retN fun E σ H ⟨μ, M, env, rm, rs, h⟩ => rt_w h rm .non
theorem ds_if {e : Expr} {a b : List Stmt} {t : CT} {ca cb : CSs} (ht : DT X W T e t) (ha : DSs X W T a ca) (hb : DSs X W T b cb) : DS X W T (.If e a b pos) (.cond t ca cb) :=
  ps_imp (ps_if ht ha hb) fun E σ H ⟨μ, M, env, rm, rs, h⟩ => tT_bnd rm rs h (f := fun k env => if k = true then evSs T ca env else evSs T cb env) fun k H1 μ1 M1 l1 rm1 rs1 w => by
    cases k with
    | true => exact ⟨μ1, M1, env, rm1, rs1, w⟩
    | false => exact ⟨μ1, M1, env, rm1, rs1, w⟩
theorem ds_asg {tg e : Expr} {g : CG} {c : CE} {ns : List Nat} (he : DE X W T e c) (hg : DG X W T ns tg g) (hs : swapsWithSole [tg] e pos.line X.env = pure false) (hw : swappedStores [tg] e X.env = pure none)
    (h1 : (assignEach [tg] X.env).map (·.2) = [assign tg X.env]) : DS X W T (.Assign [tg] e pos) (.asg g c) :=
  ps_imp (ps_asg he hg hs hw h1) fun E σ H ⟨μ, M, env, rm, rs, h⟩ => tD_bnd rm rs h (f := fun d env => bnd (evG T g d env) fun env2 => ret (Fl.nx env2)) fun v H1 μ1 M1 d l1 rm1 rs1 rv w =>
    ⟨μ1, M1, d, env, rm1, rs1, rv, w.bndK fun a b μ2 M2 H2 l2 rm2 r w => nx_w w rm2 r.1⟩
/-- a, b = x, y of plain local names -/
theorem ds_par {i j : Nat} {x y : Str} {a b : Expr} {as : CEs} {px py pt : Pos} {kt k2 pt2} (hc : X.calm = true) (hN : X.N.Nodup) (hi : X.N[i]? = some x) (hj : X.N[j]? = some y) (hij : i ≠ j)
    (hx : X.env.scope.names.lookup x = some .local) (hy : X.env.scope.names.lookup y = some .local) (ha : DEs X W T [a, b] as)
    (hw : swappedStores [.Tuple [.Name x px, .Name y py] kt pt] (.Tuple [a, b] k2 pt2) X.env = pure (some [x, y]))
    (hs : swapsWithSole [.Tuple [.Name x px, .Name y py] kt pt] (.Tuple [a, b] k2 pt2) pos.line X.env = pure false) :
    DS X W T (.Assign [.Tuple [.Name x px, .Name y py] kt pt] (.Tuple [a, b] k2 pt2) pos) (.asg (.tup (.cons (.nm i) (.cons (.nm j) .nil))) (.tup as)) :=
  ps_imp (ps_par hc hN hi hj hij hx hy ha hw hs) fun E σ H ⟨μ, M, env, rm, rs, h⟩ => by
    have h : Wants X.K X.mg W (RepFl X.K X.mg) (bnd (bnd (evEs T as env) tupD) (fun d => bnd (evG T (.tup (.cons (.nm i) (.cons (.nm j) .nil))) d env) fun env2 => ret (Fl.nx env2)) M) μ H (endQ E) := h
    rw [bnd_assoc] at h
    refine tA_bnd rm rs h (f := fun ds env => bnd (tupD ds) fun d => bnd (evG T (.tup (.cons (.nm i) (.cons (.nm j) .nil))) d env) fun env2 => ret (Fl.nx env2)) fun vs H1 μ1 M1 ds l1 rm1 rs1 rvs w => ?_
    unfold tupD at w
    by_cases hz : ds.length ≤ sizeLine
    · rw [if_pos hz] at w
      have w : Wants X.K X.mg W (RepFl X.K X.mg) (bnd (if ds.length = 2 then evGs T (.cons (.nm i) (.cons (.nm j) .nil)) ds env else fail) (fun env2 => ret (Fl.nx env2)) M1) μ1 H1 (endQ E) := w
      by_cases hl : ds.length = 2
      · rw [if_pos hl] at w
        match ds, rvs, hl, w with
        | [d1, d2], .cons r1 (.cons r2 .nil), _, w =>
          exact ⟨_, _, rfl, nx_w w rm1 ((rs1.set i r1).set j r2)⟩
      · rw [if_neg hl] at w
        obtain ⟨_, _, z, _⟩ := w
        cases z
    · rw [if_neg hz] at w
      obtain ⟨_, _, z, _⟩ := w
      cases z
theorem ds_par3 {i j l : Nat} {x y z : Str} {a b c : Expr} {as : CEs} {px py pz pt : Pos} {kt k2 pt2} (hc : X.calm = true) (hN : X.N.Nodup) (hi : X.N[i]? = some x) (hj : X.N[j]? = some y) (hl : X.N[l]? = some z) (hij : i ≠ j) (hil : i ≠ l) (hjl : j ≠ l)
    (hx : X.env.scope.names.lookup x = some .local) (hy : X.env.scope.names.lookup y = some .local) (hz : X.env.scope.names.lookup z = some .local) (ha : DEs X W T [a, b, c] as)
    (hw : swappedStores [.Tuple [.Name x px, .Name y py, .Name z pz] kt pt] (.Tuple [a, b, c] k2 pt2) X.env = pure (some [x, y, z]))
    (hs : swapsWithSole [.Tuple [.Name x px, .Name y py, .Name z pz] kt pt] (.Tuple [a, b, c] k2 pt2) pos.line X.env = pure false) :
    DS X W T (.Assign [.Tuple [.Name x px, .Name y py, .Name z pz] kt pt] (.Tuple [a, b, c] k2 pt2) pos) (.asg (.tup (.cons (.nm i) (.cons (.nm j) (.cons (.nm l) .nil)))) (.tup as)) :=
  ps_imp (ps_par3 hc hN hi hj hl hij hil hjl hx hy hz ha hw hs) fun E σ H ⟨μ, M, env, rm, rs, h⟩ => by
    have h : Wants X.K X.mg W (RepFl X.K X.mg) (bnd (bnd (evEs T as env) tupD) (fun d => bnd (evG T (.tup (.cons (.nm i) (.cons (.nm j) (.cons (.nm l) .nil)))) d env) fun env2 => ret (Fl.nx env2)) M) μ H (endQ E) := h
    rw [bnd_assoc] at h
    refine tA_bnd rm rs h (f := fun ds env => bnd (tupD ds) fun d => bnd (evG T (.tup (.cons (.nm i) (.cons (.nm j) (.cons (.nm l) .nil)))) d env) fun env2 => ret (Fl.nx env2)) fun vs H1 μ1 M1 ds l1 rm1 rs1 rvs w => ?_
    unfold tupD at w
    by_cases hz : ds.length ≤ sizeLine
    · rw [if_pos hz] at w
      have w : Wants X.K X.mg W (RepFl X.K X.mg) (bnd (if ds.length = 3 then evGs T (.cons (.nm i) (.cons (.nm j) (.cons (.nm l) .nil))) ds env else fail) (fun env2 => ret (Fl.nx env2)) M1) μ1 H1 (endQ E) := w
      by_cases hl : ds.length = 3
      · rw [if_pos hl] at w
        match ds, rvs, hl, w with
        | [d1, d2, d3], .cons r1 (.cons r2 (.cons r3 .nil)), _, w =>
          exact ⟨_, _, _, rfl, nx_w w rm1 (((rs1.set i r1).set j r2).set l r3)⟩
      · rw [if_neg hl] at w
        obtain ⟨_, _, z, _⟩ := w
        cases z
    · rw [if_neg hz] at w
      obtain ⟨_, _, z, _⟩ := w
      cases z
/-! ### while -/
theorem ds_while {e : Expr} {b : List Stmt} {t : CT} {cb : CSs} (hp : PassesOwn (model X.prog X.w) X.A X.env X.xe) (ht : DT X W T e t) (hb : DSs X W T b cb) : DS X W T (.While e b [] pos) (.whileS t cb) :=
  ps_imp (ps_while hp ht hb) fun E σ H ⟨μ, M, env, rm, rs, h⟩ => by
    refine ⟨fun n σ H => ∃ μ M env, RepM X.K X.mg μ M H ∧ RepS X.K X.mg μ H env σ ∧ Wants X.K X.mg W (RepFl X.K X.mg) (whileL (evT T t) (evSs T cb) n env M) μ H (endQ E), ⟨T.fuel, μ, M, env, rm, rs, h⟩, ?_⟩
    rintro n σ H ⟨μ, M, env, rm, rs, h⟩
    match n, h with
    | 0, h => exact (show False from Wants.fail (M := M) (rel := RepFl X.K X.mg) h).elim
    | n + 1, h =>
      refine tT_bnd rm rs h (f := fun k env => if k = true then bnd (evSs T cb env) fun f => match f with
        | .nx e => whileL (evT T t) (evSs T cb) n e
        | .ct e => whileL (evT T t) (evSs T cb) n e
        | .bk e => ret (.nx e)
        | .rt d => ret (.rt d)
      else ret (.nx env)) fun k H1 μ1 M1 l1 rm1 rs1 w => ?_
      cases k with
      | false => exact nx_w (E := E) w rm1 rs1
      | true =>
        refine ⟨fun σ H => ∃ μ M env, RepM X.K X.mg μ M H ∧ RepS X.K X.mg μ H env σ ∧ Wants X.K X.mg W (RepFl X.K X.mg) (whileL (evT T t) (evSs T cb) n env M) μ H (endQ E), fun σ' H' q => ⟨n, Nat.lt_succ_self _, q⟩, μ1, M1, env, rm1, rs1, Wants.bndK w fun a b μ2 M2 H2 l2 rm2 r w => ?_⟩
        match a, b, r, w with
        | .nx e, .nx σ', r, w => exact ⟨μ2, M2, e, rm2, r, w⟩
        | .ct e, .ct σ', r, w => exact ⟨μ2, M2, e, rm2, r, w⟩
        | .bk e, .bk σ', r, w => exact nx_w (E := E) w rm2 r
        | .rt d, .rt v, r, w => exact rt_w (E := E) w rm2 r
/-! ### what is walked -/
def WalkOk (K : PySem.W.Frag) (mg : Str → Option Value) (J : It) (g : Option (Nat × List D)) (ds : List D) (μ0 : List Addr) (H0 : Hp) : Prop := ∀ μ M H, Le μ0 H0 μ H → RepM K mg μ M H → chk g M = some (.ok (), M) →
  (∀ i, ds.length ≤ i → J.stop i H) ∧ ∀ i d, ds[i]? = some d → J.go i H ∧ ∀ x H', J.yld i H x H' → Le μ H μ H' ∧ RepM K mg μ M H' ∧ RepV K mg μ H' d x
def relI (K : PySem.W.Frag) (mg : Str → Option Value) (μ : List Addr) (H : Hp) (q : List D × Option (Nat × List D)) (J : It) : Prop := WalkOk K mg J q.2 q.1 μ H
def tID (K : PySem.W.Frag) (mg : Str → Option Value) (W : XW) (m : Env → R (List D × Option (Nat × List D))) : TI := fun σ H R => ∃ μ M env, RepM K mg μ M H ∧ RepS K mg μ H env σ ∧ Wants K mg W (relI K mg) (m env M) μ H R
abbrev DI (X : Cx) (W : XW) (T : Tab) (tg e : Expr) (c : CI) : Prop := PI X tg e (tID X.K X.mg W (evI T c))
theorem pi_imp {tg e : Expr} {t t' : TI} (h : PI X tg e t) (i : ∀ σ H R, t' σ H R → t σ H R) : PI X tg e t' := ⟨fun pins s σ H R I q => h.run pins s σ H R I (i σ H R q)⟩
theorem pi_or {tg e : Expr} {t t' : TI} (h : PI X tg e t) (h' : PI X tg e t') : PI X tg e (fun σ H R => t σ H R ∨ t' σ H R) := ⟨fun pins s σ H R I q => q.elim (h.run pins s σ H R I) (h'.run pins s σ H R I)⟩
theorem chk_w {α β : Type} {rel : List Addr → Hp → α → β → Prop} {g : Option (Nat × List D)} {f : Unit → R α} {M : Mem} {μ : List Addr} {H : Hp} {Q : β → Hp → Prop} (h : Wants X.K X.mg W rel (bnd (chk g) f M) μ H Q) : chk g M = some (.ok (), M) ∧ Wants X.K X.mg W rel (f () M) μ H Q := by
  obtain ⟨r, M', e, k⟩ := h
  have key : ∀ {r : Except D Unit} {M1 : Mem}, chk g M = some (r, M1) → r = .ok () ∧ M1 = M := by
    intro r M1 z
    unfold chk at z
    split at z
    · cases z; exact ⟨rfl, rfl⟩
    · split at z
      · split at z
        · cases z; exact ⟨rfl, rfl⟩
        · cases z
      · cases z
  rcases bnd_some e with ⟨z, hi, e⟩ | ⟨t, M1, hi, e⟩
  · cases (key hi).1
  · obtain ⟨_, e2⟩ := key hi
    rw [e2] at hi e
    exact ⟨hi, r, M', e, k⟩
theorem walk_tup {μ : List Addr} {M : Mem} {H : Hp} {a : Addr} {vs : List V} {ds : List D} (rm : RepM X.K X.mg μ M H) (hq : SqT X.K H a vs) (r : RepVs X.K X.mg μ H ds vs) : WalkOk X.K X.mg (Itt X.K a) none ds μ H := by
  intro μ1 M1 H1 l rm1 _
  have hq1 := l.sqT rm.sto hq
  have r1 := r.up l rm
  refine ⟨fun i hi => ⟨vs, hq1, by rw [← r.length]; exact hi⟩, fun i d hd => ?_⟩
  obtain ⟨v, hv, rv⟩ := r1.get hd
  refine ⟨⟨vs, v, hq1, hv⟩, fun x H' y => ?_⟩
  obtain ⟨e, y⟩ := y
  subst e
  have := y vs hq1
  rw [hv] at this
  cases this
  exact ⟨Le.refl _ _, rm1, rv⟩
theorem walk_fl {μ : List Addr} {M : Mem} {H : Hp} {a : Addr} {vs : List V} {ds : List D} (rm : RepM X.K X.mg μ M H) (hq : FrL X.K H a vs) (r : RepVs X.K X.mg μ H ds vs) : WalkOk X.K X.mg (Itl X.K a) none ds μ H := by
  intro μ1 M1 H1 l rm1 _
  have hq1 := (l.frL rm.sto hq).sq
  have r1 := r.up l rm
  refine ⟨fun i hi => ⟨vs, hq1, by rw [← r.length]; exact hi⟩, fun i d hd => ?_⟩
  obtain ⟨v, hv, rv⟩ := r1.get hd
  refine ⟨⟨vs, v, hq1, hv⟩, fun x H' y => ?_⟩
  obtain ⟨e, y⟩ := y
  subst e
  have := y vs hq1
  rw [hv] at this
  cases this
  exact ⟨Le.refl _ _, rm1, rv⟩
theorem chk_at {n : Nat} {ds : List D} {M : Mem} (h : chk (some (n, ds)) M = some (.ok (), M)) : M[n]? = some (.lst ds) := by
  unfold chk at h
  dsimp only at h
  split at h
  · rename_i es he
    split at h
    · rename_i hb
      rw [he, D.eqs_of _ _ hb]
    · cases h
  · cases h
theorem walk_ref {μ : List Addr} {H : Hp} {n : Nat} {a : Addr} {ds : List D} (hn : μ[n]? = some a) : WalkOk X.K X.mg (Itl X.K a) (some (n, ds)) ds μ H := by
  intro μ1 M1 H1 l rm1 hc
  obtain ⟨vs, h1, r1⟩ := rm1.obj n a _ (l.at hn) (chk_at hc)
  have hq1 : SqL X.K H1 a vs := SqL.of h1
  refine ⟨fun i hi => ⟨vs, hq1, by rw [← r1.length]; exact hi⟩, fun i d hd => ?_⟩
  obtain ⟨v, hv, rv⟩ := r1.get hd
  refine ⟨⟨vs, v, hq1, hv⟩, fun x H' y => ?_⟩
  obtain ⟨e, y⟩ := y
  subst e
  have := y vs hq1
  rw [hv] at this
  cases this
  exact ⟨Le.refl _ _, rm1, rv⟩
theorem walk_str {μ : List Addr} {H : Hp} {z : Str} : WalkOk X.K X.mg (Its z) none (z.cps.toList.map fun c => .str ⟨#[c]⟩) μ H := by
  intro μ1 M1 H1 l rm1 _
  refine ⟨fun i hi => (by simpa using hi : z.cps.size ≤ i), fun i d hd => ?_⟩
  rw [List.getElem?_map] at hd
  cases hz : z.cps.toList[i]? with
  | none => rw [hz] at hd; cases hd
  | some c =>
    rw [hz] at hd
    cases hd
    have hz' : z.cps[i]? = some c := by simpa using hz
    have hlt := (Array.getElem?_eq_some_iff.mp hz').1
    refine ⟨hlt, fun x H' y => ?_⟩
    obtain ⟨e, c', h1, h2⟩ := y
    subst e
    rw [hz'] at h1
    cases h1
    subst h2
    exact ⟨Le.refl _ _, rm1, .str _⟩
/-- tD_bnd with a fact of the value -/
theorem tD_bndP {α β : Type} {rel : List Addr → Hp → α → β → Prop} {c : CE} {σ : L2.St} {H : Hp} {f : D → Env → R α} {Q : β → Hp → Prop} {μ : List Addr} {M : Mem} {env : Env} (P : D → Prop) (rm : RepM X.K X.mg μ M H) (rs : RepS X.K X.mg μ H env σ)
    (h : Wants X.K X.mg W rel (bnd (evE T c env) (fun d => f d env) M) μ H Q) (hP : ∀ a M', evE T c env M = some (.ok a, M') → P a) {Q' : VK} (k : ∀ v H1 μ1 M1 d, Le μ H μ1 H1 → RepM X.K X.mg μ1 M1 H1 → RepS X.K X.mg μ1 H1 env σ → RepV X.K X.mg μ1 H1 d v → P d → Wants X.K X.mg W rel (f d env M1) μ1 H1 Q → Q' v H1) : tD X.K X.mg W (evE T c) σ H Q' :=
  ⟨μ, M, env, rm, rs, Wants.also P hP (Wants.bndK h fun a b μ1 M1 H1 l1 rm1 r w => k b H1 μ1 M1 a l1 rm1 (rs.up l1 rm) r.2 r.1 w)⟩
theorem di_of {tg e : Expr} {c : CE} (he : DE X W T e c) : DI X W T tg e (.of c) :=
  pi_imp (pi_or (pi_str he) (pi_or (pi_tup he) (pi_list he))) fun σ H R ⟨μ, M, env, rm, rs, h⟩ => by
    have h : Wants X.K X.mg W (relI X.K X.mg) (bnd (evE T c env) itemsOf M) μ H R := h
    have h' := h
    obtain ⟨r, M', e, k⟩ := h'
    rcases bnd_some e with ⟨z, hi, e⟩ | ⟨d, M1, hi, e⟩
    · refine .inl (tD_bndP (fun _ => False) rm rs h (f := fun x env => itemsOf x) (fun a M' z => ?_) fun v H1 μ1 M1 d l1 rm1 rs1 rv hP w => hP.elim)
      rw [hi] at z
      cases z
    · have hP : ∀ a M', evE T c env M = some (.ok a, M') → a = d := fun a M' z => by
        rw [hi] at z
        cases z
        rfl
      cases d with
      | str x =>
        refine .inl (tD_bndP (fun a => a = .str x) rm rs h (f := fun x env => itemsOf x) hP fun v H1 μ1 M1 d l1 rm1 rs1 rv hd w => ?_)
        subst hd
        cases rv
        exact ⟨x, rfl, Wants.some (a := (_, none)) w (Le.refl _ _) rm1 walk_str⟩
      | tup ds =>
        refine .inr (.inl (tD_bndP (fun a => a = .tup ds) rm rs h (f := fun x env => itemsOf x) hP fun v H1 μ1 M1 d l1 rm1 rs1 rv hd w => ?_))
        subst hd
        cases rv with | tup hq r => ?_
        exact ⟨_, rfl, ⟨_, hq⟩, Wants.some (a := (ds, none)) w (Le.refl _ _) rm1 (walk_tup rm1 hq r)⟩
      | fl ds =>
        refine .inr (.inr (tD_bndP (fun a => a = .fl ds) rm rs h (f := fun x env => itemsOf x) hP fun v H1 μ1 M1 d l1 rm1 rs1 rv hd w => ?_))
        subst hd
        cases rv with | fl hq r => ?_
        exact ⟨_, rfl, ⟨_, hq.sq⟩, Wants.some (a := (ds, none)) w (Le.refl _ _) rm1 (walk_fl rm1 hq r)⟩
      | ref n =>
        refine .inr (.inr (tD_bndP (fun a => a = .ref n) rm rs h (f := fun x env => itemsOf x) hP fun v H1 μ1 M1 d l1 rm1 rs1 rv hd w => ?_))
        subst hd
        cases rv with | ref hn => ?_
        have w : Wants X.K X.mg W (relI X.K X.mg) (match M1[n]? with | some (.lst ds) => some (.ok (ds, some (n, ds)), M1) | _ => none) μ1 H1 R := w
        split at w
        · rename_i ds hM
          obtain ⟨vs, h1, r1⟩ := rm1.obj n _ _ hn hM
          exact ⟨_, rfl, ⟨_, SqL.of h1⟩, Wants.some (a := (ds, some (n, ds))) w (Le.refl _ _) rm1 (walk_ref hn)⟩
        · exact w.none.elim
      | _ => cases e
theorem rangeD_len : ∀ (lo : Int) (n : Nat), (rangeD lo n).length = n
  | _, 0 => rfl
  | lo, n + 1 => by unfold rangeD; rw [List.length_cons, rangeD_len]
theorem rangeD_get : ∀ (lo : Int) (n i : Nat), i < n → (rangeD lo n)[i]? = some (.int (lo + i))
  | lo, n + 1, 0, _ => by unfold rangeD; simp
  | lo, n + 1, i + 1, h => by
    unfold rangeD
    rw [List.getElem?_cons_succ, rangeD_get (lo + 1) n i (by omega)]
    congr 2
    omega
theorem walk_rng {μ : List Addr} {H : Hp} {lo : Int} {n : Nat} : WalkOk X.K X.mg (Itr lo n) none (rangeD lo n) μ H := by
  intro μ1 M1 H1 l rm1 _
  refine ⟨fun i hi => by rw [rangeD_len] at hi; exact hi, fun i d hd => ?_⟩
  have hlt : i < n := by
    have := (List.getElem?_eq_some_iff.mp hd).1
    rwa [rangeD_len] at this
  rw [rangeD_get lo n i hlt] at hd
  cases hd
  refine ⟨hlt, fun x H' y => ?_⟩
  obtain ⟨e, y⟩ := y
  subst e
  subst y
  exact ⟨Le.refl _ _, rm1, .int _⟩
theorem inR_w {k : Int} (h : inR k = true) : -(2 ^ 62) ≤ k ∧ k < 2 ^ 62 := by
  unfold inR at h
  exact of_decide_eq_true h
theorem di_rng {tg ae : Expr} {a : CE} (hg : Gl X "range") (hm : X.mg "range" = none) (ha : DE X W T ae a) (hs : starEach [ae] X.env = [(false, eval ae X.env)]) : DI X W T tg (.Call (.Name "range" p) [ae] [] pos) (.rng a) :=
  pi_imp (pi_range1 hg hm (pa_cons ha pa_nil hs) hs) fun σ H R ⟨μ, M, env, rm, rs, h⟩ =>
    tD_bnd rm rs h (f := fun x env => match x with | .int j => if inR j then ret (rangeD 0 j.toNat, none) else fail | _ => fail) fun v H1 μ1 M1 d l1 rm1 rs1 rv w => by
      cases rv with
      | int j =>
        have w : Wants X.K X.mg W (relI X.K X.mg) ((if inR j = true then ret (rangeD 0 j.toNat, none) else fail) M1) μ1 H1 R := w
        obtain ⟨hj, w⟩ := ifT w
        obtain ⟨h1, h2⟩ := inR_w hj
        exact ⟨j, rfl, h1, h2, Wants.ret (a := (rangeD 0 j.toNat, none)) w rm1 walk_rng⟩
      | _ => exact (show False from Wants.fail (M := M1) (rel := relI X.K X.mg) w).elim
theorem di_rng2 {tg ae be : Expr} {a b : CE} (hg : Gl X "range") (hm : X.mg "range" = none) (ha : DE X W T ae a) (hb : DE X W T be b) (hs : starEach [ae, be] X.env = [(false, eval ae X.env), (false, eval be X.env)]) (hs2 : starEach [be] X.env = [(false, eval be X.env)]) : DI X W T tg (.Call (.Name "range" p) [ae, be] [] pos) (.rng2 a b) :=
  pi_imp (pi_range2 hg hm (pa_cons ha (pa_cons hb pa_nil hs2) (by rw [hs, hs2])) hs hs2) fun σ H R ⟨μ, M, env, rm, rs, h⟩ =>
    tD_bnd rm rs h (f := fun x env => bnd (evE T b env) fun y => match x, y with | .int i, .int j => if inR i && inR j then ret (rangeD i (j - i).toNat, none) else fail | _, _ => fail) fun v H1 μ1 M1 d l1 rm1 rs1 rv w =>
      tD_bnd rm1 rs1 w (f := fun y env => match d, y with | .int i, .int j => if inR i && inR j then ret (rangeD i (j - i).toNat, none) else fail | _, _ => fail) fun v2 H2 μ2 M2 d2 l2 rm2 rs2 rv2 w => by
        cases rv with
        | int i =>
          cases rv2 with
          | int j =>
            have w : Wants X.K X.mg W (relI X.K X.mg) ((if (inR i && inR j) = true then ret (rangeD i (j - i).toNat, none) else fail) M2) μ2 H2 R := w
            obtain ⟨hj, w⟩ := ifT w
            rw [Bool.and_eq_true] at hj
            obtain ⟨h1, h2⟩ := inR_w hj.1
            obtain ⟨h3, h4⟩ := inR_w hj.2
            exact ⟨i, j, rfl, ⟨h1, h2, h3, h4⟩, Wants.ret (a := (rangeD i (j - i).toNat, none)) w rm2 walk_rng⟩
          | _ => exact (show False from Wants.fail (M := M2) (rel := relI X.K X.mg) w).elim
        | _ => exact (show False from Wants.fail (M := M2) (rel := relI X.K X.mg) w).elim
/-! ### for -/
theorem drop_at {ds : List D} {i m : Nat} (h : i + (m + 1) = ds.length) : ∃ d, ds[i]? = some d ∧ ds.drop i = d :: ds.drop (i + 1) := by
  have hlt : i < ds.length := by omega
  exact ⟨ds[i], List.getElem?_eq_getElem hlt, List.drop_eq_getElem_cons hlt⟩
theorem ds_for {tg e : Expr} {b : List Stmt} {g : CG} {ci : CI} {cb : CSs} {ns : List Nat} (hp : PassesOwn (model X.prog X.w) X.A X.env X.xe) (hc : X.calm = true) (hi : DI X W T tg e ci) (hg : DG X W T ns tg g) (hb : DSs X W T b cb)
    (hs : ∀ x, foldedSetIterable e X.env x = pure x) : DS X W T (.For tg e b [] pos) (.forS g ci cb) :=
  ps_imp (ps_for hp hc hi hg hb hs) fun E σ H ⟨μ, M, env, rm, rs, h⟩ => by
    have h : Wants X.K X.mg W (RepFl X.K X.mg) (bnd (evI T ci env) (fun p => forL p.2 (fun d env => bnd (evG T g d env) fun env2 => evSs T cb env2) p.1 env) M) μ H (endQ E) := h
    refine ⟨μ, M, env, rm, rs, Wants.bndK h fun q J μ1 M1 H1 l1 rm1 hw w => ?_⟩
    obtain ⟨ds, gd⟩ := q
    have hw : WalkOk X.K X.mg J gd ds μ1 H1 := hw
    refine ⟨fun i m σ H => ∃ μ M env, RepM X.K X.mg μ M H ∧ RepS X.K X.mg μ H env σ ∧ Le μ1 H1 μ H ∧ i + m = ds.length ∧ Wants X.K X.mg W (RepFl X.K X.mg) (forL gd (fun d env => bnd (evG T g d env) fun env2 => evSs T cb env2) (ds.drop i) env M) μ H (endQ E),
      ⟨ds.length, μ1, M1, env, rm1, rs.up l1 rm, Le.refl _ _, Nat.zero_add _, w⟩, ?_⟩
    rintro i m σ H ⟨μ, M, env, rm, rs, l, hm, w⟩
    match m, hm with
    | 0, hm =>
      rw [List.drop_eq_nil_of_le (by omega)] at w
      obtain ⟨hck, w⟩ := chk_w w
      exact .inl ⟨(hw μ M H l rm hck).1 i (by omega), nx_w w rm rs⟩
    | m + 1, hm =>
      obtain ⟨d, hd, e⟩ := drop_at hm
      rw [e] at w
      obtain ⟨hck, w⟩ := chk_w w
      obtain ⟨hgo, hy⟩ := (hw μ M H l rm hck).2 i d hd
      refine .inr ⟨hgo, fun σ H => ∃ μ M env, RepM X.K X.mg μ M H ∧ RepS X.K X.mg μ H env σ ∧ Le μ1 H1 μ H ∧ Wants X.K X.mg W (RepFl X.K X.mg) (forL gd (fun d env => bnd (evG T g d env) fun env2 => evSs T cb env2) (ds.drop (i + 1)) env M) μ H (endQ E),
        fun σ' H' ⟨μ, M, env, rm, rs, l, w⟩ => ⟨m, Nat.lt_succ_self _, μ, M, env, rm, rs, l, by omega, w⟩, fun x H' y => ?_⟩
      obtain ⟨l2, rm2, rv2⟩ := hy x H' y
      have w : Wants X.K X.mg W (RepFl X.K X.mg) (bnd (bnd (evG T g d env) fun env2 => evSs T cb env2) (fun f => match f with
        | .nx e => forL gd (fun d env => bnd (evG T g d env) fun env2 => evSs T cb env2) (ds.drop (i + 1)) e
        | .ct e => forL gd (fun d env => bnd (evG T g d env) fun env2 => evSs T cb env2) (ds.drop (i + 1)) e
        | .bk e => ret (.nx e)
        | .rt d => ret (.rt d)) M) μ H (endQ E) := w
      rw [bnd_assoc] at w
      obtain ⟨r0, M0, e0, k0⟩ := w
      have w : Wants X.K X.mg W (RepFl X.K X.mg) _ μ H' (endQ E) := ⟨r0, M0, e0, fun μ' H'' l' rm' => k0 μ' H'' (l2.trans l') rm'⟩
      refine ⟨μ, M, d, env, rm2, rs.up l2 rm, rv2, Wants.bndK w fun env2 σ2 μ3 M3 H3 l3 rm3 r3 w => ?_⟩
      refine ⟨μ3, M3, env2, rm3, r3.1, Wants.bndK w fun a b μ4 M4 H4 l4 rm4 r w => ?_⟩
      have lz : Le μ1 H1 μ4 H4 := ((l.trans l2).trans l3).trans l4
      match a, b, r, w with
      | .nx e, .nx σ', r, w => exact ⟨μ4, M4, e, rm4, r, lz, w⟩
      | .ct e, .ct σ', r, w => exact ⟨μ4, M4, e, rm4, r, lz, w⟩
      | .bk e, .bk σ', r, w => exact nx_w (E := E) w rm4 r
      | .rt d, .rt v, r, w => exact rt_w (E := E) w rm4 r
end
end DL
end
section
set_option Elab.async false
set_option linter.all false
set_option maxRecDepth 100000
set_option maxHeartbeats 2000000
/-! DL, part n: comprehensions, enumerate, zip; the def rule. -/
namespace DL
open PySem PySem.Spec PyProof.Rows L2
section
variable {X : Cx} {W : XW} {T : Tab} {pos p : Pos}
abbrev DTs (X : Cx) (W : XW) (T : Tab) (ifs : List Expr) (t : CT) : Prop := PTs X ifs (tTD X.K X.mg W (evT T t))
theorem pts_imp {ifs : List Expr} {t t' : TT} (h : PTs X ifs t) (i : ∀ σ H Q, t' σ H Q → t σ H Q) : PTs X ifs t' := ⟨fun pins s σ H Q I q => h.run pins s σ H Q I (i σ H Q q)⟩
theorem dts_nil : DTs X W T [] .yes := pts_imp pts_nil fun σ H Q ⟨μ, M, env, rm, rs, h⟩ => Wants.ret (a := true) (b := true) h rm rfl
theorem dts_one {e : Expr} {t : CT} (h : DT X W T e t) : DTs X W T [e] t := pts_one h
theorem relG_wipe {K : PySem.W.Frag} {mg : Str → Option Value} {ns vs : List Nat} {σ σ2 : L2.St} {μ : List Addr} {H : Hp} {env : Env} (h : relG K mg ns (wipe σ vs) μ H env σ2) (hs : ∀ i ∈ ns, i ∈ vs) : wipe σ2 vs = wipe σ vs := by
  obtain ⟨_, hl, hk⟩ := h
  rw [wipe_length] at hl
  refine List.ext_getElem? fun i => ?_
  by_cases hi : i ∈ vs
  · by_cases hn : i < σ.length
    · have a : ∀ τ : L2.St, τ.length = σ.length → (wipe τ vs)[i]? = some none := by
        intro τ hτ
        cases e : (wipe τ vs)[i]? with
        | none =>
          rw [List.getElem?_eq_none_iff, wipe_length, hτ] at e
          omega
        | some o =>
          cases o with
          | none => rfl
          | some v => exact absurd hi (wipe_some e).2
      rw [a σ2 hl, a σ rfl]
    · rw [List.getElem?_eq_none (by rw [wipe_length]; omega), List.getElem?_eq_none (by rw [wipe_length]; omega)]
  · rw [wipe_out hi, wipe_out hi, hk i (fun z => hi (hs i z)), wipe_out hi]
/-- one turn of a comprehension -/
def turnC (T : Tab) (g : CG) (t : CT) (e : CE) (own : List Nat) (env : Env) (d : D) : R (Option D) := bnd (evG T g d (wipeE env own)) fun env2 => bnd (evT T t env2) fun k => if k = true then bnd (evE T e env2) fun y => ret (some y) else ret none
theorem turn_bnd {β : Type} {g : CG} {t : CT} {e : CE} {own : List Nat} {env : Env} {d : D} {F : Option D → R β} : bnd (turnC T g t e own env d) F = bnd (evG T g d (wipeE env own)) fun env2 => bnd (evT T t env2) fun k => bnd (if k = true then bnd (evE T e env2) fun y => ret (some y) else ret none) F := by
  unfold turnC
  rw [bnd_assoc]
  congr 1
  funext env2
  rw [bnd_assoc]
theorem ev_comp {it : CI} {g : CG} {t : CT} {e : CE} {own : List Nat} {env : Env} : evE T (.comp it g t e own) env = bnd (evI T it env) fun p => bnd (new (.lst [])) fun r => match r with
      | .ref n => bnd (compL p.2 n (turnC T g t e own env) p.1) fun _ => ret (.ref n)
      | _ => fail := by rw [evE]; rfl
theorem push_w {α β : Type} {rel : List Addr → Hp → α → β → Prop} {n : Nat} {d : D} {f : Unit → R α} {M : Mem} {μ : List Addr} {H : Hp} {Q : β → Hp → Prop} (h : Wants X.K X.mg W rel (bnd (push n d) f M) μ H Q) : ∃ ds, M[n]? = some (.lst ds) ∧ ds.length < sizeLine ∧ Wants X.K X.mg W rel (f () (M.set n (.lst (ds ++ [d])))) μ H Q := by
  obtain ⟨r, M', e, k⟩ := h
  rcases bnd_some e with ⟨z, hi, e⟩ | ⟨t, M1, hi, e⟩
  · exfalso
    unfold push at hi
    split at hi
    · split at hi <;> cases hi
    · cases hi
  · unfold push at hi
    split at hi
    · rename_i ds hm
      split at hi
      · rename_i hl
        cases hi
        exact ⟨ds, hm, hl, r, M', e, k⟩
      · cases hi
    · cases hi
theorem moved {α β : Type} {rel : List Addr → Hp → α → β → Prop} {x : Option (Except D α × Mem)} {μ μ' : List Addr} {H H' : Hp} {Q : β → Hp → Prop} (h : Wants X.K X.mg W rel x μ H Q) (l : Le μ H μ' H') : Wants X.K X.mg W rel x μ' H' Q := by
  obtain ⟨r, M', e, k⟩ := h
  exact ⟨r, M', e, fun μ'' H'' l' rm' => k μ'' H'' (l.trans l') rm'⟩
theorem lc_w {it : CI} {g : CG} {t : CT} {e : CE} {ns : List Nat} {own : List (Str × Nat)} {σ : L2.St} {H : Hp} {Q : VK} {μ : List Addr} {M : Mem} {env : Env} (hsub : ∀ i ∈ ns, i ∈ own.map (·.2)) (rm : RepM X.K X.mg μ M H) (rs : RepS X.K X.mg μ H env σ)
    (h : Wants X.K X.mg W (RepV X.K X.mg) (evE T (.comp it g t e (own.map (·.2))) env M) μ H Q) :
    tLc (tID X.K X.mg W (evI T it)) (tGD X.K X.mg W ns (evG T g)) (tTD X.K X.mg W (evT T t)) (tD X.K X.mg W (evE T e)) (own.map (·.2)) σ H Q := by
  rw [ev_comp] at h
  refine ⟨μ, M, env, rm, rs, Wants.bndK h fun q J μ1 M1 H1 l1 rm1 hw w => ?_⟩
  obtain ⟨ds, gd⟩ := q
  have hw : WalkOk X.K X.mg J gd ds μ1 H1 := hw
  intro L hL
  have w : Wants X.K X.mg W (RepV X.K X.mg) (bnd (compL gd M1.length (turnC T g t e (own.map (·.2)) env) ds) (fun _ => ret (D.ref M1.length)) (M1 ++ [.lst []])) μ1 H1 Q := w
  have l2 := Le.new (μ := μ1) (o := .lst []) hL
  have rm2 := rm1.new (o := .lst []) (q := .lst []) hL ⟨[], upd_same, .nil⟩
  have hx : (μ1 ++ [L])[M1.length]? = some L := by
    rw [← rm1.len, List.getElem?_append_right (Nat.le_refl _)]
    simp
  generalize hn : M1.length = n at w hx
  generalize hM2 : M1 ++ [O.lst []] = M2 at w rm2
  generalize hμ2 : μ1 ++ [L] = μ2 at l2 rm2 hx
  have rs2 : RepS X.K X.mg μ2 (upd H1 L (.lst [])) env σ := (rs.up l1 rm).up l2 rm1
  refine ⟨fun i m H => ∃ μ M, RepM X.K X.mg μ M H ∧ Le μ2 (upd H1 L (.lst [])) μ H ∧ i + m = ds.length ∧ Wants X.K X.mg W (RepV X.K X.mg) (bnd (compL gd n (turnC T g t e (own.map (·.2)) env) (ds.drop i)) (fun _ => ret (D.ref n)) M) μ H Q,
    ⟨ds.length, μ2, M2, rm2, Le.refl _ _, Nat.zero_add _, moved w l2⟩, ?_⟩
  rintro i m H3 ⟨μ3, M3, rm3, l3, hm, w⟩
  match m, hm with
  | 0, hm =>
    rw [List.drop_eq_nil_of_le (by omega)] at w
    have w : Wants X.K X.mg W (RepV X.K X.mg) (bnd (chk gd) (fun _ => ret (D.ref n)) M3) μ3 H3 Q := w
    obtain ⟨hck, w⟩ := chk_w w
    exact .inl ⟨(hw μ3 M3 H3 (l2.trans l3) rm3 hck).1 i (by omega), Wants.ret (a := D.ref n) w rm3 (.ref (l3.at hx))⟩
  | m + 1, hm =>
    obtain ⟨d, hd, ee⟩ := drop_at hm
    rw [ee] at w
    have w : Wants X.K X.mg W (RepV X.K X.mg) (bnd (bnd (chk gd) fun _ => bnd (turnC T g t e (own.map (·.2)) env d) fun o => match o with
      | none => compL gd n (turnC T g t e (own.map (·.2)) env) (ds.drop (i + 1))
      | some y => bnd (push n y) fun _ => compL gd n (turnC T g t e (own.map (·.2)) env) (ds.drop (i + 1))) (fun _ => ret (D.ref n)) M3) μ3 H3 Q := w
    rw [bnd_assoc] at w
    obtain ⟨hck, w⟩ := chk_w w
    obtain ⟨hgo, hy⟩ := (hw μ3 M3 H3 (l2.trans l3) rm3 hck).2 i d hd
    refine .inr ⟨hgo, fun H => ∃ μ M, RepM X.K X.mg μ M H ∧ Le μ2 (upd H1 L (.lst [])) μ H ∧ Wants X.K X.mg W (RepV X.K X.mg) (bnd (compL gd n (turnC T g t e (own.map (·.2)) env) (ds.drop (i + 1))) (fun _ => ret (D.ref n)) M) μ H Q,
      fun H' ⟨μ, M, rm, l, w⟩ => ⟨m, Nat.lt_succ_self _, μ, M, rm, l, by omega, w⟩, fun x H' y => ?_⟩
    obtain ⟨l4, rm4, rv4⟩ := hy x H' y
    rw [bnd_assoc, turn_bnd] at w
    have w := moved w l4
    refine ⟨μ3, M3, d, wipeE env (own.map (·.2)), rm4, ((rs2.up l3 rm2).up l4 rm3).wipe _, rv4, Wants.bndK w fun env2 σ2 μ5 M5 H5 l5 rm5 r5 w => ⟨relG_wipe r5 hsub, ?_⟩⟩
    refine tT_bnd rm5 r5.1 w (f := fun k env2 => bnd (if k = true then bnd (evE T e env2) fun y => ret (some y) else ret none) fun o => bnd (match o with
      | none => compL gd n (turnC T g t e (own.map (·.2)) env) (ds.drop (i + 1))
      | some y => bnd (push n y) fun _ => compL gd n (turnC T g t e (own.map (·.2)) env) (ds.drop (i + 1))) fun _ => ret (D.ref n)) fun k H6 μ6 M6 l6 rm6 rs6 w => ?_
    have lz : Le μ2 (upd H1 L (.lst [])) μ6 H6 := ((l3.trans l4).trans l5).trans l6
    cases k with
    | false => exact ⟨μ6, M6, rm6, lz, w⟩
    | true =>
      have w : Wants X.K X.mg W (RepV X.K X.mg) (bnd (bnd (evE T e env2) fun y => ret (some y)) (fun o => bnd (match o with
        | none => compL gd n (turnC T g t e (own.map (·.2)) env) (ds.drop (i + 1))
        | some y => bnd (push n y) fun _ => compL gd n (turnC T g t e (own.map (·.2)) env) (ds.drop (i + 1))) fun _ => ret (D.ref n)) M6) μ6 H6 Q := w
      rw [bnd_assoc] at w
      refine tD_bnd rm6 rs6 w (f := fun y _ => bnd (ret (some y)) (fun o => bnd (match o with
        | none => compL gd n (turnC T g t e (own.map (·.2)) env) (ds.drop (i + 1))
        | some y => bnd (push n y) fun _ => compL gd n (turnC T g t e (own.map (·.2)) env) (ds.drop (i + 1))) fun _ => ret (D.ref n))) fun v H7 μ7 M7 dv l7 rm7 rs7 rv7 w => ?_
      have w : Wants X.K X.mg W (RepV X.K X.mg) (bnd (bnd (push n dv) fun _ => compL gd n (turnC T g t e (own.map (·.2)) env) (ds.drop (i + 1))) (fun _ => ret (D.ref n)) M7) μ7 H7 Q := w
      rw [bnd_assoc] at w
      obtain ⟨acc, hM, hl, w⟩ := push_w w
      have hn7 := (lz.trans l7).at hx
      obtain ⟨vs, h1, r1⟩ := rm7.obj n L _ hn7 hM
      have hmem := List.mem_of_getElem? hn7
      exact ⟨vs, h1, by rw [← r1.length]; exact hl, μ7, M7.set n (.lst (acc ++ [dv])), rm7.write hn7 ⟨_, upd_same, (r1.up (Le.write hmem) rm7).append (.cons (rv7.up (Le.write hmem) rm7) .nil)⟩, (lz.trans l7).trans (Le.write hmem), moved w (Le.write hmem)⟩
theorem de_comp {elt tg iter : Expr} {ifs : List Expr} {scope : Scope} {own : List (Str × Nat)} {it : CI} {g : CG} {t : CT} {e : CE} {ns : List Nat} (hc : X.calm = true) (hN : X.N.Nodup) (hi : DI X W T tg iter it) (ok : BlkOk X.N X.env.scope scope own) (hsub : ∀ i ∈ ns, i ∈ own.map (·.2))
    (hg : ∀ (s : Shared) (H : Hp) (C : Addr) (cl : List (Str × Addr)) (fp : List Addr), DG (X.blk s H scope (compEnvC scope cl C X.env) fp) W T ns tg g) (ht : ∀ (s : Shared) (H : Hp) (C : Addr) (cl : List (Str × Addr)) (fp : List Addr), DTs (X.blk s H scope (compEnvC scope cl C X.env) fp) W T ifs t)
    (he : ∀ (s : Shared) (H : Hp) (C : Addr) (cl : List (Str × Addr)) (fp : List Addr), DE (X.blk s H scope (compEnvC scope cl C X.env) fp) W T elt e) (hs : ∀ x, foldedSetIterable iter X.env x = pure x) :
    DE X W T (.ListComp elt [⟨tg, iter, ifs, 0⟩] scope pos) (.comp it g t e (own.map (·.2))) :=
  pe_imp (pe_lc hc hN hi ok hg ht he hs) fun σ H Q ⟨μ, M, env, rm, rs, h⟩ => lc_w hsub rm rs h
/-- name = [..] on one line -/
theorem ds_setLc {i : Nat} {y : Str} {py : Pos} {elt tg iter : Expr} {ifs : List Expr} {scope : Scope} {own : List (Str × Nat)} {spos : Pos} {it : CI} {g : CG} {t : CT} {e : CE} {ns : List Nat} (hc : X.calm = true) (hN : X.N.Nodup) (hy : X.N[i]? = some y) (hyl : X.env.scope.names.lookup y = some .local)
    (hsw : swapsWith (.ListComp elt [⟨tg, iter, ifs, 0⟩] scope pos) (some (.Name y py)) spos.line X.env = pure true) (hi : DI X W T tg iter it) (ok : BlkOk X.N X.env.scope scope own) (hsub : ∀ i ∈ ns, i ∈ own.map (·.2))
    (hg : ∀ (s : Shared) (H : Hp) (C : Addr) (cl : List (Str × Addr)) (fp : List Addr), DG (X.blk s H scope (compEnvC scope cl C X.env) fp) W T ns tg g) (ht : ∀ (s : Shared) (H : Hp) (C : Addr) (cl : List (Str × Addr)) (fp : List Addr), DTs (X.blk s H scope (compEnvC scope cl C X.env) fp) W T ifs t)
    (he : ∀ (s : Shared) (H : Hp) (C : Addr) (cl : List (Str × Addr)) (fp : List Addr), DE (X.blk s H scope (compEnvC scope cl C X.env) fp) W T elt e) (hs : ∀ x, foldedSetIterable iter X.env x = pure x) :
    DS X W T (.Assign [.Name y py] (.ListComp elt [⟨tg, iter, ifs, 0⟩] scope pos) spos) (.asg (.nm i) (.comp it g t e (own.map (·.2)))) :=
  ps_imp (L2.ps_setLc hc hN hy hyl hsw hi ok hg ht he hs) fun E σ H ⟨μ, M, env, rm, rs, h⟩ => by
    refine lc_w (Q := fun x H1 => E.nx (σ.set i (some x)) H1) hsub rm rs (Wants.bndK h fun a b μ1 M1 H1 l1 rm1 r w => ?_)
    exact nx_w (E := E) w rm1 ((rs.up l1 rm).set i r)
/-! ### enumerate, zip -/
theorem numbered_len : ∀ (k : Nat) (ds : List D), (numbered k ds).length = ds.length
  | _, [] => rfl
  | k, d :: ds => by unfold numbered; rw [List.length_cons, numbered_len, List.length_cons]
theorem numbered_get : ∀ (k : Nat) (ds : List D) (i : Nat) (d : D), ds[i]? = some d → (numbered k ds)[i]? = some (.tup [.int (((k + i : Nat)) : Int), d])
  | k, d :: ds, 0, _, h => by cases h; rfl
  | k, d :: ds, i + 1, d', h => by
    unfold numbered
    rw [List.getElem?_cons_succ, numbered_get (k + 1) ds i d' (by simpa using h)]
    congr 5
    omega
theorem rep_pair {μ : List Addr} {M : Mem} {H : Hp} {T : Addr} {d1 d2 : D} {x y : V} (rm : RepM X.K X.mg μ M H) (hT : H T = none) (r1 : RepV X.K X.mg μ H d1 x) (r2 : RepV X.K X.mg μ H d2 y) :
    Le μ H μ (upd H T (.tup [x, y])) ∧ RepM X.K X.mg μ M (upd H T (.tup [x, y])) ∧ RepV X.K X.mg μ (upd H T (.tup [x, y])) (.tup [d1, d2]) (.ref T) :=
  ⟨Le.free hT, rm.free hT, .tup (SqT.of upd_same) (.cons (r1.up (Le.free hT) rm) (.cons (r2.up (Le.free hT) rm) .nil))⟩
theorem walk_enum {μ : List Addr} {H : Hp} {a : Addr} {gd : Option (Nat × List D)} {ds : List D} (hb : ∀ μ1 M1 H1, Le μ H μ1 H1 → RepM X.K X.mg μ1 M1 H1 → chk gd M1 = some (.ok (), M1) → ∃ vs, SqL X.K H1 a vs ∧ RepVs X.K X.mg μ1 H1 ds vs) :
    WalkOk X.K X.mg (Ite X.K a) gd (numbered 0 ds) μ H := by
  intro μ1 M1 H1 l rm1 hc
  obtain ⟨vs, hq, r⟩ := hb μ1 M1 H1 l rm1 hc
  refine ⟨fun i hi => ⟨vs, hq, by rw [← r.length]; rw [numbered_len] at hi; exact hi⟩, fun i d hd => ?_⟩
  have hlt : i < ds.length := by
    have := (List.getElem?_eq_some_iff.mp hd).1
    rwa [numbered_len] at this
  rw [numbered_get 0 ds i ds[i] (List.getElem?_eq_getElem hlt)] at hd
  cases hd
  obtain ⟨v, hv, rv⟩ := r.get (List.getElem?_eq_getElem hlt)
  refine ⟨⟨vs, v, hq, hv⟩, fun x H' y => ?_⟩
  obtain ⟨TT, w, ex, hT, eH, hx⟩ := y
  subst ex
  subst eH
  have := hx vs hq
  rw [hv] at this
  cases this
  have e0 : ((0 + i : Nat) : Int) = (i : Int) := by rw [Nat.zero_add]
  rw [e0]
  exact rep_pair rm1 hT (.int _) rv
theorem walk_zipT {μ : List Addr} {M : Mem} {H : Hp} {a b : Addr} {vs us : List V} {ds es : List D} (rm : RepM X.K X.mg μ M H) (h1 : SqT X.K H a vs) (r1 : RepVs X.K X.mg μ H ds vs) (h2 : SqT X.K H b us) (r2 : RepVs X.K X.mg μ H es us) :
    WalkOk X.K X.mg (RZ.ItzT X.K a b) none (List.zipWith (fun d e => D.tup [d, e]) ds es) μ H := by
  intro μ1 M1 H1 l rm1 _
  have q1 := l.sqT rm.sto h1
  have q2 := l.sqT rm.sto h2
  have r1 := r1.up l rm
  have r2 := r2.up l rm
  have e1 := r1.length
  have e2 := r2.length
  refine ⟨fun i hi => ⟨vs, us, q1, q2, by rw [List.length_zipWith] at hi; omega⟩, fun i d hd => ?_⟩
  rw [List.getElem?_zipWith] at hd
  cases hx : ds[i]? with
  | none => rw [hx] at hd; cases hd
  | some dx =>
    cases hy : es[i]? with
    | none => rw [hx, hy] at hd; cases hd
    | some dy =>
      rw [hx, hy] at hd
      cases hd
      obtain ⟨v, hv, rv⟩ := r1.get hx
      obtain ⟨u, hu, ru⟩ := r2.get hy
      refine ⟨⟨vs, us, v, u, q1, q2, hv, hu⟩, fun x H' y => ?_⟩
      obtain ⟨TT, v', u', ex, hT, eH, hx, hy⟩ := y
      subst ex
      subst eH
      have z1 := hx vs q1
      have z2 := hy us q2
      rw [hv] at z1
      rw [hu] at z2
      cases z1
      cases z2
      exact rep_pair rm1 hT rv ru
/-- enumerate of a list -/
theorem di_enum {ae : Expr} {elts : List Expr} {kk : Nat} {tpos : Pos} {a : CE} (hg : Gl X "enumerate") (hm : X.mg "enumerate" = none) (ha : DE X W T ae a) (hs : starEach [ae] X.env = [(false, eval ae X.env)]) :
    PI X (.Tuple elts kk tpos) (.Call (.Name "enumerate" p) [ae] [] pos) (fun σ H R => ∃ μ M env, RepM X.K X.mg μ M H ∧ RepS X.K X.mg μ H env σ ∧ Wants X.K X.mg W (relI X.K X.mg) (evI T (.enum a) env M) μ H R ∧ ∀ ds M', evE T a env M ≠ some (.ok (.tup ds), M')) :=
  pi_imp (pi_enum hg hm (pa_cons ha pa_nil hs) hs) fun σ H R ⟨μ, M, env, rm, rs, h, hno⟩ =>
    tD_bndP (fun d => ∀ ds, d ≠ .tup ds) rm rs h (f := fun x env => bnd (seqG x) fun p => ret (numbered 0 p.1, p.2)) (fun d M' e ds z => by subst z; exact hno ds M' e) fun v H1 μ1 M1 d l1 rm1 rs1 rv hd w => by
      cases rv with
      | tup _ _ => exact absurd rfl (hd _)
      | @fl aa vs ds hq r =>
        have w : Wants X.K X.mg W (relI X.K X.mg) (some (.ok (numbered 0 ds, none), M1)) μ1 H1 R := w
        exact ⟨aa, vs, rfl, hq.sq, Wants.some (a := (numbered 0 ds, none)) w (Le.refl _ _) rm1 (walk_enum fun μ2 M2 H2 l2 _ _ => ⟨vs, (l2.frL rm1.sto hq).sq, r.up l2 rm1⟩)⟩
      | @ref n aa hn =>
        have w : Wants X.K X.mg W (relI X.K X.mg) (bnd (seqG (.ref n)) (fun p => ret (numbered 0 p.1, p.2)) M1) μ1 H1 R := w
        cases hM : M1[n]? with
        | none =>
          have z : seqG (.ref n) M1 = none := by unfold seqG; dsimp only; rw [hM]
          obtain ⟨_, _, e, _⟩ := w
          unfold bnd at e
          rw [z] at e
          cases e
        | some o =>
          cases o with
          | ins c fs =>
            have z : seqG (.ref n) M1 = none := by unfold seqG; dsimp only; rw [hM]
            obtain ⟨_, _, e, _⟩ := w
            unfold bnd at e
            rw [z] at e
            cases e
          | lst ds =>
            have z : seqG (.ref n) M1 = some (.ok (ds, some (n, ds)), M1) := by unfold seqG; dsimp only; rw [hM]
            have w : Wants X.K X.mg W (relI X.K X.mg) (some (.ok (numbered 0 ds, some (n, ds)), M1)) μ1 H1 R := by
              unfold bnd at w
              rw [z] at w
              exact w
            obtain ⟨vs, h1, r1⟩ := rm1.obj n aa _ hn hM
            refine ⟨aa, vs, rfl, SqL.of h1, Wants.some (a := (numbered 0 ds, some (n, ds))) w (Le.refl _ _) rm1 (walk_enum fun μ2 M2 H2 l2 rm2 hc => ?_)⟩
            obtain ⟨vs2, h2, r2⟩ := rm2.obj n aa _ (l2.at hn) (chk_at hc)
            exact ⟨vs2, SqL.of h2, r2⟩
      | _ => exact (by obtain ⟨_, _, e, _⟩ := w; cases e)
theorem di_zip {ae be : Expr} {elts : List Expr} {kk : Nat} {tpos : Pos} {a b : CE} (hg : Gl X "zip") (hm : X.mg "zip" = none) (ha : DE X W T ae a) (hb : DE X W T be b) (hs : starEach [ae, be] X.env = (false, eval ae X.env) :: starEach [be] X.env) (hs2 : starEach [be] X.env = (false, eval be X.env) :: starEach [] X.env) (hpl : (backTo pos (starEach [be] X.env)).any (·.1) = false) :
    DI X W T (.Tuple elts kk tpos) (.Call (.Name "zip" p) [ae, be] [] pos) (.zip a b) :=
  pi_imp (RZ.pi_zipA hg hm (pa_cons ha (pa_cons hb pa_nil hs2) hs) hs hpl) fun σ H R ⟨μ, M, env, rm, rs, h⟩ =>
    tD_bnd rm rs h (f := fun x env => bnd (evE T b env) fun y => match x, y with
      | .tup ds, .tup es => ret (List.zipWith (fun d e => D.tup [d, e]) ds es, none)
      | _, _ => fail) fun v H1 μ1 M1 d l1 rm1 rs1 rv w =>
      tD_bnd rm1 rs1 w (f := fun y env => match d, y with
      | .tup ds, .tup es => ret (List.zipWith (fun d e => D.tup [d, e]) ds es, none)
      | _, _ => fail) fun v2 H2 μ2 M2 d2 l2 rm2 rs2 rv2 w => by
        have rv := rv.up l2 rm1
        cases rv with
        | @tup aa vs ds hq r =>
          cases rv2 with
          | @tup bb us es hq2 r2 =>
            exact ⟨aa, bb, vs, us, rfl, .inr ⟨hq, hq2, Wants.ret (a := (List.zipWith (fun d e => D.tup [d, e]) ds es, none)) w rm2 (walk_zipT rm2 hq r hq2 r2)⟩⟩
          | _ => exact (by obtain ⟨_, _, e, _⟩ := w; cases e)
        | _ => exact (by obtain ⟨_, _, e, _⟩ := w; cases e)
end
/-! ### THE RULE for a def -/
theorem start_rep {K : PySem.W.Frag} {mg : Str → Option Value} {μ : List Addr} {H : Hp} {ds : List D} {vs : List V} (r : RepVs K mg μ H ds vs) (N : List Str) : RepS K mg μ H (ds.map some ++ List.replicate (N.length - ds.length) none) (L2.start N vs) := by
  unfold L2.start
  refine ⟨by simp [r.length], fun i d h => ?_⟩
  by_cases hi : i < ds.length
  · rw [List.getElem?_append_left (by simpa using hi), List.getElem?_map] at h
    rw [List.getElem?_append_left (by simpa [← r.length] using hi), List.getElem?_map]
    cases e : ds[i]? with
    | none => rw [e] at h; cases h
    | some d' =>
      rw [e] at h
      cases h
      obtain ⟨v, hv, rv⟩ := r.get e
      exact ⟨v, by rw [hv]; rfl, rv⟩
  · rw [List.getElem?_append_right (by simpa using hi), List.getElem?_replicate] at h
    split at h <;> cases h
theorem fnG_of {P : Program} {w : World} {K : PySem.W.Frag} {mg : Str → Option Value} {base : Heap} {k n : Nat} {f : Addr} {x qual : Str} {params : Arguments} {body : List Stmt} {scope : Scope} {dV kV doc pm cdv ct oc : Value} {an od : Option Addr} {osl : Array (Option Value)} {N ps : List Str} {T : Tab} {b : CSs}
    (lk : K.lookup f = some ⟨oc, od, .func (PySem.W.fnOf x qual params body scope dV kV doc pm an cdv ct), osl⟩) (hcd : PySem.W.codeIn K cdv qual = true) (S : FnScope N ps scope) (hn : N.length = n)
    (hbody : ∀ (A : Around) (outer : List PySem.Env) (s : Shared) (H : Hp), Sur k (A.deeper (envOfC qual scope s.heap.objs.size f cdv)) → DSs (cxOf CX0 P w K mg base N qual scope f cdv A outer s H fun _ _ _ => False).nox W0 T body b) :
    FnG P w K mg base (k + 1) f (PySem.W.fnOf x qual params body scope dV kV doc pm an cdv ct) ps (runDef T n b) := by
  refine ⟨fun A outer s H args us vs ds μ M Q hr e0 hb r hlen rm rvs h => ?_⟩
  have hl : vs.length = ps.length := by rw [← rvs.length]; exact hlen
  have hin : K.In s.heap := e0.mod.kin.keeps fun b o e => (e0.bs b o e).1
  have nolim : s.heap.NoLimit := e0.mod.nolimit.keeps fun b o e => (e0.bs b o e).1
  have kinds : ∀ y ∈ ps.zip us, scope.names.lookup y.1 = some .local ∨ (scope.names.lookup y.1 = some .cell ∧ ((cellsFrom (s.heap.objs.size + 1) scope.names []).lookup y.1).isSome = true) := by
    rintro ⟨nm, v⟩ hy
    exact (S.par nm (List.of_mem_zip hy).1).imp id fun q => ⟨q, PySem.W.cellsFrom_some _ _ _ (.inl q)⟩
  refine codeAny_call_function hr.room.depth (hin _ _ lk) rfl S.co S.gen rfl (PySem.W.codeRec_of hin hcd) (hb _ _ _ _ (wpAny_newFunctionEnv_cells S.kind kinds fun env he s1 xx => ?_))
  subst he
  refine ⟨nolim.keeps xx.toInCall.keep, codeAny_func ?_⟩
  have I : Inv (cxOf CX0 P w K mg base N qual scope f cdv A outer s H fun _ _ _ => False) [] (L2.start N vs) H s1 := inv_start S hr.room.hd e0 hl r xx
  have body := (hbody A outer s H (hr.deeper _)).nox
  have end_ : ∀ {σ' : L2.St} {H' : Hp} {s' : Shared} {v : V} {u : Value}, Inv (cxOf CX0 P w K mg base N qual scope f cdv A outer s H fun _ _ _ => False) [] σ' H' s' → RelV v u → Q v H' → L2.CE outer P w H s Q u s' :=
    fun {_ _ _ v _} J rv q => ⟨v, _, J.os, J.bare, J.base, J.hok, rv, q⟩
  refine wpAny_mono (body.run [] s1 (L2.start N vs) H { nx := fun _ H' => Q .non H', rt := Q } I ⟨μ, M, ds.map some ++ List.replicate (N.length - ds.length) none, rm, start_rep rvs N, ?_⟩) ?_ (fun e s' hs => hs)
  · rw [hn]
    refine Wants.bndK (rel1 := RepFl K mg) h fun a b μ1 M1 H1 l1 rm1 r w => ?_
    match a, b, r, w with
    | .nx e, .nx σ', r, w => exact Wants.ret (a := D.non) (b := V.non) w rm1 .non
    | .rt d, .rt v, r, w => exact Wants.ret (a := d) (b := v) w rm1 r
    | .bk e, .bk σ', r, w => exact (show False from Wants.fail (M := M1) (rel := RepV K mg) w).elim
    | .ct e, .ct σ', r, w => exact (show False from Wants.fail (M := M1) (rel := RepV K mg) w).elim
  · intro fl s' hs
    match fl, hs with
    | .ret u, ⟨v, σ', H', J, rv, q⟩ => exact end_ J rv q
    | .next, ⟨σ', H', J, q⟩ => exact end_ (v := V.non) (u := Value.none) J rfl q
    | .brk, ⟨_, _, _, q⟩ => exact False.elim q
    | .cont, ⟨_, _, _, q⟩ => exact False.elim q
end DL
end
section
set_option Elab.async false
set_option linter.all false
set_option maxRecDepth 100000
set_option maxHeartbeats 2000000
/-! DL, part o: enumerate of a tuple. -/
namespace DL
open PySem PySem.Spec PyProof.Rows L2
/-- the iterator's record -/
abbrev tupIt (a : Addr) : Obj := { cls := .type "tuple_iterator", data := .fields #[.ref a, .int 0 0] }
abbrev enumOb (i : Addr) : Obj := { cls := .type "enumerate", data := .fields #[.none, .bool false, .ref i, rawInt 0, .none, .none] }
theorem enumT_new (a : Addr) (vals : Array Value) : Meets (Builtin.«enumerate.__new__» ⟨[.type "enumerate", .ref a], []⟩)
    (fun _ R s => s.heap.IsTuple a vals ∧ R (.ok (.ret (.ref (s.heap.push (tupIt a)).objs.size))) { s with heap := (s.heap.push (tupIt a)).push (enumOb s.heap.objs.size) }) :=
  .of_wp fun prog w A R s h => by
    obtain ⟨hp, gn, dr, tk, os⟩ := s
    obtain ⟨ht, h⟩ := h
    have hsub := sub_enumerate
    have q1 : ∀ {A' : Around} {E : Value → Shared → Prop} {Q : Value → Shared → Prop}, Q (.ref hp.objs.size) ⟨hp.push (tupIt a), gn, dr, tk, os⟩ → wpAny (model prog w) A' (pyIter (.ref a)) Q E ⟨hp, gn, dr, tk, os⟩ := fun q => wpAny_pyIter_tuple ht q
    wp_walk using q1
    refine wpAny_stack_any fun st => wpAny_pure ?_
    split
    · rename_i c _ _ _ _ _
      cases (c == Value.type "enumerate") <;> (wp_walk using q1; exact ⟨_, rfl, h⟩)
    · wp_walk using q1
      exact ⟨_, rfl, h⟩
theorem enumT_call {prog : Program} {w : World} {A : Around} {E : Value → Shared → Prop} {s : Shared} {a : Addr} {vals : Array Value} {Q : Value → Shared → Prop} (ht : s.heap.IsTuple a vals)
    (h : ∀ h', IsEnum h' (s.heap.objs.size + 1) s.heap.objs.size 0 .none → h'.get? s.heap.objs.size = some (tupIt a) → (∀ b o, s.heap.get? b = some o → h'.get? b = some o) → Q (.ref (s.heap.objs.size + 1)) { s with heap := h' }) :
    wpAny (model prog w) A (call (.type "enumerate") [.ref a]) Q E s := by
  refine callType_new F.called_enumerate (by decide) (F.typeCall_enumerate_1 _) (F.newCall_enumerate_1 _) (fun obj => F.args_object_init_2 obj _) F.entry_enumerate_new (enumT_new a vals) ⟨ht, ?_⟩
  have size1 : (s.heap.push (tupIt a)).objs.size = s.heap.objs.size + 1 := Heap.size_push ..
  show _ ∧ _
  rw [size1]
  have laid : ((s.heap.push (tupIt a)).push (enumOb s.heap.objs.size)).get? (s.heap.objs.size + 1) = some (enumOb s.heap.objs.size) := by
    rw [← size1]
    exact Heap.get?_push_size _ rfl
  exact ⟨⟨_, laid, rfl⟩, h _ laid (Heap.get?_push_of_some _ (Heap.get?_push_size _ rfl)) fun b o x => Heap.get?_push_of_some _ (Heap.get?_push_of_some _ x)⟩
/-- the tuple at a, each item in a new pair with its number -/
def IteT (K : PySem.W.Frag) (a : Addr) : It :=
  ⟨fun i H => ∃ xs x, SqT K H a xs ∧ xs[i]? = some x, fun i H v H' => ∃ T x, v = .ref T ∧ H T = none ∧ H' = upd H T (.tup [.int (i : Nat), x]) ∧ ∀ xs, SqT K H a xs → xs[i]? = some x, fun i H => ∃ xs, SqT K H a xs ∧ xs.length ≤ i⟩
theorem turn_enumT {P : Program} {w : World} {K : PySem.W.Frag} {elts : List Expr} {kk : Nat} {tpos : Pos} (a e it : Addr) :
    Turn P w K (.Tuple elts kk tpos) (IteT K a) [e, it] e (fun i h => (∃ old, IsEnum h e it ((i : Nat) : Int) old) ∧ h.IsTupleIter it a i ∧ e ≠ it) where
  mem := List.mem_cons_self
  obj := fun i h ⟨⟨old, he⟩, ⟨o, ho, _, hd⟩, _⟩ b hb => by
    rcases List.mem_cons.mp hb with rfl | hb
    · exact ⟨_, he, fun v q => nomatch q⟩
    · rw [List.mem_singleton.mp hb]
      exact ⟨o, ho, fun v q => by rw [hd] at q; cases q⟩
  keep := fun i h h' ⟨⟨old, he⟩, hi, hne⟩ k => ⟨⟨old, k e List.mem_cons_self _ he⟩, hi.at fun o q => k it (List.mem_cons_of_mem _ List.mem_cons_self) o q, hne⟩
  item := by
    intro X hP hw hK hc i pins s σ H E I hf ⟨⟨old, he⟩, hit, hne⟩ ⟨xs, x, hq, hx⟩
    subst hP hw hK
    obtain ⟨its, rv, p, hz⟩ := I.tuple hq
    obtain ⟨u, hu, ru⟩ := rv.get hx
    have le : e < s.heap.objs.size := Heap.lt_size he
    have li : it < s.heap.objs.size := by
      obtain ⟨_, q, _⟩ := hit
      exact Heap.lt_size q
    have la : a < s.heap.objs.size := by
      obtain ⟨_, q, _⟩ := p
      exact Heap.lt_size q
    have fit := hf it (List.mem_cons_of_mem _ List.mem_cons_self)
    have fe := hf e List.mem_cons_self
    have na : a ≠ it ∧ a ≠ e := by
      have known : ∀ b, FpOk X pins H b → (∀ o, s.heap.get? b = some o → o.cls ≠ .type "tuple") → a ≠ b := by
        rintro b _ hcl rfl
        obtain ⟨o, q, c, _⟩ := p
        exact hcl o q c
      refine ⟨known it fit fun o q => ?_, known e fe fun o q => ?_⟩
      · obtain ⟨o', q', c', _⟩ := hit
        rw [q] at q'
        cases q'
        rw [c']
        decide
      · have he' : s.heap.get? e = some _ := he
        rw [q] at he'
        cases he'
        show Value.type "enumerate" ≠ Value.type "tuple"
        decide
    have lt : i < its.toArray.size := by
      have := (List.getElem?_eq_some_iff.mp hu).1
      simpa using this
    refine wpAny_pyNext_enum_itemD (Draws.tuple (A := X.A.in1) (I.ok.hd hc) it a na.1 its.toArray) he ⟨hit, show s.heap.IsTuple a its.toArray from p⟩ lt hne (by simp [hne, Ne.symm na.2]) fun y h' tk hy ho hs hT hsz hk => ?_
    have hyu : y = u := by
      have q : its.toArray[i]? = some u := by simpa using hu
      rw [q] at hy
      exact (Option.some.inj hy).symm
    subst hyu
    refine ⟨_, rfl, wpAny_letOwnedTupleGo_enum (s := { s with heap := h', toks := tk + 1 }) ho fun h'' he' sb => ?_⟩
    have hT2 : h''.get? s.heap.objs.size = some { cls := .type "tuple", data := .seq #[.int i tk, y] } := (sb.2 _ (Nat.ne_of_gt le)).trans hT
    have new : ObjOk X.prog X.w (upd H s.heap.objs.size (.tup [.int (i : Nat), x])) h'' s.heap.objs.size (.tup [.int (i : Nat), x]) :=
      ⟨by show 2 ≤ sizeLine; decide, [.int i tk, y], .cons ⟨_, rfl⟩ (.cons ru .nil), ⟨_, hT2, rfl, _, rfl⟩⟩
    have ne1 : ∀ {b : Addr}, b ∉ [e, it] → b ≠ e ∧ b ≠ it := fun hb => ⟨fun z => hb (by simp [z]), fun z => hb (by simp [z])⟩
    have I1 : Inv X pins σ (upd H s.heap.objs.size (.tup [.int (i : Nat), x])) { s with heap := h'', toks := tk + 1 } :=
      I.turnedNew (ch := [e, it]) (fun b ob hb q => (sb.2 b (ne1 hb).1).trans (hk b ob (ne1 hb).1 (ne1 hb).2 q)) hf (Nat.le_refl _) new
    refine ⟨.ref s.heap.objs.size, _, I1, rfl, ⟨_, x, rfl, I.hok.fresh (Nat.le_refl _), rfl, fun ys hy => by rw [I.tuple_inj hy hq]; exact hx⟩, ⟨⟨y, ?_⟩, hs.1.at fun o q => (sb.2 it (Ne.symm hne)).trans q, hne⟩, fun b hb => ?_⟩
    · have e1 : ((i + 1 : Nat) : Int) = (i : Int) + 1 := by omega
      rw [e1]
      exact he'
    · have lb : b < s.heap.objs.size := by
        rcases List.mem_cons.mp hb with rfl | hb
        · exact le
        · rw [List.mem_singleton.mp hb]
          exact li
      rw [upd_ne (Nat.ne_of_lt lb)]
      exact (hf b hb).1
  done := by
    intro X hP hw hK hc i pins s σ H E I hf ⟨⟨old, he⟩, hit, hne⟩ ⟨xs, hq, hx⟩
    subst hP hw hK
    obtain ⟨its, rv, p, hz⟩ := I.tuple hq
    have fit := hf it (List.mem_cons_of_mem _ List.mem_cons_self)
    obtain ⟨f0, f1, f2, f3, f4, f5⟩ := fit
    have hl := rv.length
    have out : its.toArray[i]? = none := by simp; omega
    have hT : s.TypeIs (.ref e) "enumerate" := ⟨_, he, rfl⟩
    unfold pyNext
    refine wpAny_bind (wpAny_attempt (wpAny_callSpecial?_slot (name := Str.ofString "__next__") hT F.slot_enumerate_next (wpAny_call_entry F.slot_enumerate_next hT F.entry_enumerate_next ?_ (F.args_enumerate_next_1 _))))
    show wpAny _ _ (field (.ref e) 2 >>= _) _ _ _
    refine wpAny_bind (wpAny_field he rfl (x := .ref it) rfl (wpAny_bind (wpAny_nextOf_tuple_end (I.ok.hd hc) hit (show s.heap.IsTuple a its.toArray from p) out fun h' x ext ⟨o, ho, hcl⟩ => ?_)))
    exact wpAny_bind (wpAny_isInstance (T := "StopIteration") (b := true) ⟨o, ho, hcl⟩ isSubtype_stop (wpAny_pure ⟨rfl, I.turned (t' := s.toks) (fun b o hb q => ext b o hb q) f0 f1 f3 f4 f5⟩))
  self := fun A i s Q E ⟨⟨_, he⟩, _⟩ h => wpAny_pyIter_enum he h
def iEnumT (K : PySem.W.Frag) (ta : TA) : TI := fun σ H R => ta σ H fun vs H1 => ∃ a xs, vs = [.ref a] ∧ SqT K H1 a xs ∧ R (IteT K a) H1
theorem pi_enumT {X : Cx} {e : Expr} {ta : TA} {p pos tpos : Pos} {elts : List Expr} {kk : Nat} (hg : Gl X "enumerate") (hm : X.mg "enumerate" = none) (ha : PA X [e] ta) (hs : starEach [e] X.env = [(false, eval e X.env)]) :
    PI X (.Tuple elts kk tpos) (.Call (.Name "enumerate" p) [e] [] pos) (iEnumT X.K ta) := by
  refine ⟨fun pins s σ H R I h => Call_ (ld_blt I hg hm boot_enumerate (PyProof.Rows.callWith_type1 (thn (ha.run pos pins s σ H _ I h) fun us s1 ⟨vs, H1, I1, r1, a, xs, ex, hq, q⟩ => ?_) hs rfl))⟩
  subst ex
  cases r1 with
  | cons r rr =>
    cases rr
    cases r
    obtain ⟨its, rv, p', hz⟩ := I1.tuple hq
    refine enumT_call (show s1.heap.IsTuple a its.toArray from p') fun h' he hit hk => wpAny_pyIter_enum he ?_
    refine ⟨s1.heap.objs.size + 1, [s1.heap.objs.size + 1, s1.heap.objs.size], _, _, H1, rfl, I1.kept (t' := s1.toks) hk, turn_enumT a _ _, ⟨⟨.none, he⟩, ⟨_, hit, rfl, rfl⟩, Nat.succ_ne_self _⟩, fun b hb => ?_, q⟩
    have lb : s1.heap.objs.size ≤ b := by
      rcases List.mem_cons.mp hb with rfl | hb
      · exact Nat.le_succ _
      · rw [List.mem_singleton.mp hb]
        exact Nat.le_refl _
    exact I1.fpOk lb (I1.hok.fresh lb)
section
variable {X : Cx} {W : XW} {T : Tab} {pos p : Pos}
theorem walk_enumT {μ : List Addr} {M : Mem} {H : Hp} {a : Addr} {vs : List V} {ds : List D} (rm : RepM X.K X.mg μ M H) (hq : SqT X.K H a vs) (r : RepVs X.K X.mg μ H ds vs) : WalkOk X.K X.mg (IteT X.K a) none (numbered 0 ds) μ H := by
  intro μ1 M1 H1 l rm1 hc
  have hq := l.sqT rm.sto hq
  have r := r.up l rm
  refine ⟨fun i hi => ⟨vs, hq, by rw [← r.length]; rw [numbered_len] at hi; exact hi⟩, fun i d hd => ?_⟩
  have hlt : i < ds.length := by
    have := (List.getElem?_eq_some_iff.mp hd).1
    rwa [numbered_len] at this
  rw [numbered_get 0 ds i ds[i] (List.getElem?_eq_getElem hlt)] at hd
  cases hd
  obtain ⟨v, hv, rv⟩ := r.get (List.getElem?_eq_getElem hlt)
  refine ⟨⟨vs, v, hq, hv⟩, fun x H' y => ?_⟩
  obtain ⟨TT, w, ex, hT, eH, hx⟩ := y
  subst ex
  subst eH
  have := hx vs hq
  rw [hv] at this
  cases this
  have e0 : ((0 + i : Nat) : Int) = (i : Int) := by rw [Nat.zero_add]
  rw [e0]
  exact rep_pair rm1 hT (.int _) rv
theorem di_enumA {ae : Expr} {elts : List Expr} {kk : Nat} {tpos : Pos} {a : CE} (hg : Gl X "enumerate") (hm : X.mg "enumerate" = none) (ha : DE X W T ae a) (hs : starEach [ae] X.env = [(false, eval ae X.env)]) : DI X W T (.Tuple elts kk tpos) (.Call (.Name "enumerate" p) [ae] [] pos) (.enum a) :=
  pi_imp (pi_or (pi_enumT hg hm (pa_cons ha pa_nil hs) hs) (di_enum (W := W) (T := T) hg hm ha hs)) fun σ H R ⟨μ, M, env, rm, rs, h⟩ => by
    by_cases hh : ∃ ds M', evE T a env M = some (.ok (.tup ds), M')
    · obtain ⟨ds, M', e⟩ := hh
      refine .inl (tD_bndP (fun d => d = .tup ds) rm rs h (f := fun x env => bnd (seqG x) fun p => ret (numbered 0 p.1, p.2)) (fun d M2 e2 => by rw [e] at e2; cases e2; rfl) fun v H1 μ1 M1 d l1 rm1 rs1 rv hd w => ?_)
      subst hd
      cases rv with | @tup aa vs ds hq r => ?_
      exact ⟨aa, vs, rfl, hq, Wants.some (a := (numbered 0 ds, none)) w (Le.refl _ _) rm1 (walk_enumT rm1 hq r)⟩
    · exact .inr ⟨μ, M, env, rm, rs, h, fun ds M' e => hh ⟨ds, M', e⟩⟩
end
end DL
end
section
set_option Elab.async false
set_option linter.all false
set_option maxRecDepth 100000
set_option maxHeartbeats 2000000
/-! DL, part q: len, str, bool, == and != of own instances. -/
namespace DL
open PySem PySem.Spec PyProof.Rows L2
section
variable {X : Cx} {W : XW} {T : Tab} {σ : L2.St} {H : Hp} {pos p : Pos}
theorem fr_of {pins : List (Addr × Obj)} {s : Shared} (I : Inv X pins σ H s) : ∃ m, PyProof.Rows.Fr X.base X.env.locals s.heap m := by
  obtain ⟨m, hn, _⟩ := I.loc
  exact ⟨m, hn, fun b o e => I.bk b o e, Nat.le_trans I.ok.bsz I.ok.above⟩
theorem run_at {A' : Around} {pins : List (Addr × Obj)} {s : Shared} {k n : Nat} {f : Addr} {fd : FuncData} {ps : List Str} {sel : List Sel} {fm : FM} {us : List Value} {vs : List V} {ds as : List D} {μ : List Addr} {M : Mem} {Q : VK}
    (F : FnG X.prog X.w X.K X.mg X.base k f fd ps fm) (hr : Sur k A') (I : Inv X pins σ H s) (e0 : Env0 X.prog X.w X.K X.mg X.base A' X.stack s H) (hb : BindG X.K X.mg fd ps n [] sel) (r : Vals vs us) (ln : us.length = n) (rm : RepM X.K X.mg μ M H) (q : RepVs X.K X.mg μ H ds vs) (e : selD ds sel = some as)
    (h : Wants X.K X.mg W0 (RepV X.K X.mg) (fm as M) μ H Q) : wpAny (model X.prog X.w) A' (call (.ref f) us) (EP X pins σ Q) X.xe s := by
  obtain ⟨rs, hbind, hsel⟩ := hb.to s us [] I.kIn ln rfl
  obtain ⟨rv, r3, q3⟩ := hsel vs μ H ds as (by rw [List.append_nil]; exact r) q e
  exact wpAny_call (codeAny_mono (F.run A' X.stack s H _ rs rv as μ M Q hr e0 hbind r3 ((selD_length e).trans hb.len) rm q3 h) (back_w I))
theorem optF_k {fm : FM} {vs : List D} {g : D → R D} {M : Mem} {μ : List Addr} {Q : VK} {o : Option FM} (ho : o = some fm) (h : Wants X.K X.mg W (RepV X.K X.mg) (bnd (optF o vs) g M) μ H Q) :
    Wants X.K X.mg W0 (RepV X.K X.mg) (fm vs M) μ H (fun v H1 => ∃ μ1 M1 d, RepM X.K X.mg μ1 M1 H1 ∧ RepV X.K X.mg μ1 H1 d v ∧ Wants X.K X.mg W (RepV X.K X.mg) (g d M1) μ1 H1 Q) := by
  subst ho
  have z : Wants X.K X.mg W (RepV X.K X.mg) (optF (some fm) vs M) μ H _ := Wants.bndK (Q' := fun v H1 => ∃ μ1 M1 d, RepM X.K X.mg μ1 M1 H1 ∧ RepV X.K X.mg μ1 H1 d v ∧ Wants X.K X.mg W (RepV X.K X.mg) (g d M1) μ1 H1 Q) h fun a b μ1 M1 H1 l1 rm1 r w => ⟨μ1, M1, a, rm1, r, w⟩
  exact Wants.noErr z
/-- what len, str, bool ask of an instance -/
def rDund (X : Cx) (W : XW) (T : Tab) (k : Dk) (c : Str) : List V → Hp → VK → Prop := fun vs H Q => ∃ μ M d v, vs = [v] ∧ RepM X.K X.mg μ M H ∧ RepV X.K X.mg μ H d v ∧ Wants X.K X.mg W (RepV X.K X.mg) (dundO T k c d M) μ H Q
/-- a method that is called with the object alone -/
structure DundG (X : Cx) (T : Tab) (c m : Str) (k : Nat) : Prop where
  ex : ∃ C f fd ps fm, MethG X T c m C f fd ps k fm ∧ BindG X.K X.mg fd ps 1 [] [.arg 0]
theorem dund_at {c m : Str} {k : Nat} {g : D → R D} {pins : List (Addr × Obj)} {s : Shared} {μ : List Addr} {M : Mem} {d : D} {v : V} {u : Value} {Q : VK} (G : DundG X T c m k) (I : Inv X pins σ H s) (ru : RelV v u) (rm : RepM X.K X.mg μ M H) (rv : RepV X.K X.mg μ H d v)
    (h : Wants X.K X.mg W (RepV X.K X.mg) (bnd (insOf c d) (fun _ => bnd (optF (methOf T c m) [d]) g) M) μ H Q) : ∃ C f a ox od, u = .ref a ∧ X.mg c = some (.ref C) ∧ PySem.W.findIn X.K (.ref C) m = some (some (.ref f)) ∧ PySem.W.isFn X.K (.ref f) = true ∧ PySem.W.InstAt s.heap a ox C (some od) ∧
      ∀ (A' : Around), Sur k A' → Env0 X.prog X.w X.K X.mg X.base A' X.stack s H → wpAny (model X.prog X.w) A' (call (.ref f) [.ref a]) (EP X pins σ fun v H1 => ∃ μ1 M1 d, RepM X.K X.mg μ1 M1 H1 ∧ RepV X.K X.mg μ1 H1 d v ∧ Wants X.K X.mg W (RepV X.K X.mg) (g d M1) μ1 H1 Q) X.xe s := by
  obtain ⟨C, f, fd, ps, fm, G, hb⟩ := G.ex
  obtain ⟨nn, fs, hd, hM, w⟩ := insOf_w h
  subst hd
  cases rv with | @ref _ a hn => ?_
  obtain ⟨dx, gs, ea, rf⟩ := ins_at rm hn hM G.at_
  obtain rfl : u = Value.ref a := ru
  obtain ⟨mA, O, _, _, _, _⟩ := ins_get I.hok ea
  obtain ⟨od, J, _⟩ := O.look
  exact ⟨C, f, a, _, od, rfl, G.at_, G.mt.at_, G.mt.fn, J, fun A' hr e0 => run_at (vs := [V.ref a]) G.fn hr I e0 hb (.cons rfl .nil) rfl rm (.cons (.ref hn) .nil) rfl (optF_k G.tab w)⟩
theorem dundD_len {d : D} {v : V} {M : Mem} {μ : List Addr} {Q : VK} (rm : RepM X.K X.mg μ M H) (rv : RepV X.K X.mg μ H d v) (w : Wants X.K X.mg W (RepV X.K X.mg) (dundD .len d M) μ H Q) : ∃ i : Int, v = .int i ∧ 0 ≤ i ∧ i < 2 ^ 62 ∧ Q (.int i) H := by
  cases rv with
  | int i =>
    have w : Wants X.K X.mg W (RepV X.K X.mg) ((if 0 ≤ i ∧ i < 2 ^ 62 then ret (.int i) else fail) M) μ H Q := w
    obtain ⟨⟨h0, h1⟩, w⟩ := ifT w
    exact ⟨i, rfl, h0, h1, Wants.ret (a := D.int i) w rm (.int i)⟩
  | _ => exact (by obtain ⟨_, _, e, _⟩ := w; cases e)
theorem dundD_str {d : D} {v : V} {M : Mem} {μ : List Addr} {Q : VK} (rm : RepM X.K X.mg μ M H) (rv : RepV X.K X.mg μ H d v) (w : Wants X.K X.mg W (RepV X.K X.mg) (dundD .str d M) μ H Q) : ∃ y, v = .str y ∧ Q (.str y) H := by
  cases rv with
  | str y => exact ⟨y, rfl, Wants.ret (M := M) (a := D.str y) w rm (.str y)⟩
  | _ => exact (by obtain ⟨_, _, e, _⟩ := w; cases e)
theorem dundD_bool {d : D} {v : V} {M : Mem} {μ : List Addr} {Q : VK} (rm : RepM X.K X.mg μ M H) (rv : RepV X.K X.mg μ H d v) (w : Wants X.K X.mg W (RepV X.K X.mg) (dundD .bool d M) μ H Q) : ∃ i : Int, v = .int i ∧ 0 ≤ i ∧ i < 2 ^ 62 ∧ Q (.bl (decide (i ≠ 0))) H := by
  cases rv with
  | int i =>
    have w : Wants X.K X.mg W (RepV X.K X.mg) ((if 0 ≤ i ∧ i < 2 ^ 62 then ret (.bl (decide (i ≠ 0))) else fail) M) μ H Q := w
    obtain ⟨⟨h0, h1⟩, w⟩ := ifT w
    exact ⟨i, rfl, h0, h1, Wants.ret (a := D.bl _) w rm (.bl _)⟩
  | _ => exact (by obtain ⟨_, _, e, _⟩ := w; cases e)
theorem lenO_C {c : Str} {k : Nat} (G : DundG X T c "__len__" k) (hr : Sur (k + 1) X.A) : CallR X (.builtin "len") (rDund X W T .len c) := by
  intro pins s σ H xs us Q I r ⟨μ, M, d, v, ex, rm, rv, h⟩
  subst ex
  obtain ⟨u, rfl, ru⟩ := vals1 r
  obtain ⟨C, f, a, ox, od, rfl, _, hs, hf, J, run⟩ := dund_at G I ru rm rv h
  obtain ⟨m, F⟩ := fr_of I
  refine PySem.W.len_K F I.ok.mod.kin J hs hf (wpAny_mono (run X.A.in1 hr.in1 I.env0.in1) (fun u s' ⟨v, H', I', rv', μ1, M1, d1, rm1, rd, w⟩ => ?_) fun _ _ z => z)
  obtain ⟨i, rfl, h0, h1, q⟩ := dundD_len rm1 rd w
  obtain ⟨t, rfl⟩ := rv'
  exact ⟨⟨h0, Int.lt_trans h1 (by decide)⟩, .int i, H', I'.tok _, ⟨_, rfl⟩, q⟩
theorem strO_C {c : Str} {k : Nat} (G : DundG X T c "__str__" k) (hr : Sur (k + 2) X.A) : CallR X (.type "str") (rDund X W T .str c) := by
  intro pins s σ H xs us Q I r ⟨μ, M, d, v, ex, rm, rv, h⟩
  subst ex
  obtain ⟨u, rfl, ru⟩ := vals1 r
  obtain ⟨C, f, a, ox, od, rfl, _, hs, hf, J, run⟩ := dund_at G I ru rm rv h
  refine PySem.W.kso_call (by have := hr.room.units0; have := hr.room.un; show X.A.units + 1 + 1 < cLine; omega) I.kIn J hs hf (wpAny_mono (run X.A.in1.in1 hr.in1.in1 I.env0.in1.in1) (fun u s' ⟨v, H', I', rv', μ1, M1, d1, rm1, rd, w⟩ => ?_) fun _ _ z => z)
  obtain ⟨y, rfl, q⟩ := dundD_str rm1 rd w
  obtain ⟨t, rfl⟩ := rv'
  exact ⟨.str y, H', I', ⟨_, rfl⟩, q⟩
/-- truth by __len__, where there is no __bool__ -/
theorem truthy_len {prog : Program} {w : World} {A : Around} {E : Value → Shared → Prop} {s : Shared} {K : PySem.W.Frag} {a C L f : Addr} {h₀ : Heap} {m : Str → Option Value} {ox : Obj} {od : Option Obj} {Q : Bool → Shared → Prop} (F : PyProof.Rows.Fr h₀ L s.heap m) (X₀ : K.In h₀) (J : PySem.W.InstAt s.heap a ox C od)
    (hb : PySem.W.findIn K (.ref C) "__bool__" = some none) (hs : PySem.W.findIn K (.ref C) "__len__" = some (some (.ref f))) (hf : PySem.W.isFn K (.ref f) = true)
    (h : wpAny (model prog w) A.in1 (call (.ref f) [.ref a]) (fun v s' => ∃ n t, v = .int n t ∧ (0 ≤ n ∧ n < 2 ^ 63) ∧ Q (n != 0) { s' with toks := s'.toks + 1 }) E s) : wpAny (model prog w) A (truthy (.ref a)) Q E s := by
  have X := X₀.keeps F.keep
  unfold truthy
  refine wpAny_bind (m := callSpecial? (.ref a) (Str.ofString "__bool__")) (wpAny_bind (wpAny_bind (J.type.here ((PySem.W.looks_findIn X hb).here (wpAny_pure ?_)))))
  refine wpAny_bind (wpAny_bind (J.type.here ((PySem.W.looks_findIn X hs).here ?_)))
  refine wpAny_bind (wpAny_runValue (codeAny_builtin entry_len ?_))
  rw [Around.under_plainId plain_len _]
  unfold Builtin.«len»
  refine wpAny_bind (m := oneArg "len" _) (wpAny_pure ?_)
  refine wpAny_bind (m := callSpecial? (.ref a) (Str.ofString "__len__")) (PySem.W.special_fn X J hs (beq_iff_eq.mp hf) (wpAny_mono h (fun r s' hr => ?_) fun _ _ y => y))
  obtain ⟨n, t, rfl, ⟨h0, h1⟩, hq⟩ := hr
  refine wpAny_bind (wpAny_holding (wpAny_pure ?_))
  refine wpAny_bind (wpAny_letGo ?_)
  show wpAny _ _ (if n < 0 then _ else _) _ _ _
  rw [if_neg (by omega)]
  show wpAny _ _ (if n ≥ 2 ^ 63 then _ else _) _ _ _
  rw [if_neg (by omega)]
  exact wpAny_bind (wpAny_mkInt (wpAny_pure (wpAny_pure hq)))
end
end DL
end
section
set_option Elab.async false
set_option linter.all false
set_option maxRecDepth 100000
set_option maxHeartbeats 2000000
/-! DL, part r: bool, == and != of own instances. -/
namespace DL
open PySem PySem.Spec PyProof.Rows L2
section
variable {X : Cx} {W : XW} {T : Tab} {σ : L2.St} {H : Hp} {pos p : Pos}
theorem bool_own {prog : Program} {w : World} {A : Around} {E : Value → Shared → Prop} {s : Shared} {a : Addr} {Q : Value → Shared → Prop} (h : wpAny (model prog w) A.in1.in1 (truthy (.ref a)) (fun b s' => Q (.bool b) s') E s) : wpAny (model prog w) A (call (.type "bool") [.ref a]) Q E s := by
  refine callType_codes (T := "bool") (Bi := Builtin.«object.__init__») (Q₁ := fun r s₁ => ∃ b, r = .bool b ∧ Q r s₁) PySem.F.called_bool (PySem.F.typeCall_bool_1 _) PySem.F.entry_object_init ?_ ?_
  · refine codeAny_of_tree ?_
    show wpAny _ A.in1.in1 (do checkBuiltinCall "bool.__new__" ⟨[.type "bool", .ref a], []⟩; again (.builtin "bool.__new__" ⟨[.type "bool", .ref a], []⟩)) _ _ s
    refine wpAny_bind (wpAny_of_eq (PySem.F.newCall_bool_1 _) (wpAny_pure ⟨plainId_quiet (by decide +kernel) _, codeAny_builtin PySem.F.entry_bool_new ?_⟩))
    rw [Around.under_plainId (by decide +kernel) _]
    have q1 : wpAny (model prog w) A.in1.in1 (truthy (.ref a)) (fun b s' => ∃ b', Value.bool b = .bool b' ∧ Q (.bool b) s') E s := wpAny_mono h (fun b s' q => ⟨b, rfl, q⟩) fun _ _ z => z
    have f1 := F.conv_sub_bool
    obtain ⟨hp, gn, dr, tk, os⟩ := s
    unfold Builtin.«bool.__new__»
    repeat (first | (refine wpAny_bind (wpAny_mono q1 (fun b s' q => ?_) fun _ _ z => z); exact wpAny_pure q) | wp_step)
  · rintro obj s₁ ⟨b, rfl, hq⟩
    exact ⟨rfl, PySem.F.args_object_init_2 _ _, object_init_meets PySem.F.called_bool.init.lookup PySem.F.called_bool.made (by decide) prog w A.in1 _ s₁ ⟨rfl, rfl, hq⟩⟩
theorem boolO_C {c : Str} {k : Nat} (G : DundG X T c "__len__" k) (hr : Sur (k + 3) X.A) (hno : ∀ C, X.mg c = some (.ref C) → PySem.W.findIn X.K (.ref C) "__bool__" = some none) : CallR X (.type "bool") (rDund X W T .bool c) := by
  intro pins s σ H xs us Q I r ⟨μ, M, d, v, ex, rm, rv, h⟩
  subst ex
  obtain ⟨u, rfl, ru⟩ := vals1 r
  obtain ⟨C, f, a, ox, od, rfl, hC, hs, hf, J, run⟩ := dund_at G I ru rm rv h
  obtain ⟨m, F⟩ := fr_of I
  refine bool_own (truthy_len F I.ok.mod.kin J (hno C hC) hs hf (wpAny_mono (run X.A.in1.in1.in1 hr.in1.in1.in1 I.env0.in1.in1.in1) (fun u s' ⟨v, H', I', rv', μ1, M1, d1, rm1, rd, w⟩ => ?_) fun _ _ z => z))
  obtain ⟨i, rfl, h0, h1, q⟩ := dundD_bool rm1 rd w
  obtain ⟨t, rfl⟩ := rv'
  have e : (i != 0) = decide (i ≠ 0) := by by_cases h : i = 0 <;> simp [h]
  exact ⟨i, t, rfl, ⟨h0, Int.lt_trans h1 (by decide)⟩, by rw [e]; exact ⟨.bl _, H', I'.tok _, rfl, q⟩⟩
/-! ### == and != -/
def rEq (X : Cx) (W : XW) (T : Tab) (ne : Bool) (c : Str) : R2 := fun x y H Q => ∃ μ M d e, RepM X.K X.mg μ M H ∧ RepV X.K X.mg μ H d x ∧ RepV X.K X.mg μ H e y ∧ Wants X.K X.mg W (RepV X.K X.mg) (eqO T ne c d e M) μ H Q
structure EqG (X : Cx) (T : Tab) (c : Str) (k : Nat) : Prop where
  ex : ∃ C f fd ps fm, X.mg c = some (.ref C) ∧ PySem.W.findIn X.K (.ref C) "__eq__" = some (some (.ref f)) ∧ PySem.W.isFn X.K (.ref f) = true ∧ FnG X.prog X.w X.K X.mg X.base k f fd ps fm ∧ BindG X.K X.mg fd ps 2 [] [.arg 0, .arg 1] ∧ eqmOf T c = some fm ∧
    PySem.W.findIn X.K (.ref C) "__ne__" = some (some (.builtin "object.__ne__")) ∧ PySem.W.mroIn X.K C (.type "object") = some true ∧
    (∀ t ∈ ["NoneType", "bool", "int", "str", "tuple", "list"], PySem.W.notFirst X.K C (.type t) = true) ∧ ∀ c' ct, T.cls c' = some ct → ∀ C', X.mg c' = some (.ref C') → InsTy X.K C' ∧ PySem.W.notFirst X.K C (.ref C') = true
theorem ty_any {C : Addr} {μ : List Addr} {M : Mem} {d : D} {v : V} (tys : ∀ t ∈ ["NoneType", "bool", "int", "str", "tuple", "list"], PySem.W.notFirst X.K C (.type t) = true) (ins : ∀ c' ct, T.cls c' = some ct → ∀ C', X.mg c' = some (.ref C') → InsTy X.K C' ∧ PySem.W.notFirst X.K C (.ref C') = true)
    (rm : RepM X.K X.mg μ M H) (rv : RepV X.K X.mg μ H d v) (ho : insOk T M d = true) (hd : plainR d = true) : ∃ t, TyX X.K H v t ∧ PySem.W.notFirst X.K C t = true := by
  cases rv with
  | non => exact ⟨_, .base .non, tys _ (by decide)⟩
  | bl x => exact ⟨_, .base (.bl x), tys _ (by decide)⟩
  | int x => exact ⟨_, .base (.int x), tys _ (by decide)⟩
  | str x => exact ⟨_, .base (.str x), tys _ (by decide)⟩
  | tup h r => exact ⟨_, tyx_tup h, tys _ (by decide)⟩
  | fl h r => exact ⟨_, tyx_fl h, tys _ (by decide)⟩
  | @ref k a hk =>
    have ho : (match M[k]? with | some (.ins c _) => (T.cls c).isSome | _ => true) = true := ho
    have hlt : k < M.length := by
      rw [← rm.len]
      exact (List.getElem?_eq_some_iff.mp hk).1
    cases hm : M[k] with
    | lst ds =>
      obtain ⟨vs, h1, _⟩ := rm.obj _ _ _ hk (by rw [List.getElem?_eq_getElem hlt, hm])
      exact ⟨_, .base (.lst h1), tys _ (by decide)⟩
    | ins c' fs =>
      have hM : M[k]? = some (.ins c' fs) := by rw [List.getElem?_eq_getElem hlt, hm]
      rw [hM] at ho
      obtain ⟨ct, hct⟩ := Option.isSome_iff_exists.mp ho
      obtain ⟨C', dx, gs, hC, h1, _⟩ := rm.obj _ _ _ hk hM
      obtain ⟨t, k1⟩ := ins c' ct hct C' hC
      exact ⟨_, tyx_ins t h1, k1⟩
  | glo _ _ => cases hd
  | bty _ => cases hd
theorem isS_of {c : Str} {ne : Bool} {d e : D} {M : Mem} {μ : List Addr} {Q : VK} (h : Wants X.K X.mg W (RepV X.K X.mg) (eqO T ne c d e M) μ H Q) : (insOk T M e = true ∧ plainR e = true) ∧ Wants X.K X.mg W (RepV X.K X.mg) (bnd (insOf c d) (fun _ => bnd (optF (eqmOf T c) [d, e]) fun r => bnd (asBl r) fun b => ret (.bl (if ne = true then !b else b))) M) μ H Q := by
  unfold eqO at h
  exact h.iteN
theorem objNe_own {prog : Program} {w : World} {A : Around} {E : Value → Shared → Prop} {s : Shared} {K : PySem.W.Frag} {a C f : Addr} {ox : Obj} {od : Option Obj} {u : Value} {Q : Option Value → Shared → Prop} (hu : A.in1.units < cLine) (X : K.In s.heap) (J : PySem.W.InstAt s.heap a ox C od)
    (hn : PySem.W.findIn K (.ref C) "__ne__" = some (some (.builtin "object.__ne__"))) (hm : PySem.W.mroIn K C (.type "object") = some true) (hs : PySem.W.findIn K (.ref C) "__eq__" = some (some (.ref f))) (hf : PySem.W.isFn K (.ref f) = true)
    (h : wpAny (model prog w) A.in1 (call (.ref f) [.ref a, u]) (fun v s' => ∃ b, v = .bool b ∧ Q (some (.bool (!b))) s') E s) : wpAny (model prog w) A (callSpecialIfBound? (.ref a) "__ne__" [u]) Q E s := by
  have inner : wpAny (model prog w) A (call (.builtin "object.__ne__") [.ref a, u]) (fun v => Q (some v)) E s := by
    refine wpAny_call (codeAny_call_builtin PySem.F.slot_object_ne.plain PySem.F.cmpEntry_ne (PySem.W.check_slot (i := "object.__ne__") (owner := "object") (n := "__ne__") PySem.F.cmpKind_ne PySem.F.cmpSplit_ne (J.type.andThen (PySem.W.looks_mroIn X hm)) (PySem.F.cmpArgs_ne _ _) ?_))
    unfold Builtin.«object.__ne__»
    refine wpAny_bind (m := slotArgs "__ne__" 1 _) (wpAny_pure ?_)
    refine wpAny_bind (m := cRoomFor _ _) (wpAny_cRoomFor hu ?_)
    refine wpAny_bind (m := callSpecialIfBound? (.ref a) (Str.ofString "__eq__") [u]) (PySem.W.ifBound_K X J hs hf (wpAny_mono h (fun r s' hr => ?_) fun _ _ z => z))
    obtain ⟨b, rfl, hq⟩ := hr
    refine wpAny_bind (wpAny_truthy_bool (wpAny_pure hq))
  simp only [callSpecialIfBound?, bindSpecialIfBound?]
  refine wpAny_holding (wpAny_bind (wpAny_bind (wpAny_bind (J.type.here ((PySem.W.looks_findIn X hn).here ?_)))))
  refine wpAny_bind (wpAny_askSetting (wpAny_ite ?_))
  have fin : wpAny (model prog w) A (call (.builtin "object.__ne__") ([.ref a] ++ [u]) >>= fun v => pure (some v)) Q E s := wpAny_bind (wpAny_mono inner (fun v s' h' => wpAny_pure h') fun _ _ h' => h')
  have bnd_ := PySem.W.Looks.of_pure (M := model prog w) (h := s.heap) (PySem.F.slot_object_ne.bind (.ref a))
  split
  · exact wpAny_bind (bnd_.here (wpAny_pure (by exact fin)))
  · exact wpAny_tryCatch (wpAny_bind (bnd_.here (wpAny_pure (by exact fin))))
theorem eq_core {c : Str} {k : Nat} {ne : Bool} {op : CmpOp} (hop : op = if ne then .NotEq else .Eq) (G : EqG X T c k) (hr : Sur (k + 1) X.A) : OpR X (compareOp op) (rEq X W T ne c) := by
  intro pins s σ H x y v u Q I rx ry ⟨μ, M, d, e, rm, rd, re, h⟩
  obtain ⟨C, f, fd, ps, fm, hC, hs, hf, F, hb, ht, hn, hm, tys, ins⟩ := G.ex
  obtain ⟨⟨ho, hp⟩, w⟩ := isS_of h
  obtain ⟨nn, fs, hd, hM, w⟩ := insOf_w w
  subst hd
  cases rd with | @ref _ a hnn => ?_
  obtain ⟨dx, gs, ea, rf⟩ := ins_at rm hnn hM hC
  obtain rfl : v = Value.ref a := rx
  obtain ⟨mA, O, _, _, _, _⟩ := ins_get I.hok ea
  obtain ⟨od, J, _⟩ := O.look
  obtain ⟨m, Fr⟩ := fr_of I
  obtain ⟨t, ty, nf⟩ := ty_any tys ins rm re ho hp
  obtain ⟨P, Z, pz, _⟩ := kit_of I ry ty
  have LB := Z.ty (model X.prog X.w) s.heap I.kIn pz
  have z := optF_k ht w
  have done : ∀ {v' : V} {H1 : Hp} {μ1 : List Addr} {M1 : Mem} {d1 : D}, RepM X.K X.mg μ1 M1 H1 → RepV X.K X.mg μ1 H1 d1 v' → Wants X.K X.mg W (RepV X.K X.mg) (bnd (asBl d1) (fun b => ret (.bl (if ne = true then !b else b))) M1) μ1 H1 Q → ∃ b, v' = .bl b ∧ Q (.bl (if ne = true then !b else b)) H1 := by
    intro v' H1 μ1 M1 d1 rm1 rd w
    cases rd with
    | bl b => exact ⟨b, rfl, Wants.ret (M := M1) (a := D.bl (if ne = true then !b else b)) w rm1 (.bl _)⟩
    | _ => exact (by obtain ⟨_, _, q, _⟩ := w; cases q)
  have units : X.A.in1.units < cLine := by have := hr.room.units; show X.A.units + 1 < cLine; omega
  unfold compareOp
  cases ne with
  | false =>
    subst hop
    have call := run_at (us := [.ref a, u]) (vs := [V.ref a, y]) F (hr.mono (Nat.le_succ _)) I I.env0 hb (.cons rfl (.cons ry .nil)) rfl rm (.cons (.ref hnn) (.cons re .nil)) rfl z
    refine PySem.W.cmp_K (op := .Eq) hr.room.units0 Fr I.ok.mod.kin J LB nf hs hf (wpAny_mono call (fun v2 s2 ⟨v', H', I', rv', μ1, M1, d1, rm1, rd, w⟩ => ?_) fun _ _ z => z)
    obtain ⟨b, rfl, q⟩ := done rm1 rd w
    obtain rfl : v2 = Value.bool b := rv'
    exact ⟨.bl b, H', I', rfl, q⟩
  | true =>
    subst hop
    have call := run_at (us := [.ref a, u]) (vs := [V.ref a, y]) (A' := X.A.in1) F hr.in1 I I.env0.in1 hb (.cons rfl (.cons ry .nil)) rfl rm (.cons (.ref hnn) (.cons re .nil)) rfl z
    have one : wpAny (model X.prog X.w) X.A (tryCompare (.ref a) (cmpInfo .NotEq).2.1 u) (fun r s' => ∃ v, r = some v ∧ EP X pins σ Q v s') X.xe s := by
      unfold tryCompare
      refine wpAny_bind (objNe_own units I.kIn J hn hm hs hf (wpAny_mono call (fun v2 s2 ⟨v', H', I', rv', μ1, M1, d1, rm1, rd, w⟩ => ?_) fun _ _ z => z))
      obtain ⟨b, rfl, q⟩ := done rm1 rd w
      obtain rfl : v2 = Value.bool b := rv'
      exact ⟨b, rfl, wpAny_pure ⟨_, rfl, .bl (!b), H', I', rfl, q⟩⟩
    unfold richCompare
    simp only [oneThing_ref]
    refine wpAny_holding (wpAny_bind (wpAny_cRoomFor hr.room.units0 ?_))
    refine wpAny_bind (J.type.here (wpAny_bind (LB.here ?_)))
    have tail : wpAny (model X.prog X.w) X.A (do
        if let some v ← tryCompare (.ref a) (cmpInfo .NotEq).2.1 u then return v
        unsupported "") (EP X pins σ Q) X.xe s → True := fun _ => trivial
    by_cases q : (Value.ref C != t) = true
    · rw [if_pos q]
      have e : PySem.W.subIn X.K t (.ref C) = some false := by
        rcases Bool.or_eq_true_iff.mp nf with e | e
        · rw [beq_iff_eq.mp e] at q; simp at q
        · exact beq_iff_eq.mp e
      refine wpAny_bind ((PySem.W.looks_subIn I.kIn e).here ?_)
      simp only [Bool.false_eq_true, if_false]
      refine wpAny_bind (wpAny_mono one (fun r s' z => ?_) fun _ _ e => e)
      obtain ⟨v, rfl, hq⟩ := z
      exact wpAny_pure hq
    · rw [if_neg q]
      refine wpAny_bind (wpAny_pure ?_)
      simp only [Bool.false_eq_true, if_false]
      refine wpAny_bind (wpAny_mono one (fun r s' z => ?_) fun _ _ e => e)
      obtain ⟨v, rfl, hq⟩ := z
      exact wpAny_pure hq
end
end DL
end
section
set_option Elab.async false
set_option linter.all false
set_option maxRecDepth 100000
set_option maxHeartbeats 2000000
/-! DL, part s: the rules as a text uses them. -/
namespace DL
open PySem PySem.Spec PyProof.Rows L2
/-- what every rule asks of the place -/
structure Cok (X : Cx) (k : Nat) : Prop where
  calm : X.calm = true
  nd : X.N.Nodup
  sur : Sur k X.A
theorem Cok.blk {X : Cx} {k : Nat} (c : Cok X k) {s : Shared} {H : Hp} {scope : Scope} {env : PySem.Env} {fp : List Addr} : Cok (X.blk s H scope env fp) k := ⟨c.calm, c.nd, c.sur⟩
/-- the built-in names are not the module's -/
structure Blt (mg : Str → Option Value) : Prop where
  len : mg "len" = none
  abs : mg "abs" = none
  max : mg "max" = none
  min : mg "min" = none
  sum : mg "sum" = none
  any : mg "any" = none
  all : mg "all" = none
  sorted : mg "sorted" = none
  repr : mg "repr" = none
  int : mg "int" = none
  str : mg "str" = none
  list : mg "list" = none
  tuple : mg "tuple" = none
  bool : mg "bool" = none
  isinstance : mg "isinstance" = none
  enumerate : mg "enumerate" = none
  zip : mg "zip" = none
  range : mg "range" = none
section
variable {X : Cx} {W : XW} {T : Tab} {k : Nat} {a b c e : Expr} {es : List Expr} {ca cb cc ce : CE} {as : CEs} {pos p apos : Pos} {x : Str}
theorem e_v (i : Nat) (hN : X.N[i]? = some x := by rfl) (hv : Vis X.env.scope x := by first | exact Or.inl rfl | exact Or.inr (Or.inl rfl) | exact Or.inr (Or.inr rfl)) (hd : (x == ("__debug__" : Str)) = false := by decide) (hc : (x == ("__classdict__" : Str)) = false := by decide) : DE X W T (.Name x pos) (.var i) := de_var hN hv hd hc
theorem e_int {i : Int} {j} : DE X W T (.Constant (.int i) j pos) (.con (.int i)) := de_c pe_int fun _ _ => .int _
theorem e_bl {i : Bool} {j} : DE X W T (.Constant (.bool i) j pos) (.con (.bl i)) := de_c pe_bl fun _ _ => .bl _
theorem e_non {j} : DE X W T (.Constant .none j pos) (.con .non) := de_c pe_non fun _ _ => .non
theorem e_str {y : Str} {j} : DE X W T (.Constant (.str y) j pos) (.con (.str y)) := de_c pe_str fun _ _ => .str _
theorem e_glob {d : D} {v : V} {u : Value} (hm : X.mg x = some u) (r : RelV v u) (hv : ∀ μ H, RepV X.K X.mg μ H d v) (hg : Gl X x := by rfl) (hd : (x == ("__debug__" : Str)) = false := by decide) : DE X W T (.Name x pos) (.con d) := de_c (pe_glob hg hm r hd) hv
theorem e_bin (o : BinO) (ha : DE X W T a ca) (hb : DE X W T b cb) : DE X W T (.BinOp a (opOf o) b pos) (.bin o ca cb) := de_bin o ha hb
theorem e_neg (ha : DE X W T a ca) : DE X W T (.UnaryOp .USub a pos) (.neg ca) := de_neg ha
theorem e_cmp (C : Cok X k) (o : CmpO) (ha : DE X W T a ca) (hb : DE X W T b cb) (hm : behindInMarks (cmpOf o) b = false := by rfl) : DE X W T (.Compare a [cmpOf o] [b] pos) (.cmp o ca cb) := de_cmp C.sur.room o ha hb hm
theorem t_cmp (C : Cok X k) (o : CmpO) (ha : DE X W T a ca) (hb : DE X W T b cb) (hm : behindInMarks (cmpOf o) b = false := by rfl) : DT X W T (.Compare a [cmpOf o] [b] pos) (.bl (.cmp o ca cb)) := dt_cmp C.sur.room o ha hb hm
theorem e_chain (C : Cok X k) (o o' : CmpO) (ha : DE X W T a ca) (hb : DE X W T b cb) (hc : DE X W T c cc) (hm : lastMarks [cmpOf o, cmpOf o'] [b, c] = false := by rfl) : DE X W T (.Compare a [cmpOf o, cmpOf o'] [b, c] pos) (.chain o o' ca cb cc) := de_chain C.sur.room o o' ha hb hc hm
theorem t_chain (C : Cok X k) (o o' : CmpO) (ha : DE X W T a ca) (hb : DE X W T b cb) (hc : DE X W T c cc) (hm : lastMarks [cmpOf o, cmpOf o'] [b, c] = false := by rfl) : DT X W T (.Compare a [cmpOf o, cmpOf o'] [b, c] pos) (.bl (.chain o o' ca cb cc)) := dt_chain C.sur.room o o' ha hb hc hm
theorem e_ite {t : CT} (ht : DT X W T a t) (hb : DE X W T b cb) (hc : DE X W T c cc) : DE X W T (.IfExp a b c pos) (.ite t cb cc) := de_ite ht hb hc
theorem as_nil : DEs X W T [] .nil := da_nil
theorem as_cons (ha : DE X W T e ce) (hr : DEs X W T es as) (hs : starEach (e :: es) X.env = (false, eval e X.env) :: starEach es X.env := by rfl) : DEs X W T (e :: es) (.cons ce as) := da_cons ha hr hs
theorem e_tup {x1 : Nat} (h : DEs X W T es as) : DE X W T (.Tuple es x1 pos) (.tup as) := de_tup h
theorem e_lst (h : DEs X W T es as) : DE X W T (.List es pos) (.lst as) := de_lst h
theorem e_ix (ha : DE X W T a ca) (hb : DE X W T b cb) (hs : PlainIx b := by exact fun _ _ => rfl) : DE X W T (.Subscript a b pos) (.ix ca cb) := de_ix ha hb hs
theorem o_no : DO X W T none .no := do_no
theorem o_yes (ha : DE X W T a ca) : DO X W T (some a) (.yes ca) := do_yes ha
theorem e_slice {lo hi : Option Expr} {cl ch : CO} {p2 : Pos} (ha : DE X W T a ca) (hl : DO X W T lo cl) (hh : DO X W T hi ch) : DE X W T (.Subscript a (.Slice lo hi none p2) pos) (.slice ca cl ch) := de_slice ha hl hh
/-! ### tests -/
theorem t_val (ha : DE X W T a ca) (he : ∀ whole, isTrue a X.env whole = (do let v ← whole; standAt a.pos; holding [v] (truthy v)) := by intro _; rfl) : DT X W T a (.val ca) := dt_val ha he
theorem t_not {t : CT} (ha : DT X W T a t) : DT X W T (.UnaryOp .Not a pos) (.nt t) := dt_not ha
abbrev DW (X : Cx) (W : XW) (T : Tab) (e : Expr) (t : CT) : Prop := PW X e (tTD X.K X.mg W (evT T t))
theorem w_and1 {t : CT} (ha : DT X W T a t) : DW X W T (.BoolOp .And [a] pos) t := pw_and1 ha
theorem w_or1 {t : CT} (ha : DT X W T a t) : DW X W T (.BoolOp .Or [a] pos) t := pw_or1 ha
theorem w_and {t u : CT} {rest : List Expr} (ha : DT X W T a t) (hb : DW X W T (.BoolOp .And (b :: rest) pos) u) : DW X W T (.BoolOp .And (a :: b :: rest) pos) (.an t u) := dw_and ha hb
theorem w_or {t u : CT} {rest : List Expr} (ha : DT X W T a t) (hb : DW X W T (.BoolOp .Or (b :: rest) pos) u) : DW X W T (.BoolOp .Or (a :: b :: rest) pos) (.or t u) := dw_or ha hb
theorem t_bool {t : CT} (h : DW X W T a t) : DT X W T a t := h.pt
/-! ### and, or, not as values -/
theorem tru_w {α β : Type} {rel : List Addr → Hp → α → β → Prop} {d : D} {f : Bool → R α} {M : Mem} {μ : List Addr} {H : Hp} {Q : β → Hp → Prop} (h : Wants X.K X.mg W rel (bnd (tru d) f M) μ H Q) : ∃ k, truD M d = some k ∧ Wants X.K X.mg W rel (f k M) μ H Q := by
  obtain ⟨r, M', e, kk⟩ := h
  cases ht : truD M d with
  | none =>
    have z : tru d M = none := by unfold tru; rw [ht]
    unfold bnd at e
    rw [z] at e
    cases e
  | some k =>
    have z : tru d M = some (.ok k, M) := by unfold tru; rw [ht]
    unfold bnd at e
    rw [z] at e
    exact ⟨k, rfl, r, M', e, kk⟩
theorem e_and1 (ha : DE X W T a ca) : DE X W T (.BoolOp .And [a] pos) ca := ⟨fun pins s σ H Q I h => by
  have z := ha.run pins s σ H Q I h
  have e : eval (.BoolOp .And [a] pos) X.env = eval a X.env := by
    first
      | rfl
      | (rw [eval]; rfl)
      | (simp only [eval, boolOp]; rfl)
  rw [e]; exact z⟩
theorem e_or1 (ha : DE X W T a ca) : DE X W T (.BoolOp .Or [a] pos) ca := ⟨fun pins s σ H Q I h => by
  have z := ha.run pins s σ H Q I h
  have e : eval (.BoolOp .Or [a] pos) X.env = eval a X.env := by
    first
      | rfl
      | (rw [eval]; rfl)
      | (simp only [eval, boolOp]; rfl)
  rw [e]; exact z⟩
theorem e_and {rest : List Expr} (ha : DE X W T a ca) (hb : DE X W T (.BoolOp .And (b :: rest) pos) cb) : DE X W T (.BoolOp .And (a :: b :: rest) pos) (.andV ca cb) :=
  pe_imp (pe_andT ha hb) fun σ H Q ⟨μ, M, env, rm, rs, h⟩ => tD_bnd rm rs h (f := fun x env => bnd (tru x) fun k => if k = true then evE T cb env else ret x) fun v H1 μ1 M1 d l1 rm1 rs1 rv w => by
    obtain ⟨k, hk, w⟩ := tru_w w
    refine ⟨k, tru_v rm1 rv hk, ?_⟩
    cases k with
    | true => exact ⟨μ1, M1, env, rm1, rs1, w⟩
    | false => exact Wants.ret (M := M1) (a := d) w rm1 rv
theorem e_or {rest : List Expr} (ha : DE X W T a ca) (hb : DE X W T (.BoolOp .Or (b :: rest) pos) cb) : DE X W T (.BoolOp .Or (a :: b :: rest) pos) (.orV ca cb) :=
  pe_imp (pe_orT ha hb) fun σ H Q ⟨μ, M, env, rm, rs, h⟩ => tD_bnd rm rs h (f := fun x env => bnd (tru x) fun k => if k = true then ret x else evE T cb env) fun v H1 μ1 M1 d l1 rm1 rs1 rv w => by
    obtain ⟨k, hk, w⟩ := tru_w w
    refine ⟨k, tru_v rm1 rv hk, ?_⟩
    cases k with
    | false => exact ⟨μ1, M1, env, rm1, rs1, w⟩
    | true => exact Wants.ret (M := M1) (a := d) w rm1 rv
theorem e_not (ha : DE X W T a ca) : DE X W T (.UnaryOp .Not a pos) (.notV ca) :=
  pe_imp (pe_notT ha) fun σ H Q ⟨μ, M, env, rm, rs, h⟩ => tD_bnd rm rs h (f := fun x env => bnd (tru x) fun k => ret (D.bl (!k))) fun v H1 μ1 M1 d l1 rm1 rs1 rv w => by
    obtain ⟨k, hk, w⟩ := tru_w w
    exact ⟨k, tru_v rm1 rv hk, Wants.ret (M := M1) (a := D.bl (!k)) w rm1 (.bl _)⟩
/-! ### built-in functions -/
section
variable (C : Cok X k) (B : Blt X.mg) (ha : DEs X W T (e :: es) as)
include C B ha
theorem e_len (hg : Gl X "len" := by rfl) (he : starEach (e :: es) X.env = (false, eval e X.env) :: starEach es X.env := by rfl) (hpl : (backTo pos (starEach es X.env)).any (·.1) = false := by rfl) : DE X W T (.Call (.Name "len" p) (e :: es) [] pos) (.bcall .len as) := de_callB lenC hg B.len (by decide +kernel) (by decide +kernel) (by decide +kernel) ha he hpl
theorem e_abs (hg : Gl X "abs" := by rfl) (he : starEach (e :: es) X.env = (false, eval e X.env) :: starEach es X.env := by rfl) (hpl : (backTo pos (starEach es X.env)).any (·.1) = false := by rfl) : DE X W T (.Call (.Name "abs" p) (e :: es) [] pos) (.bcall .abs as) := de_callB absC hg B.abs (by decide +kernel) (by decide +kernel) (by decide +kernel) ha he hpl
theorem e_max (hg : Gl X "max" := by rfl) (he : starEach (e :: es) X.env = (false, eval e X.env) :: starEach es X.env := by rfl) (hpl : (backTo pos (starEach es X.env)).any (·.1) = false := by rfl) : DE X W T (.Call (.Name "max" p) (e :: es) [] pos) (.bcall .max as) := de_callB (maxC C.calm) hg B.max (by decide +kernel) (by decide +kernel) (by decide +kernel) ha he hpl
theorem e_min (hg : Gl X "min" := by rfl) (he : starEach (e :: es) X.env = (false, eval e X.env) :: starEach es X.env := by rfl) (hpl : (backTo pos (starEach es X.env)).any (·.1) = false := by rfl) : DE X W T (.Call (.Name "min" p) (e :: es) [] pos) (.bcall .min as) := de_callB (minC C.calm) hg B.min (by decide +kernel) (by decide +kernel) (by decide +kernel) ha he hpl
theorem e_sum (hg : Gl X "sum" := by rfl) (he : starEach (e :: es) X.env = (false, eval e X.env) :: starEach es X.env := by rfl) (hpl : (backTo pos (starEach es X.env)).any (·.1) = false := by rfl) : DE X W T (.Call (.Name "sum" p) (e :: es) [] pos) (.bcall .sum as) := de_callB (sumC C.calm) hg B.sum (by decide +kernel) (by decide +kernel) (by decide +kernel) ha he hpl
theorem e_any (hg : Gl X "any" := by rfl) (he : starEach (e :: es) X.env = (false, eval e X.env) :: starEach es X.env := by rfl) (hpl : (backTo pos (starEach es X.env)).any (·.1) = false := by rfl) : DE X W T (.Call (.Name "any" p) (e :: es) [] pos) (.bcall .any as) := de_callB (anyC C.calm) hg B.any (by decide +kernel) (by decide +kernel) (by decide +kernel) ha he hpl
theorem e_all (hg : Gl X "all" := by rfl) (he : starEach (e :: es) X.env = (false, eval e X.env) :: starEach es X.env := by rfl) (hpl : (backTo pos (starEach es X.env)).any (·.1) = false := by rfl) : DE X W T (.Call (.Name "all" p) (e :: es) [] pos) (.bcall .all as) := de_callB (allC C.calm) hg B.all (by decide +kernel) (by decide +kernel) (by decide +kernel) ha he hpl
theorem e_sorted (hg : Gl X "sorted" := by rfl) (he : starEach (e :: es) X.env = (false, eval e X.env) :: starEach es X.env := by rfl) (hpl : (backTo pos (starEach es X.env)).any (·.1) = false := by rfl) : DE X W T (.Call (.Name "sorted" p) (e :: es) [] pos) (.bcall .sorted as) := de_callB sortedC hg B.sorted (by decide +kernel) (by decide +kernel) (by decide +kernel) ha he hpl
theorem e_repr (hg : Gl X "repr" := by rfl) (he : starEach (e :: es) X.env = (false, eval e X.env) :: starEach es X.env := by rfl) (hpl : (backTo pos (starEach es X.env)).any (·.1) = false := by rfl) : DE X W T (.Call (.Name "repr" p) (e :: es) [] pos) (.bcall .repr as) := de_callB (reprC C.sur.gd C.sur.room) hg B.repr (by decide +kernel) (by decide +kernel) (by decide +kernel) ha he hpl
theorem e_intc (hg : Gl X "int" := by rfl) (he : starEach (e :: es) X.env = (false, eval e X.env) :: starEach es X.env := by rfl) (hpl : (backTo pos (starEach es X.env)).any (·.1) = false := by rfl) : DE X W T (.Call (.Name "int" p) (e :: es) [] pos) (.bcall .int as) := de_callTy intC hg B.int (by decide +kernel) (by decide +kernel) (by decide +kernel) ha he hpl
theorem e_strc (hg : Gl X "str" := by rfl) (he : starEach (e :: es) X.env = (false, eval e X.env) :: starEach es X.env := by rfl) (hpl : (backTo pos (starEach es X.env)).any (·.1) = false := by rfl) : DE X W T (.Call (.Name "str" p) (e :: es) [] pos) (.bcall .str as) := de_callTy strC hg B.str (by decide +kernel) (by decide +kernel) (by decide +kernel) ha he hpl
theorem e_listc (hg : Gl X "list" := by rfl) (he : starEach (e :: es) X.env = (false, eval e X.env) :: starEach es X.env := by rfl) (hpl : (backTo pos (starEach es X.env)).any (·.1) = false := by rfl) : DE X W T (.Call (.Name "list" p) (e :: es) [] pos) (.bcall .list as) := de_callTy listC hg B.list (by decide +kernel) (by decide +kernel) (by decide +kernel) ha he hpl
theorem e_tuplec (hg : Gl X "tuple" := by rfl) (he : starEach (e :: es) X.env = (false, eval e X.env) :: starEach es X.env := by rfl) (hpl : (backTo pos (starEach es X.env)).any (·.1) = false := by rfl) : DE X W T (.Call (.Name "tuple" p) (e :: es) [] pos) (.bcall .tuple as) := de_callTy tupleC hg B.tuple (by decide +kernel) (by decide +kernel) (by decide +kernel) ha he hpl
end
/-! ### methods of lists and texts -/
section
variable {o : Expr} {co : CE} (ho : DE X W T o co) (ha : DEs X W T (e :: es) as)
include ho ha
theorem e_append (hb : attributeBase o "append" X.env (eval o X.env) = eval o X.env := by rfl) (hf : ((backTo pos (starEach (e :: es) X.env)).all (fun x => !x.1) && (backToKw pos (keywordEach [] X.env)).all (fun x => x.1.isSome) && decide ((e :: es).length + ([] : List Keyword).length + (if ([] : List Keyword).isEmpty then 0 else 1) < 30)) = true := by rfl)
    (hl : (apos.endLine == pos.line) = true := by rfl) (hs : starEach (e :: es) X.env = (false, eval e X.env) :: starEach es X.env := by rfl) (hpl : (backTo pos (starEach es X.env)).any (·.1) = false := by rfl) : DE X W T (.Call (.Attribute o "append" apos) (e :: es) [] pos) (.bmeth .append co as) :=
  de_bm PySem.F.plainAttrs_list PySem.F.slot_list_append PySem.F.type_list_append appendMt ho ha hb hf hl hs hpl
theorem e_popA (hb : attributeBase o "pop" X.env (eval o X.env) = eval o X.env := by rfl) (hf : ((backTo pos (starEach (e :: es) X.env)).all (fun x => !x.1) && (backToKw pos (keywordEach [] X.env)).all (fun x => x.1.isSome) && decide ((e :: es).length + ([] : List Keyword).length + (if ([] : List Keyword).isEmpty then 0 else 1) < 30)) = true := by rfl)
    (hl : (apos.endLine == pos.line) = true := by rfl) (hs : starEach (e :: es) X.env = (false, eval e X.env) :: starEach es X.env := by rfl) (hpl : (backTo pos (starEach es X.env)).any (·.1) = false := by rfl) : DE X W T (.Call (.Attribute o "pop" apos) (e :: es) [] pos) (.bmeth .pop co as) :=
  de_bm PySem.F.plainAttrs_list PySem.F.slot_list_pop PySem.F.type_list_pop popMt ho ha hb hf hl hs hpl
omit ha in
theorem e_pop0 (hb : attributeBase o "pop" X.env (eval o X.env) = eval o X.env := by rfl) (hl : (apos.endLine == pos.line) = true := by rfl) : DE X W T (.Call (.Attribute o "pop" apos) [] [] pos) (.bmeth .pop co .nil) :=
  de_bm0 PySem.F.plainAttrs_list PySem.F.slot_list_pop PySem.F.type_list_pop popMt ho hb hl
theorem e_partition (hb : attributeBase o "partition" X.env (eval o X.env) = eval o X.env := by rfl) (hf : ((backTo pos (starEach (e :: es) X.env)).all (fun x => !x.1) && (backToKw pos (keywordEach [] X.env)).all (fun x => x.1.isSome) && decide ((e :: es).length + ([] : List Keyword).length + (if ([] : List Keyword).isEmpty then 0 else 1) < 30)) = true := by rfl)
    (hl : (apos.endLine == pos.line) = true := by rfl) (hs : starEach (e :: es) X.env = (false, eval e X.env) :: starEach es X.env := by rfl) (hpl : (backTo pos (starEach es X.env)).any (·.1) = false := by rfl) : DE X W T (.Call (.Attribute o "partition" apos) (e :: es) [] pos) (.bmeth .partition co as) :=
  de_bm PySem.F.plainAttrs_str PySem.F.slot_str_partition PySem.F.type_str_partition partMt ho ha hb hf hl hs hpl
theorem e_split (hb : attributeBase o "split" X.env (eval o X.env) = eval o X.env := by rfl) (hf : ((backTo pos (starEach (e :: es) X.env)).all (fun x => !x.1) && (backToKw pos (keywordEach [] X.env)).all (fun x => x.1.isSome) && decide ((e :: es).length + ([] : List Keyword).length + (if ([] : List Keyword).isEmpty then 0 else 1) < 30)) = true := by rfl)
    (hl : (apos.endLine == pos.line) = true := by rfl) (hs : starEach (e :: es) X.env = (false, eval e X.env) :: starEach es X.env := by rfl) (hpl : (backTo pos (starEach es X.env)).any (·.1) = false := by rfl) : DE X W T (.Call (.Attribute o "split" apos) (e :: es) [] pos) (.bmeth .split co as) :=
  de_bm PySem.F.plainAttrs_str PySem.F.slot_str_split PySem.F.type_str_split splitMt ho ha hb hf hl hs hpl
theorem e_join (hb : attributeBase o "join" X.env (eval o X.env) = eval o X.env := by rfl) (hf : ((backTo pos (starEach (e :: es) X.env)).all (fun x => !x.1) && (backToKw pos (keywordEach [] X.env)).all (fun x => x.1.isSome) && decide ((e :: es).length + ([] : List Keyword).length + (if ([] : List Keyword).isEmpty then 0 else 1) < 30)) = true := by rfl)
    (hl : (apos.endLine == pos.line) = true := by rfl) (hs : starEach (e :: es) X.env = (false, eval e X.env) :: starEach es X.env := by rfl) (hpl : (backTo pos (starEach es X.env)).any (·.1) = false := by rfl) : DE X W T (.Call (.Attribute o "join" apos) (e :: es) [] pos) (.bmeth .join co as) :=
  de_bm PySem.F.plainAttrs_str PySem.F.slot_str_join PySem.F.type_str_join joinMt ho ha hb hf hl hs hpl
end
/-! ### f-strings -/
inductive DJ (X : Cx) (W : XW) (T : Tab) : List Expr → CEs → Prop where
  | nil : DJ X W T [] .nil
  | cons {e : Expr} {c : CE} {es : List Expr} {cs : CEs} (h : DE X W T e c) (r : DJ X W T es cs) : DJ X W T (e :: es) (.cons c cs)
def msOf (T : Tab) : CEs → List (Env → R D)
  | .nil => []
  | .cons c cs => evE T c :: msOf T cs
theorem DJ.pjd {es : List Expr} {cs : CEs} (h : DJ X W T es cs) : PJD X W es (msOf T cs) := by
  induction h with
  | nil => exact .nil
  | cons h r ih => exact .cons h ih
theorem evJ_eq : ∀ (cs : CEs) (acc : Str) (env : Env), evJ T cs acc env = glueM (msOf T cs) acc env
  | .nil, acc, env => by rw [evJ]; rfl
  | .cons c cs, acc, env => by
    rw [evJ]
    unfold msOf glueM
    congr 1
    funext x
    congr 1
    funext z
    exact evJ_eq cs z env
theorem e_fstr {v1 v2 : Expr} {rest : List Expr} {cs : CEs} (h : DJ X W T (v1 :: v2 :: rest) cs) : DE X W T (.JoinedStr (v1 :: v2 :: rest) pos) (.fstr cs) := by
  have z := de_fstr (pos := pos) h.pjd
  have e : (fun env => bnd (glueM (msOf T cs) Str.empty env) fun z => ret (.str z)) = evE T (.fstr cs) := by
    funext env
    rw [evE, evJ_eq]
  rw [e] at z
  exact z
theorem e_fmt (ha : DE X W T a ca) : DE X W T (.FormattedValue a (-1) none pos) (.fmt ca) := de_fmt ha
/-! ### own instances -/
theorem e_eqO {c : Str} (ne : Bool) {op : CmpOp} (hop : op = if ne then .NotEq else .Eq) (G : EqG X T c k) (C : Cok X (k + 1)) (ha : DE X W T a ca) (hb : DE X W T b cb) (hm : behindInMarks op b = false := by rfl) : DE X W T (.Compare a [op] [b] pos) (.oeq ne c ca cb) :=
  pe_imp (pe_cmpR (eq_core (W := W) hop G C.sur) ha hb hm) fun σ H Q ⟨μ, M, env, rm, rs, h⟩ =>
    tD_bnd rm rs h (f := fun x env => bnd (evE T cb env) fun y => eqO T ne c x y) fun v H1 μ1 M1 d l1 rm1 rs1 rv w =>
      tD_bnd rm1 rs1 w (f := fun y env => eqO T ne c d y) fun v2 H2 μ2 M2 d2 l2 rm2 rs2 rv2 w2 => ⟨μ2, M2, d, d2, rm2, rv.up l2 rm1, rv2, w2⟩
theorem e_dund {f : Value} {dk : Dk} {c : Str} (hc : CallR X f (rDund X W T dk c)) (call : ∀ {t : TA} {r : List V → Hp → VK → Prop}, CallR X f r → PA X [a] t → PE X e (tCB r t)) (ha : DE X W T a ca) (hs : starEach [a] X.env = (false, eval a X.env) :: starEach [] X.env) : DE X W T e (.dund dk c ca) :=
  pe_imp (call hc (pa_cons ha pa_nil hs)) fun σ H Q ⟨μ, M, env, rm, rs, h⟩ => tD_bnd rm rs h (f := fun x env => dundO T dk c x) fun v H1 μ1 M1 d l1 rm1 rs1 rv w => ⟨μ1, M1, d, v, rfl, rm1, rv, w⟩
theorem e_lenO {c : Str} (B : Blt X.mg) (G : DundG X T c "__len__" k) (C : Cok X (k + 3)) (ha : DE X W T a ca) (hg : Gl X "len" := by rfl) (hs : starEach [a] X.env = (false, eval a X.env) :: starEach [] X.env := by rfl) (hpl : (backTo pos (starEach [] X.env)).any (·.1) = false := by rfl) : DE X W T (.Call (.Name "len" p) [a] [] pos) (.dund .len c ca) :=
  e_dund (lenO_C G (C.sur.mono (by omega))) (fun hc h => pe_callB hc hg B.len (by decide +kernel) h (by decide +kernel) (by decide +kernel) hs hpl) ha hs
theorem e_strO {c : Str} (B : Blt X.mg) (G : DundG X T c "__str__" k) (C : Cok X (k + 3)) (ha : DE X W T a ca) (hg : Gl X "str" := by rfl) (hs : starEach [a] X.env = (false, eval a X.env) :: starEach [] X.env := by rfl) (hpl : (backTo pos (starEach [] X.env)).any (·.1) = false := by rfl) : DE X W T (.Call (.Name "str" p) [a] [] pos) (.dund .str c ca) :=
  e_dund (strO_C G (C.sur.mono (by omega))) (fun hc h => pe_callTy hc hg B.str (by decide +kernel) h (by decide +kernel) (by decide +kernel) hs hpl) ha hs
theorem e_boolO {c : Str} (B : Blt X.mg) (G : DundG X T c "__len__" k) (hno : ∀ C, X.mg c = some (.ref C) → PySem.W.findIn X.K (.ref C) "__bool__" = some none) (C : Cok X (k + 3)) (ha : DE X W T a ca) (hg : Gl X "bool" := by rfl) (hs : starEach [a] X.env = (false, eval a X.env) :: starEach [] X.env := by rfl) (hpl : (backTo pos (starEach [] X.env)).any (·.1) = false := by rfl) : DE X W T (.Call (.Name "bool" p) [a] [] pos) (.dund .bool c ca) :=
  e_dund (boolO_C G C.sur hno) (fun hc h => pe_callTy hc hg B.bool (by decide +kernel) h (by decide +kernel) (by decide +kernel) hs hpl) ha hs
end
end DL
end
section
set_option Elab.async false
set_option linter.all false
set_option maxRecDepth 100000
set_option maxHeartbeats 2000000
/-! DL, part t: calls, targets, statements as a text uses them; the law's head. -/
namespace DL
open PySem PySem.Spec PyProof.Rows L2
abbrev Shape := Nat × List Str × List Sel
/-- a def of the text, called by its name -/
def Callee (P : Program) (w : World) (K : PySem.W.Frag) (mg : Str → Option Value) (base : Heap) (x : Str) (k : Nat) (fm : FM) (shapes : List Shape) : Prop :=
  ∃ f fd ps, mg x = some (.ref f) ∧ PySem.W.keepIn K (.ref f) = true ∧ FnG P w K mg base k f fd ps fm ∧ ∀ s ∈ shapes, BindG K mg fd ps s.1 s.2.1 s.2.2
/-- a class of the text, called -/
def Maker (P : Program) (w : World) (K : PySem.W.Frag) (mg : Str → Option Value) (base : Heap) (c : Str) (k : Nat) (fm : FM) (shapes : List Shape) : Prop :=
  ∃ C f fd ps, mg c = some (.ref C) ∧ PySem.W.keepIn K (.ref C) = true ∧ L2.Mk K C f ∧ FnG P w K mg base k f fd ps fm ∧ ∀ s ∈ shapes, BindG K mg fd ps (s.1 + 1) s.2.1 (selS s.2.2)
/-- a method -/
def Metho (P : Program) (w : World) (K : PySem.W.Frag) (mg : Str → Option Value) (base : Heap) (c m : Str) (k : Nat) (fm : FM) (shapes : List Shape) : Prop :=
  ∃ C f fd ps, mg c = some (.ref C) ∧ L2.Cls K C ∧ L2.Meth K C m f ∧ FnG P w K mg base k f fd ps fm ∧ ∀ s ∈ shapes, BindG K mg fd ps (s.1 + 1) s.2.1 (selS s.2.2)
def CMetho (P : Program) (w : World) (K : PySem.W.Frag) (mg : Str → Option Value) (base : Heap) (c m : Str) (k : Nat) (fm : FM) (shapes : List Shape) : Prop :=
  ∃ C f fd ps mc pp, mg c = some (.ref C) ∧ ClX.CRead K C mc ∧ ClX.CMet K C mc m pp f ∧ FnG P w K mg base k f fd ps fm ∧ ∀ s ∈ shapes, BindG K mg fd ps (s.1 + 1) s.2.1 (selS s.2.2)
section
variable {X : Cx} {W : XW} {T : Tab} {j k n : Nat} {a b e o : Expr} {es : List Expr} {kws : List Keyword} {ca cb co : CE} {as bs : CEs} {pos p apos : Pos} {x c m : Str} {fm : FM} {shapes : List Shape} {ks : List Str} {sel : List Sel}
theorem k_nil : DK X W T [] .nil := dk_nil
theorem k_cons {nm : Option Str} {kpos : Pos} (ha : DE X W T e ca) (hr : DK X W T kws bs) : DK X W T (⟨nm, e, kpos⟩ :: kws) (.cons ca bs) := dk_cons ha hr
theorem e_own (i : Nat) (F : Callee X.prog X.w X.K X.mg X.base x k fm shapes) (hs : (n, ks, sel) ∈ shapes) (C : Cok X j) (ha : DEs X W T es as) (hkw : DK X W T kws bs) (hT : T.fn i = fm := by rfl) (hj : k ≤ j := by decide) (hg : Gl X x := by rfl)
    (ao : ArgsOk X pos es as := by first | exact .nil | exact .cons rfl rfl) (ko : KwsOk X pos ks kws bs := by first | exact .nil rfl | exact .cons rfl rfl rfl) (ln : as.len = n := by rfl) (lk : bs.len = ks.length := by rfl) (hdb : (x == ("__debug__" : Str)) = false := by decide) : DE X W T (.Call (.Name x p) es kws pos) (.own i as bs sel) := by
  obtain ⟨f, fd, ps, hm, hk, F, hb⟩ := F
  subst hT
  exact de_own hg hm hk (callG_fn F (C.sur.mono hj) (hb _ hs)) ao ko ln lk ha hkw hdb
theorem e_make (F : Maker X.prog X.w X.K X.mg X.base c k fm shapes) (hs : (n, ks, sel) ∈ shapes) (C : Cok X j) (ha : DEs X W T es as) (hkw : DK X W T kws bs) {ct : ClsT} (hT : T.cls c = some ct) (hi : ct.init = fm) (hj : k + 1 ≤ j := by decide) (hg : Gl X c := by rfl)
    (ao : ArgsOk X pos es as := by first | exact .nil | exact .cons rfl rfl) (ko : KwsOk X pos ks kws bs := by first | exact .nil rfl | exact .cons rfl rfl rfl) (ln : as.len = n := by rfl) (lk : bs.len = ks.length := by rfl) (hdb : (c == ("__debug__" : Str)) = false := by decide) : DE X W T (.Call (.Name c p) es kws pos) (.make c as bs sel) := by
  obtain ⟨C', f, fd, ps, hm, hk, MK, F, hb⟩ := F
  exact de_make hg hm hk (callG_make MK F (C.sur.mono hj) (hb _ hs) hm hT hi) ao ko ln lk ha hkw hdb
theorem e_makeV (F : Maker X.prog X.w X.K X.mg X.base c k fm shapes) (hs : (n, [], sel) ∈ shapes) (C : Cok X j) (ho : DE X W T (.Name x p) co) (ha : DEs X W T es as) {ct : ClsT} (hT : T.cls c = some ct) (hi : ct.init = fm) (hj : k + 1 ≤ j := by decide)
    (ao : ArgsOk X pos es as := by first | exact .nil | exact .cons rfl rfl) (ln : as.len = n := by rfl) : DE X W T (.Call (.Name x p) es [] pos) (.makeV c co as sel) := by
  obtain ⟨C', f, fd, ps, hm, hk, MK, F, hb⟩ := F
  exact de_makeV ho hm hk (callG_make MK F (C.sur.mono hj) (hb _ hs) hm hT hi) ao ln ha
theorem e_meth (F : Metho X.prog X.w X.K X.mg X.base c m k fm shapes) (hs : (n, ks, sel) ∈ shapes) (C : Cok X j) (ho : DE X W T o co) (ha : DEs X W T es as) (hkw : DK X W T kws bs) (hT : methOf T c m = some fm) {pl : Sem Bool} (hj : k ≤ j := by decide)
    (ao : ArgsOk X pos es as := by first | exact .nil | exact .cons rfl rfl) (ko : KwsOk X pos ks kws bs := by first | exact .nil rfl | exact .cons rfl rfl rfl) (ln : as.len = n := by rfl) (lk : bs.len = ks.length := by rfl)
    (ht : eval (.Call (.Attribute o m apos) es kws pos) X.env = (do
      let ov ← eval o X.env
      standAt apos.atName
      let (f, first) ← holding [ov] (getMethod ov m pl)
      callWith pos f first (backTo pos (starEach es X.env)) (backToKw pos (keywordEach kws X.env))) := by rfl) : DE X W T (.Call (.Attribute o m apos) es kws pos) (.ometh m c co as bs sel) := by
  obtain ⟨C', f, fd, ps, hm, cl, mt, F, hb⟩ := F
  exact de_ometh ⟨hm, cl, mt, F, hT⟩ (C.sur.mono hj) (hb _ hs) ao ko ln lk ho ha hkw ht
theorem e_cmeth (F : CMetho X.prog X.w X.K X.mg X.base c m k fm shapes) (hs : (n, ks, sel) ∈ shapes) (C : Cok X j) (ha : DEs X W T es as) (hkw : DK X W T kws bs) (hT : ∃ ct, T.cls c = some ct ∧ ct.cmet m = some fm) {pl : Sem Bool} (hj : k ≤ j := by decide) (hg : Gl X c := by rfl)
    (ao : ArgsOk X pos es as := by first | exact .nil | exact .cons rfl rfl) (ko : KwsOk X pos ks kws bs := by first | exact .nil rfl | exact .cons rfl rfl rfl) (ln : as.len = n := by rfl) (lk : bs.len = ks.length := by rfl) (hdb : (c == ("__debug__" : Str)) = false := by decide)
    (ht : eval (.Call (.Attribute (.Name c p) m apos) es kws pos) X.env = (do
      let ov ← eval (.Name c p) X.env
      standAt apos.atName
      let (f, first) ← holding [ov] (getMethod ov m pl)
      callWith pos f first (backTo pos (starEach es X.env)) (backToKw pos (keywordEach kws X.env))) := by rfl) : DE X W T (.Call (.Attribute (.Name c p) m apos) es kws pos) (.cmeth c m as bs sel) := by
  obtain ⟨C', f, fd, ps, mc, pp, hm, rd, cm, F, hb⟩ := F
  exact de_cmeth ⟨hm, ⟨mc, pp, rd, cm⟩, F, hT⟩ (C.sur.mono hj) (hb _ hs) ao ko ln lk hg hdb ha hkw ht
theorem e_attr {f : Str} (G : AttrOk X T f) (ho : DE X W T o co) (hab : attributeBase o f X.env (eval o X.env) = eval o X.env := by rfl) : DE X W T (.Attribute o f pos) (.attr co f) := de_attr ho G hab
theorem e_isiB {n : String} {nm : Str} {p2 : Pos} (B : Blt X.mg) (G : IsiB X T n) (hnm : X.mg nm = none) (ha : DE X W T a ca) (hv : bootBuiltins nm = some (.type n) := by decide +kernel) (hg : Gl X "isinstance" := by rfl) (hg2 : Gl X nm := by rfl) (hn : nm ≠ "__name__" := by decide +kernel) (hd : (nm == ("__debug__" : Str)) = false := by decide +kernel)
    (hs2 : starEach [a, .Name nm p2] X.env = (false, eval a X.env) :: starEach [.Name nm p2] X.env := by rfl) (hs : starEach [.Name nm p2] X.env = (false, eval (.Name nm p2) X.env) :: starEach [] X.env := by rfl) (hpl : (backTo pos (starEach [.Name nm p2] X.env)).any (·.1) = false := by rfl) :
    DE X W T (.Call (.Name "isinstance" p) [a, .Name nm p2] [] pos) (.isi ca (.bty n)) := de_isiB hg B.isinstance G ha (pe_bltn hg2 hnm hv rfl hn hd) hs2 hs hpl
theorem e_isiC {C : Addr} {p2 : Pos} (B : Blt X.mg) (G : IsiC X T c C) (ha : DE X W T a ca) (hg : Gl X "isinstance" := by rfl) (hg2 : Gl X c := by rfl) (hd : (c == ("__debug__" : Str)) = false := by decide +kernel)
    (hs2 : starEach [a, .Name c p2] X.env = (false, eval a X.env) :: starEach [.Name c p2] X.env := by rfl) (hs : starEach [.Name c p2] X.env = (false, eval (.Name c p2) X.env) :: starEach [] X.env := by rfl) (hpl : (backTo pos (starEach [.Name c p2] X.env)).any (·.1) = false := by rfl) :
    DE X W T (.Call (.Name "isinstance" p) [a, .Name c p2] [] pos) (.isi ca (.glo c)) := de_isiC hg B.isinstance G ha (pe_glob hg2 G.at_ rfl hd) hs2 hs hpl
theorem e_gint {i : Int} (h : ∃ t, X.mg x = some (.int i t)) (hg : Gl X x := by rfl) (hd : (x == ("__debug__" : Str)) = false := by decide +kernel) : DE X W T (.Name x pos) (.con (.int i)) := by
  obtain ⟨t, h⟩ := h
  exact e_glob (v := .int i) h ⟨t, rfl⟩ (fun _ _ => .int i) hg hd
theorem e_gstr {i : Str} (h : ∃ t, X.mg x = some (.str i t)) (hg : Gl X x := by rfl) (hd : (x == ("__debug__" : Str)) = false := by decide +kernel) : DE X W T (.Name x pos) (.con (.str i)) := by
  obtain ⟨t, h⟩ := h
  exact e_glob (v := .str i) h ⟨t, rfl⟩ (fun _ _ => .str i) hg hd
theorem e_gcls {C : Addr} (h : X.mg c = some (.ref C)) (hg : Gl X c := by rfl) (hd : (c == ("__debug__" : Str)) = false := by decide +kernel) : DE X W T (.Name c pos) (.con (.glo c)) :=
  e_glob (v := .ref C) h rfl (fun _ _ => .glo h rfl) hg hd
/-! ### comprehensions -/
theorem e_comp {elt tg iter : Expr} {ifs : List Expr} {scope : Scope} (own : List (Str × Nat)) {it : CI} {g : CG} {t : CT} {ce : CE} {ns : List Nat} (C : Cok X k) (hi : DI X W T tg iter it) (ok : BlkOk X.N X.env.scope scope own)
    (hg : ∀ (s : Shared) (H : Hp) (C : Addr) (cl : List (Str × Addr)) (fp : List Addr), DG (X.blk s H scope (compEnvC scope cl C X.env) fp) W T ns tg g) (ht : ∀ (s : Shared) (H : Hp) (C : Addr) (cl : List (Str × Addr)) (fp : List Addr), DTs (X.blk s H scope (compEnvC scope cl C X.env) fp) W T ifs t)
    (he : ∀ (s : Shared) (H : Hp) (C : Addr) (cl : List (Str × Addr)) (fp : List Addr), DE (X.blk s H scope (compEnvC scope cl C X.env) fp) W T elt ce) (hsub : ∀ i ∈ ns, i ∈ own.map (·.2) := by decide) (hs : ∀ x, foldedSetIterable iter X.env x = pure x := by intro _; rfl) :
    DE X W T (.ListComp elt [⟨tg, iter, ifs, 0⟩] scope pos) (.comp it g t ce (own.map (·.2))) := de_comp C.calm C.nd hi ok hsub hg ht he hs
theorem s_setLc {i : Nat} {y : Str} {py : Pos} {elt tg iter : Expr} {ifs : List Expr} {scope : Scope} (own : List (Str × Nat)) {spos : Pos} {it : CI} {g : CG} {t : CT} {ce : CE} {ns : List Nat} (C : Cok X k) (hi : DI X W T tg iter it) (ok : BlkOk X.N X.env.scope scope own)
    (hg : ∀ (s : Shared) (H : Hp) (C : Addr) (cl : List (Str × Addr)) (fp : List Addr), DG (X.blk s H scope (compEnvC scope cl C X.env) fp) W T ns tg g) (ht : ∀ (s : Shared) (H : Hp) (C : Addr) (cl : List (Str × Addr)) (fp : List Addr), DTs (X.blk s H scope (compEnvC scope cl C X.env) fp) W T ifs t)
    (he : ∀ (s : Shared) (H : Hp) (C : Addr) (cl : List (Str × Addr)) (fp : List Addr), DE (X.blk s H scope (compEnvC scope cl C X.env) fp) W T elt ce) (hsw : swapsWith (.ListComp elt [⟨tg, iter, ifs, 0⟩] scope pos) (some (.Name y py)) spos.line X.env = pure true) (hy : X.N[i]? = some y := by rfl) (hyl : X.env.scope.names.lookup y = some .local := by rfl)
    (hsub : ∀ i ∈ ns, i ∈ own.map (·.2) := by decide) (hs : ∀ x, foldedSetIterable iter X.env x = pure x := by intro _; rfl) :
    DS X W T (.Assign [.Name y py] (.ListComp elt [⟨tg, iter, ifs, 0⟩] scope pos) spos) (.asg (.nm i) (.comp it g t ce (own.map (·.2)))) := ds_setLc C.calm C.nd hy hyl hsw hi ok hsub hg ht he hs
/-! ### targets, statements -/
theorem g_nm (C : Cok X k) (i : Nat) (hi : X.N[i]? = some x := by rfl) (hx : Loc X.env.scope x := by first | exact Or.inl rfl | exact Or.inr rfl) (hf : X.fn x = true ∨ X.env.scope.names.lookup x = some .local := by first | exact Or.inl rfl | exact Or.inr rfl) : DG X W T [i] (.Name x pos) (.nm i) := dg_nm C.nd hi hx hf
theorem gs_nil : DGs X W T [] [] .nil := dgs_nil
theorem gs_cons {g : CG} {gs : CGs} {n1 n2 : List Nat} (h1 : DG X W T n1 e g) (h2 : DGs X W T n2 es gs) (hs : (assignEach (e :: es) X.env).map (·.2) = assign e X.env :: (assignEach es X.env).map (·.2) := by rfl) : DGs X W T (n1 ++ n2) (e :: es) (.cons g gs) := dgs_cons h1 h2 hs
theorem g_tup {kk : Nat} {gs : CGs} {ns : List Nat} (C : Cok X k) (h : DGs X W T ns es gs) (hn : (assignEach es X.env).length = gs.len := by rfl) (hst : (assignEach es X.env).findIdx? (·.1) = none := by rfl) : DG X W T ns (.Tuple es kk pos) (.tup gs) := dg_tup C.calm h hn hst
theorem g_sub (ho : DE X W T o co) (hi : DE X W T a ca) (ha : ∀ v, assign (.Subscript o a pos) X.env v = (do
      let ov ← holding [v] (eval o X.env)
      let iv ← holding [v, ov] (eval a X.env)
      standAt pos
      holding [v, ov, iv] (setItem ov iv v)
      release [v, ov, iv] []) := by intro _; rfl) : DG X W T [] (.Subscript o a pos) (.sub co ca) := dg_sub ho hi ha
theorem g_att {f : Str} (G : SetOk X T f) (ho : DE X W T o co) : DG X W T [] (.Attribute o f pos) (.att co f) := dg_att ho G
theorem s_asg {g : CG} {ns : List Nat} (hg : DG X W T ns a g) (he : DE X W T e ca) (hs : swapsWithSole [a] e pos.line X.env = pure false := by rfl) (hw : swappedStores [a] e X.env = pure none := by rfl) (h1 : (assignEach [a] X.env).map (·.2) = [assign a X.env] := by rfl) : DS X W T (.Assign [a] e pos) (.asg g ca) := ds_asg he hg hs hw h1
theorem s_par {x y : Str} {px py pt : Pos} {kt k2 pt2} (C : Cok X k) (i j : Nat) (ha : DEs X W T [a, b] as) (hi : X.N[i]? = some x := by rfl) (hj : X.N[j]? = some y := by rfl) (hij : i ≠ j := by decide) (hx : X.env.scope.names.lookup x = some .local := by rfl) (hy : X.env.scope.names.lookup y = some .local := by rfl)
    (hw : swappedStores [.Tuple [.Name x px, .Name y py] kt pt] (.Tuple [a, b] k2 pt2) X.env = pure (some [x, y]) := by rfl) (hs : swapsWithSole [.Tuple [.Name x px, .Name y py] kt pt] (.Tuple [a, b] k2 pt2) pos.line X.env = pure false := by rfl) :
    DS X W T (.Assign [.Tuple [.Name x px, .Name y py] kt pt] (.Tuple [a, b] k2 pt2) pos) (.asg (.tup (.cons (.nm i) (.cons (.nm j) .nil))) (.tup as)) := ds_par C.calm C.nd hi hj hij hx hy ha hw hs
theorem s_par3 {x y z : Str} {c : Expr} {px py pz pt : Pos} {kt k2 pt2} (C : Cok X k) (i j l : Nat) (ha : DEs X W T [a, b, c] as) (hi : X.N[i]? = some x := by rfl) (hj : X.N[j]? = some y := by rfl) (hl : X.N[l]? = some z := by rfl) (hij : i ≠ j := by decide) (hil : i ≠ l := by decide) (hjl : j ≠ l := by decide) (hx : X.env.scope.names.lookup x = some .local := by rfl) (hy : X.env.scope.names.lookup y = some .local := by rfl) (hz : X.env.scope.names.lookup z = some .local := by rfl)
    (hw : swappedStores [.Tuple [.Name x px, .Name y py, .Name z pz] kt pt] (.Tuple [a, b, c] k2 pt2) X.env = pure (some [x, y, z]) := by rfl) (hs : swapsWithSole [.Tuple [.Name x px, .Name y py, .Name z pz] kt pt] (.Tuple [a, b, c] k2 pt2) pos.line X.env = pure false := by rfl) :
    DS X W T (.Assign [.Tuple [.Name x px, .Name y py, .Name z pz] kt pt] (.Tuple [a, b, c] k2 pt2) pos) (.asg (.tup (.cons (.nm i) (.cons (.nm j) (.cons (.nm l) .nil)))) (.tup as)) := ds_par3 C.calm C.nd hi hj hl hij hil hjl hx hy hz ha hw hs
theorem s_ex (he : DE X W T e ca) (hs : swapsWith e none pos.line X.env = pure false := by rfl) : DS X W T (.Expr e pos) (.ex ca) := ds_ex he hs
theorem s_for {tg : Expr} {b : List Stmt} {g : CG} {ci : CI} {cb : CSs} {ns : List Nat} (C : Cok X k) (hp : PassesOwn (model X.prog X.w) X.A X.env X.xe) (hg : DG X W T ns tg g) (hi : DI X W T tg e ci) (hb : DSs X W T b cb) (hs : ∀ x, foldedSetIterable e X.env x = pure x := by intro _; rfl) : DS X W T (.For tg e b [] pos) (.forS g ci cb) := ds_for hp C.calm hi hg hb hs
theorem s_while {b : List Stmt} {t : CT} {cb : CSs} (hp : PassesOwn (model X.prog X.w) X.A X.env X.xe) (ht : DT X W T e t) (hb : DSs X W T b cb) : DS X W T (.While e b [] pos) (.whileS t cb) := ds_while hp ht hb
theorem s_try {b : List Stmt} {h₀ : ExceptHandler} {hs : List ExceptHandler} {cb : CSs} (hn : ∀ e s, ¬ X.xe e s) (hb : DSs X W T b cb) : DS X W T (.Try b (h₀ :: hs) [] [] pos) (.tryS cb) :=
  ps_imp (ps_try_never hn hb pss_nil) fun E σ H h => h
/-! ### iterables -/
theorem i_of {tg : Expr} (he : DE X W T e ca) : DI X W T tg e (.of ca) := di_of he
theorem i_rng {tg : Expr} (B : Blt X.mg) (ha : DE X W T a ca) (hg : Gl X "range" := by rfl) (hs : starEach [a] X.env = [(false, eval a X.env)] := by rfl) : DI X W T tg (.Call (.Name "range" p) [a] [] pos) (.rng ca) := di_rng hg B.range ha hs
theorem i_rng2 {tg : Expr} (B : Blt X.mg) (ha : DE X W T a ca) (hb : DE X W T b cb) (hg : Gl X "range" := by rfl) (hs : starEach [a, b] X.env = [(false, eval a X.env), (false, eval b X.env)] := by rfl) (hs2 : starEach [b] X.env = [(false, eval b X.env)] := by rfl) : DI X W T tg (.Call (.Name "range" p) [a, b] [] pos) (.rng2 ca cb) := di_rng2 hg B.range ha hb hs hs2
theorem i_enum {elts : List Expr} {kk : Nat} {tpos : Pos} (B : Blt X.mg) (ha : DE X W T a ca) (hg : Gl X "enumerate" := by rfl) (hs : starEach [a] X.env = [(false, eval a X.env)] := by rfl) : DI X W T (.Tuple elts kk tpos) (.Call (.Name "enumerate" p) [a] [] pos) (.enum ca) := di_enumA hg B.enumerate ha hs
theorem i_zip {elts : List Expr} {kk : Nat} {tpos : Pos} (B : Blt X.mg) (ha : DE X W T a ca) (hb : DE X W T b cb) (hg : Gl X "zip" := by rfl) (hs : starEach [a, b] X.env = (false, eval a X.env) :: starEach [b] X.env := by rfl) (hs2 : starEach [b] X.env = (false, eval b X.env) :: starEach [] X.env := by rfl) (hpl : (backTo pos (starEach [b] X.env)).any (·.1) = false := by rfl) :
    DI X W T (.Tuple elts kk tpos) (.Call (.Name "zip" p) [a, b] [] pos) (.zip ca cb) := di_zip hg B.zip ha hb hs hs2 hpl
end
/-! ### the head -/
theorem repVs_int {K : PySem.W.Frag} {mg : Str → Option Value} {μ : List Addr} {H : Hp} : ∀ ns : List Int, RepVs K mg μ H (ns.map D.int) (ns.map V.int)
  | [] => .nil
  | n :: ns => .cons (.int n) (repVs_int ns)
theorem law_callG {P : Program} {w : World} {K : PySem.W.Frag} {mg mb : Str → Option Value} {k : Nat} {fa a : Addr} {fd : FuncData} {x : Str} {fm : FM} {s₁ : Shared} {vs : List Value} {ns : List Int}
    (inK : K.In s₁.heap) (names : s₁.heap.Ns mainGlobals mg) (bNames : s₁.heap.Ns builtinsNs mb) (bIs : ∀ x : Str, x ≠ "__name__" → mb x = bootBuiltins x) (nolim : s₁.heap.NoLimit) (nogen : s₁.gens = #[])
    (script : s₁.heap.get? a = some { cls := .type "list", data := .seq vs.toArray }) (allInt : IntsAre vs ns) (len : ns.length ≤ sizeLine) (room : Sur k callerA)
    (F : ∀ base : Heap, K.In base → base.Ns mainGlobals mg → FnG P w K mg base k fa fd [x] fm) (bind : ∀ (s : Shared) (u : Value), BindsTo s fd ⟨[u], []⟩ [(x, u)]) (told : ∃ M', fm [.fl (ns.map D.int)] [] = some (.ok (.bl true), M')) :
    codeAny (model P w) callerA (.call (.ref fa) ⟨[.ref a], []⟩) (fun r s' => r = .ok (.ret (.bool true)) ∧ OldK s₁.heap s'.heap ∧ s'.os = s₁.os ∧ AllBare s'.gens) s₁ := by
  have rel := vals_ints allInt
  have size := allInt.length
  -- what is tracked: the script, where the text does not hold it
  suffices go : ∀ H : Hp, (∀ b o, H b = some o → b = a ∧ o = .frz { cls := .type "list", data := .seq vs.toArray } (.lst (ns.map V.int)) ∧ K.lookup a = none) → FrL K H a (ns.map V.int) →
      codeAny (model P w) callerA (.call (.ref fa) ⟨[.ref a], []⟩) (fun r s' => r = .ok (.ret (.bool true)) ∧ OldK s₁.heap s'.heap ∧ s'.os = s₁.os ∧ AllBare s'.gens) s₁ by
    cases known : K.lookup a with
    | some o =>
      have same := inK a o known
      rw [script] at same
      cases same
      exact go (fun _ => none) (fun b o z => nomatch (show (none : Option HO) = some o from z)) (.inr ⟨_, vs.toArray, _, known, rfl, rfl, rfl, by rw [List.size_toArray, size]; exact len, by simpa using rel⟩)
    | none =>
      refine go (upd (fun _ => none) a (.frz { cls := .type "list", data := .seq vs.toArray } (.lst (ns.map V.int)))) (fun b o z => ?_) (.inl ⟨_, upd_same⟩)
      by_cases hb : b = a
      · rw [hb, upd_same] at z
        exact ⟨hb, (Option.some.inj z).symm, known⟩
      · rw [upd_ne hb] at z
        cases z
  intro H only frl
  have ok : HOk P w H s₁.heap := fun b u z => by
    obtain ⟨rfl, rfl, _⟩ := only b u z
    exact ⟨script, by rw [List.length_map]; exact len, vs, _, rel, script⟩
  have untracked : ∀ {b : Addr} {o : Obj} {es : Array DictEntry} {ep : Nat}, s₁.heap.get? b = some o → o.data = .dict es ep → H b = none := fun {b o es ep} e d => by
    cases q : H b with
    | none => rfl
    | some u =>
      obtain ⟨rfl, _, _⟩ := only b u q
      rw [script] at e
      cases e
      exact nomatch (show Data.seq vs.toArray _ = Data.dict es ep from d)
  have ns_base : ∀ {b : Addr} {m : Str → Option Value}, s₁.heap.Ns b m → (hidT s₁.heap H).Ns b m := fun ⟨o, es, ep, e, d, r⟩ => ⟨o, es, ep, hidT_get e (untracked e d), d, r⟩
  have in_base : K.In (hidT s₁.heap H) := fun b o e => hidT_get (inK b o e) (by
    cases q : H b with
    | none => rfl
    | some u =>
      obtain ⟨rfl, _, no⟩ := only b u q
      rw [no] at e
      cases e)
  have md : Mod K mg (hidT s₁.heap H) := ⟨in_base, ns_base names, ⟨mb, ns_base bNames, bIs⟩, nolim.elim fun mc q => ⟨mc, ns_base q.1, q.2⟩⟩
  have e0 : Env0 P w K mg (hidT s₁.heap H) callerA [] s₁ H := ⟨rfl, md, fun b o e => of_hidT e, Nat.le_of_eq (hidT_size _ _), trivial, fun b z => (by cases (show b ∈ ([] : List Addr) from z)), ok, .of_eq nogen⟩
  have rm : RepM K mg [] [] H := ⟨rfl, List.nodup_nil, fun n a o h => by simp at h⟩
  obtain ⟨M', told⟩ := told
  refine codeAny_mono ((F _ in_base (ns_base names)).run callerA [] s₁ H ⟨[.ref a], []⟩ [.ref a] [.ref a] [.fl (ns.map D.int)] [] [] (fun v _ => v = .bl true) room e0 (bind s₁ (.ref a)) (.cons rfl .nil) rfl rm (.cons (.fl frl (repVs_int ns)) .nil)
    ⟨.ok (.bl true), M', told, fun μ' H' l rm' v rv => by cases rv; rfl⟩) fun r s' h => ?_
  match r, h with
  | .ok (.ret u), h =>
    obtain ⟨v, H', os, bare, un, ok', rv, hv⟩ := h
    have hv : v = .bl true := hv
    subst hv
    obtain rfl : u = Value.bool true := rv
    refine ⟨rfl, OldK.of_keep fun b o e => ?_, os, bare⟩
    cases q : H b with
    | none => exact un.keep b o e q (by intro z; exact absurd (show b ∈ ([] : List Addr) from z) (by simp)) (by simp)
    | some u =>
      obtain ⟨rfl, rfl, _⟩ := only b u q
      have kept := un.frzs b _ _ q
      obtain ⟨e1, _⟩ := ok b _ q
      obtain ⟨e2, _⟩ := ok' b _ kept
      rw [e] at e1
      cases e1
      exact e2
  | .ok .next, h => exact False.elim h
  | .ok .brk, h => exact False.elim h
  | .ok .cont, h => exact False.elim h
  | .error _, h => exact False.elim h
theorem walk_ofG {l : PySem.W.OpenLaw} {n k : Nat} {q : Program} {loose : List Str} {XP : (Str → Option Value) → Heap → Prop} {YP : World → Heap → Prop} {d : DefRec} {K : Params → PySem.W.Frag} {x : Str} {fm : FM}
    (most : l.most = some n) (small : n ≤ sizeLine) (nodef : d.params.defaults = []) (room : Sur k callerA) (hY : ∀ (w : World) (h : Heap), YP w h → (K w.params).In h)
    (F : ∀ (w : World) (mg : Str → Option Value) (fa : Addr) (h : Heap), (K w.params).In h → h.Ns mainGlobals mg → mg d.name = some (.ref fa) → ∃ fd : FuncData, (∀ (s : Shared) (u : Value), BindsTo s fd ⟨[u], []⟩ [(x, u)]) ∧ ∀ base : Heap, (K w.params).In base → base.Ns mainGlobals mg → FnG l.prog w (K w.params) mg base k fa fd [x] fm)
    (told : ∀ ns : List Int, ns.length ≤ n → ∃ M', fm [.fl (ns.map D.int)] [] = some (.ok (.bl true), M')) : PySem.W.WalkO q loose XP YP l.row.toRowW d [] (fun f vs => PySem.call f vs) := by
  refine Att.attach_call most nodef fun w s₀ s₁ mg mb fa o pm cd doc a vs ns G Y ho hd hcd hmg hobj hints hlen hg => ?_
  have inK := hY w _ Y
  obtain ⟨fd, hb, hF⟩ := F w mg fa _ inK G.T.g hmg
  exact law_callG inK G.T.g G.T.b G.T.builtins G.T.nolimit hg hobj hints (Nat.le_trans hlen small) room hF hb (told ns hlen)
end DL
end
section
set_option Elab.async false
set_option linter.all false
set_option maxRecDepth 100000
set_option maxHeartbeats 2000000
/-! DL, part u: what a text's top has left, and what follows for its defs and its one class. -/
namespace DL
open PySem PySem.Spec PyProof.Rows L2
theorem Cok.mono {X : Cx} {j k : Nat} (c : Cok X k) (h : j ≤ k) : Cok X j := ⟨c.calm, c.nd, c.sur.mono h⟩
def tys : List String := ["NoneType", "bool", "int", "str", "tuple", "list"]
section
variable (K : PySem.W.Frag) (mg : Str → Option Value)
def FunAt (x : Str) (st : Stmt) : Prop := ∃ f fd, mg x = some (.ref f) ∧ L2.Fun K x x st f fd
def ClassAt (c : Str) (flds : List Str) (btys : List String) : Prop := ∃ C, mg c = some (.ref C) ∧ InsTy K C ∧ (∀ f ∈ flds, PySem.W.findIn K (.ref C) f = some none) ∧ ∀ t ∈ btys, PySem.W.kitOne K (.ref C) (.type t) = some false
def IsiAt (C : Addr) : Prop := (∀ t ∈ tys, PySem.W.kitOne K (.type t) (.ref C) = some false) ∧ (∀ t ∈ tys, PySem.W.notFirst K C (.type t) = true) ∧ PySem.W.kitOne K (.ref C) (.ref C) = some true ∧ PySem.W.notFirst K C (.ref C) = true ∧
  PySem.W.findIn K (.ref C) "__ne__" = some (some (.builtin "object.__ne__")) ∧ PySem.W.findIn K (.ref C) "__bool__" = some none
def InitAt (c qual : Str) (st : Stmt) : Prop := ∃ C f fd, mg c = some (.ref C) ∧ PySem.W.keepIn K (.ref C) = true ∧ L2.Mk K C f ∧ L2.Fun K "__init__" qual st f fd
def MethAt (c m qual : Str) (st : Stmt) : Prop := ∃ C f fd, mg c = some (.ref C) ∧ L2.Cls K C ∧ L2.Meth K C m f ∧ L2.Fun K m qual st f fd
def PropAt (c m qual : Str) (st : Stmt) : Prop := ∃ C p f fd, mg c = some (.ref C) ∧ L2.PropOf K C m p f ∧ L2.Fun K m qual st f fd
def CMethAt (c m qual : Str) (st : Stmt) : Prop := ∃ C f fd mc pp, mg c = some (.ref C) ∧ ClX.CRead K C mc ∧ ClX.CMet K C mc m pp f ∧ L2.Fun K m qual st f fd
end
def Propo (P : Program) (w : World) (K : PySem.W.Frag) (mg : Str → Option Value) (base : Heap) (c m : Str) (k : Nat) (fm : FM) (shapes : List Shape) : Prop :=
  ∃ C p f fd ps, mg c = some (.ref C) ∧ L2.PropOf K C m p f ∧ FnG P w K mg base k f fd ps fm ∧ ∀ s ∈ shapes, BindG K mg fd ps (s.1 + 1) s.2.1 (selS s.2.2)
section
variable {P : Program} {w : World} {K : PySem.W.Frag} {mg : Str → Option Value} {base : Heap} {x m c qual : Str} {st : Stmt} {N ps : List Str} {n k : Nat} {T : Tab} {b : CSs} {shapes : List Shape}
/-- the walk of a def -/
abbrev Walk (P : Program) (w : World) (K : PySem.W.Frag) (mg : Str → Option Value) (base : Heap) (N : List Str) (st : Stmt) (k : Nat) (T : Tab) (b : CSs) : Prop :=
  ∀ (qual : Str) (f : Addr) (cdv : Value) (A : Around) (outer : List PySem.Env) (s : Shared) (H : Hp), Sur k (A.deeper (envOfC qual (defScope st) s.heap.objs.size f cdv)) → DSs (cxOf L2.CX0 P w K mg base N qual (defScope st) f cdv A outer s H fun _ _ _ => False).nox W0 T (defBody st) b
theorem fnG_fun {f : Addr} {fd : FuncData} (F : L2.Fun K x qual st f fd) (S : FnScope N ps (defScope st)) (hn : N.length = n) (body : Walk P w K mg base N st k T b) : FnG P w K mg base (k + 1) f fd ps (runDef T n b) := by
  obtain ⟨⟨oc, od, kV, doc, pm, an, cdv, ct, osl, rfl, lk, hcd⟩, kp⟩ := F
  exact fnG_of lk hcd S hn fun A outer s H hr => body qual f cdv A outer s H hr
/-- how a def's values are bound, whatever its record holds beside -/
abbrev Bd (K : PySem.W.Frag) (mg : Str → Option Value) (x : Str) (st : Stmt) (ps : List Str) (shapes : List Shape) : Prop := ∀ (qual : Str) (kV doc pm : Value) (an : Option Addr) (cdv ct : Value), ∀ s ∈ shapes, BindG K mg (PySem.W.fnOf x qual (defArgs st) (defBody st) (defScope st) .none kV doc pm an cdv ct) ps s.1 s.2.1 s.2.2
abbrev BdS (K : PySem.W.Frag) (mg : Str → Option Value) (x : Str) (st : Stmt) (ps : List Str) (shapes : List Shape) : Prop := ∀ (qual : Str) (kV doc pm : Value) (an : Option Addr) (cdv ct : Value), ∀ s ∈ shapes, BindG K mg (PySem.W.fnOf x qual (defArgs st) (defBody st) (defScope st) .none kV doc pm an cdv ct) ps (s.1 + 1) s.2.1 (selS s.2.2)
theorem bd_fun {f : Addr} {fd : FuncData} (F : L2.Fun K x qual st f fd) (B : Bd K mg x st ps shapes) : ∀ s ∈ shapes, BindG K mg fd ps s.1 s.2.1 s.2.2 := by
  obtain ⟨⟨oc, od, kV, doc, pm, an, cdv, ct, osl, rfl, lk, hcd⟩, kp⟩ := F
  exact B qual kV doc pm an cdv ct
theorem bdS_fun {f : Addr} {fd : FuncData} (F : L2.Fun K x qual st f fd) (B : BdS K mg x st ps shapes) : ∀ s ∈ shapes, BindG K mg fd ps (s.1 + 1) s.2.1 (selS s.2.2) := by
  obtain ⟨⟨oc, od, kV, doc, pm, an, cdv, ct, osl, rfl, lk, hcd⟩, kp⟩ := F
  exact B qual kV doc pm an cdv ct
theorem callee_of (F : FunAt K mg x st) (S : FnScope N ps (defScope st)) (hn : N.length = n) (body : Walk P w K mg base N st k T b) (B : Bd K mg x st ps shapes) : Callee P w K mg base x (k + 1) (runDef T n b) shapes := by
  obtain ⟨f, fd, hm, F⟩ := F
  exact ⟨f, fd, ps, hm, F.kp, fnG_fun F S hn body, bd_fun F B⟩
theorem maker_of (F : InitAt K mg c qual st) (S : FnScope N ps (defScope st)) (hn : N.length = n) (body : Walk P w K mg base N st k T b) (B : BdS K mg "__init__" st ps shapes) : Maker P w K mg base c (k + 1) (runDef T n b) shapes := by
  obtain ⟨C, f, fd, hm, hk, MK, F⟩ := F
  exact ⟨C, f, fd, ps, hm, hk, MK, fnG_fun F S hn body, bdS_fun F B⟩
theorem metho_of (F : MethAt K mg c m qual st) (S : FnScope N ps (defScope st)) (hn : N.length = n) (body : Walk P w K mg base N st k T b) (B : BdS K mg m st ps shapes) : Metho P w K mg base c m (k + 1) (runDef T n b) shapes := by
  obtain ⟨C, f, fd, hm, cl, mt, F⟩ := F
  exact ⟨C, f, fd, ps, hm, cl, mt, fnG_fun F S hn body, bdS_fun F B⟩
theorem propo_of (F : PropAt K mg c m qual st) (S : FnScope N ps (defScope st)) (hn : N.length = n) (body : Walk P w K mg base N st k T b) (B : BdS K mg m st ps shapes) : Propo P w K mg base c m (k + 1) (runDef T n b) shapes := by
  obtain ⟨C, p, f, fd, hm, pr, F⟩ := F
  exact ⟨C, p, f, fd, ps, hm, pr, fnG_fun F S hn body, bdS_fun F B⟩
theorem cmetho_of (F : CMethAt K mg c m qual st) (S : FnScope N ps (defScope st)) (hn : N.length = n) (body : Walk P w K mg base N st k T b) (B : BdS K mg m st ps shapes) : CMetho P w K mg base c m (k + 1) (runDef T n b) shapes := by
  obtain ⟨C, f, fd, mc, pp, hm, rd, cm, F⟩ := F
  exact ⟨C, f, fd, ps, mc, pp, hm, rd, cm, fnG_fun F S hn body, bdS_fun F B⟩
theorem law_fd {fa : Addr} {y : Str} (F : FunAt K mg x st) (hmg : mg x = some (.ref fa)) (S : FnScope N [y] (defScope st)) (hn : N.length = n) (body : ∀ base, Walk P w K mg base N st k T b)
    (hb : ∀ (qual : Str) (kV doc pm : Value) (an : Option Addr) (cdv ct : Value) (u : Value), bindArgs (PySem.W.fnOf x qual (defArgs st) (defBody st) (defScope st) .none kV doc pm an cdv ct) ⟨[u], []⟩ = pure [(y, u)]) :
    ∃ fd : FuncData, (∀ (s : Shared) (u : Value), BindsTo s fd ⟨[u], []⟩ [(y, u)]) ∧ ∀ base : Heap, K.In base → base.Ns mainGlobals mg → FnG P w K mg base (k + 1) fa fd [y] (runDef T n b) := by
  obtain ⟨f, fd, hm, F⟩ := F
  rw [hmg] at hm
  cases hm
  refine ⟨fd, fun s u => ?_, fun base _ _ => fnG_fun F S hn (body base)⟩
  obtain ⟨⟨oc, od, kV, doc, pm, an, cdv, ct, osl, rfl, lk, hcd⟩, kp⟩ := F
  exact .of_eq (hb _ _ _ _ _ _ _ u)
theorem kit_cb {C : Addr} {t : String} (h : PySem.W.subIn K (.ref C) (.type t) = some false) (m : PySem.W.kitMeta t = true) : PySem.W.kitOne K (.ref C) (.type t) = some false := by
  unfold PySem.W.kitOne
  rw [if_neg (show ¬ ((Value.ref C == Value.type t) = true) from Bool.false_ne_true)]
  unfold PySem.W.kitCls
  dsimp only
  rw [if_pos m]
  exact h
theorem kit_bc {C : Addr} {t : String} (h1 : PySem.W.isClsIn K C = true) (h2 : PySem.W.typeIn K (.ref C) = some (.type "type")) (h : PySem.W.subIn K (.type t) (.ref C) = some false) : PySem.W.kitOne K (.type t) (.ref C) = some false := by
  unfold PySem.W.kitOne
  rw [if_neg (show ¬ ((Value.type t == Value.ref C) = true) from Bool.false_ne_true)]
  unfold PySem.W.kitCls
  dsimp only
  have h1 : (PySem.W.clsIn K C).isSome = true := h1
  rw [h1, h2]
  exact h
theorem kit_self {C : Addr} : PySem.W.kitOne K (.ref C) (.ref C) = some true := by
  unfold PySem.W.kitOne
  rw [if_pos (by simp)]
end
/-! ### one class -/
theorem cls1 {c g : Str} {ct0 ct : ClsT} (h : (if c = g then some ct0 else none) = some ct) : c = g ∧ ct = ct0 := by
  by_cases e : c = g
  · rw [if_pos e] at h
    exact ⟨e, (Option.some.inj h).symm⟩
  · rw [if_neg e] at h
    cases h
section
variable {X : Cx} {W : XW} {T : Tab} {g f m : Str} {ct0 : ClsT} {flds : List Str} {btys : List String} {k : Nat} {fm : FM} {shapes : List Shape}
theorem attr_prop (cl : ∀ {c : Str} {ct : ClsT}, T.cls c = some ct → c = g ∧ ct = ct0) (A : ClassAt X.K X.mg g flds btys) (ok : Propo X.prog X.w X.K X.mg X.base g f k fm shapes) (hs : (0, [], []) ∈ shapes) (hp : ct0.prop f = some fm) (hr : Sur (k + 1) X.A) : AttrOk X T f := by
  intro c ct h
  obtain ⟨rfl, rfl⟩ := cl h
  obtain ⟨C, hC, ty, _, _⟩ := A
  obtain ⟨C', p, fa, fd, ps, hC', pr, F, B⟩ := ok
  rw [hC] at hC'
  cases hC'
  refine ⟨C, hC, ty.cl, fun h0 => absurd (hp.symm.trans h0) (by simp), fun fm' h0 => ?_⟩
  rw [hp] at h0
  cases h0
  exact ⟨p, fa, fd, ps, k, pr, F, B _ hs, hr⟩
theorem attr_fld (cl : ∀ {c : Str} {ct : ClsT}, T.cls c = some ct → c = g ∧ ct = ct0) (A : ClassAt X.K X.mg g flds btys) (hf : ct0.fld = flds) (hp : ct0.prop f = none) : AttrOk X T f := by
  intro c ct h
  obtain ⟨rfl, rfl⟩ := cl h
  obtain ⟨C, hC, ty, na, _⟩ := A
  refine ⟨C, hC, ty.cl, fun _ h1 => na f ?_, fun fm' h0 => absurd (hp.symm.trans h0) (by simp)⟩
  rw [hf] at h1
  simpa using h1
theorem set_fld (cl : ∀ {c : Str} {ct : ClsT}, T.cls c = some ct → c = g ∧ ct = ct0) (A : ClassAt X.K X.mg g flds btys) (hf : ct0.fld = flds) : SetOk X T f := by
  intro c ct h h1 C hC
  obtain ⟨rfl, rfl⟩ := cl h
  obtain ⟨C', hC', ty, na, _⟩ := A
  rw [hC] at hC'
  cases hC'
  refine ⟨ty.cl, na f ?_⟩
  rw [hf] at h1
  simpa using h1
theorem isiB_of {n : String} (cl : ∀ {c : Str} {ct : ClsT}, T.cls c = some ct → c = g ∧ ct = ct0) (A : ClassAt X.K X.mg g flds btys) (h1 : kitB "NoneType" n = some false) (h2 : kitB "bool" n = some (n == "bool" || n == "int")) (h3 : kitB "int" n = some (n == "int")) (h4 : kitB "str" n = some (n == "str")) (h5 : kitB "tuple" n = some (n == "tuple")) (h6 : kitB "list" n = some (n == "list")) (hn : n ∈ btys) : IsiB X T n := by
  refine ⟨h1, h2, h3, h4, h5, h6, fun c ct h C hC => ?_⟩
  obtain ⟨rfl, rfl⟩ := cl h
  obtain ⟨C', hC', ty, _, kt⟩ := A
  rw [hC] at hC'
  cases hC'
  exact ⟨ty, kt n hn⟩
theorem isiC_of (cl : ∀ {c : Str} {ct : ClsT}, T.cls c = some ct → c = g ∧ ct = ct0) (A : ClassAt X.K X.mg g flds btys) (I : ∀ C, X.mg g = some (.ref C) → IsiAt X.K C) : ∃ C, IsiC X T g C := by
  obtain ⟨C, hC, ty, _, _⟩ := A
  refine ⟨C, hC, (I C hC).1, fun c' ct h C' hC' => ?_⟩
  obtain ⟨rfl, rfl⟩ := cl h
  rw [hC] at hC'
  cases hC'
  exact ⟨ty, by rw [decide_eq_true rfl]; exact (I C hC).2.2.1⟩
theorem e_isiC2 {a : Expr} {ca : CE} {c : Str} {p p2 pos : Pos} (B : Blt X.mg) (G : ∃ C, IsiC X T c C) (ha : DE X W T a ca) (hg : Gl X "isinstance" := by rfl) (hg2 : Gl X c := by rfl) (hd : (c == ("__debug__" : Str)) = false := by decide +kernel)
    (hs2 : starEach [a, .Name c p2] X.env = (false, eval a X.env) :: starEach [.Name c p2] X.env := by rfl) (hs : starEach [.Name c p2] X.env = (false, eval (.Name c p2) X.env) :: starEach [] X.env := by rfl) (hpl : (backTo pos (starEach [.Name c p2] X.env)).any (·.1) = false := by rfl) :
    DE X W T (.Call (.Name "isinstance" p) [a, .Name c p2] [] pos) (.isi ca (.glo c)) := G.elim fun _ G => e_isiC B G ha hg hg2 hd hs2 hs hpl
theorem meth_of {c : Str} (hc : T.cls c = some ct0) (hm : ct0.meth m = some fm) : methOf T c m = some fm := by
  unfold methOf
  rw [hc]
  exact hm
theorem dund_of {c : Str} (ok : Metho X.prog X.w X.K X.mg X.base c m k fm shapes) (hs : (0, [], []) ∈ shapes) (mt : methOf T c m = some fm) : DundG X T c m k := by
  obtain ⟨C, f, fd, ps, hC, cl, hm, F, B⟩ := ok
  exact ⟨C, f, fd, ps, fm, ⟨hC, cl, hm, F, mt⟩, B _ hs⟩
theorem eq_of (cl : ∀ {c : Str} {ct : ClsT}, T.cls c = some ct → c = g ∧ ct = ct0) (hc : T.cls g = some ct0) (A : ClassAt X.K X.mg g flds btys) (I : ∀ C, X.mg g = some (.ref C) → IsiAt X.K C) (ok : Metho X.prog X.w X.K X.mg X.base g "__eq__" k fm shapes) (hs : (1, [], [.arg 0]) ∈ shapes) (he : ct0.eqm = some fm) : EqG X T g k := by
  obtain ⟨C, f, fd, ps, hC, _, hm, F, B⟩ := ok
  obtain ⟨C', hC', ty, _, _⟩ := A
  rw [hC] at hC'
  cases hC'
  have J := I C hC
  refine ⟨C, f, fd, ps, fm, hC, hm.at_, hm.fn, F, B _ hs, ?_, J.2.2.2.2.1, ty.hm, J.2.1, fun c' ct h C' hC' => ?_⟩
  · unfold eqmOf
    rw [hc]
    exact he
  · obtain ⟨rfl, rfl⟩ := cl h
    rw [hC] at hC'
    cases hC'
    exact ⟨ty, J.2.2.2.1⟩
end
end DL
end
section
set_option Elab.async false
set_option linter.all false
set_option maxRecDepth 100000
set_option maxHeartbeats 2000000
/-! DL, part v: the interpreter by simp. -/
namespace DL
open PySem
/-- a law that simp shall keep as a step of its own -/
theorem nr {p : Prop} (h : p) : p := h
section
variable {α β γ : Type} {T : Tab} {env : Env} {M : Mem} {a b c o i : CE} {es as ks : CEs} {t u : CT} {x y d : D} {ds vs : List D}
@[simp] theorem bnd_ret {a : α} {f : α → R β} : bnd (ret a) f = f a := by funext M; rfl
@[simp] theorem bnd_assocS {m : R α} {f : α → R β} {g : β → R γ} : bnd (bnd m f) g = bnd m fun x => bnd (f x) g := by
  funext M
  unfold bnd
  cases m M with
  | none => rfl
  | some p => obtain ⟨r, M'⟩ := p; cases r <;> rfl
@[simp] theorem bnd_fail {f : α → R β} : bnd fail f = fail := by funext M; rfl
@[simp] theorem ret_at {a : α} : ret a M = some (.ok a, M) := nr rfl
@[simp] theorem fail_at : (fail : R α) M = none := nr rfl
theorem bnd_at {m : R α} {f : α → R β} : bnd m f M = match m M with | none => none | some (.error e, M') => some (.error e, M') | some (.ok a, M') => f a M' := rfl
theorem bnd_ok {m : R α} {f : α → R β} {a : α} {M' : Mem} (h : m M = some (.ok a, M')) : bnd m f M = f a M' := by unfold bnd; rw [h]
@[simp] theorem opt_some {a : α} : opt (some a) = ret a := nr rfl
@[simp] theorem opt_none : (opt none : R α) = fail := nr rfl
@[simp] theorem bnd_ite {p : Prop} [Decidable p] {m n : R α} {f : α → R β} : bnd (if p then m else n) f = if p then bnd m f else bnd n f := by split <;> rfl
/-! expressions -/
@[simp] theorem evE_var {i : Nat} : evE T (.var i) env = getVar env i := by rw [evE]
@[simp] theorem evE_con : evE T (.con d) env = ret d := by rw [evE]
@[simp] theorem evE_bin {o : BinO} : evE T (.bin o a b) env = bnd (evE T a env) fun x => bnd (evE T b env) fun y => binD o x y := by rw [evE]
@[simp] theorem evE_neg : evE T (.neg a) env = bnd (evE T a env) negD := by rw [evE]
@[simp] theorem evE_tst : evE T (.tst t) env = bnd (evT T t env) fun b => ret (.bl b) := by rw [evE]
@[simp] theorem evE_cmp {o : CmpO} : evE T (.cmp o a b) env = bnd (evE T a env) fun x => bnd (evE T b env) fun y => cmpD o x y := by rw [evE]
@[simp] theorem evE_chain {o o' : CmpO} : evE T (.chain o o' a b c) env = bnd (evE T a env) fun x => bnd (evE T b env) fun y => bnd (cmpD o x y) fun d => bnd (asBl d) fun k => if k = true then bnd (evE T c env) fun z => cmpD o' y z else ret (.bl false) := by rw [evE]
@[simp] theorem evE_ite : evE T (.ite t a b) env = bnd (evT T t env) fun k => if k = true then evE T a env else evE T b env := by rw [evE]
@[simp] theorem evE_bcall {f : BF} : evE T (.bcall f as) env = bnd (evEs T as env) fun vs => bfun f vs := by rw [evE]
@[simp] theorem evE_bmeth {m : BM} : evE T (.bmeth m o as) env = bnd (evE T o env) fun x => bnd (tyChk (bmTy m) x) fun _ => bnd (evEs T as env) fun vs => bmeth m x vs := by rw [evE]
@[simp] theorem evE_isi {c : D} : evE T (.isi a c) env = bnd (evE T a env) fun x => bnd (isiD T x c) fun b => ret (.bl b) := by rw [evE]
@[simp] theorem evE_own {f : Nat} {sel : List Sel} : evE T (.own f as ks sel) env = bnd (evEs T as env) fun vs => bnd (evEs T ks env) fun us => bnd (opt (selD (vs ++ us) sel)) fun ws => noErr (T.fn f ws) := by rw [evE]
@[simp] theorem evE_make {c : Str} {sel : List Sel} : evE T (.make c as ks sel) env = bnd (evEs T as env) fun vs => bnd (evEs T ks env) fun us => bnd (opt (selD (vs ++ us) sel)) fun ws => makeI T c ws := by rw [evE]
@[simp] theorem evE_makeV {c : Str} {sel : List Sel} : evE T (.makeV c o as sel) env = bnd (evE T o env) fun x => bnd (glIs c x) fun _ => bnd (evEs T as env) fun vs => bnd (opt (selD vs sel)) fun ws => makeI T c ws := by rw [evE]
@[simp] theorem evE_ometh {m c : Str} {sel : List Sel} : evE T (.ometh m c o as ks sel) env = bnd (evE T o env) fun x => bnd (insOf c x) fun fs => if (fs.lookup m).isNone = true then bnd (evEs T as env) fun vs => bnd (evEs T ks env) fun us => bnd (opt (selD (vs ++ us) sel)) fun ws => optF (methOf T c m) (x :: ws) else fail := by rw [evE]
@[simp] theorem evE_cmeth {c m : Str} {sel : List Sel} : evE T (.cmeth c m as ks sel) env = bnd (evEs T as env) fun vs => bnd (evEs T ks env) fun us => bnd (opt (selD (vs ++ us) sel)) fun ws => match T.cls c with
      | some k => optF (k.cmet m) (.glo c :: ws)
      | none => fail := by rw [evE]; try rfl
@[simp] theorem evE_oeq {ne : Bool} {c : Str} : evE T (.oeq ne c a b) env = bnd (evE T a env) fun x => bnd (evE T b env) fun y => eqO T ne c x y := by rw [evE]
@[simp] theorem evE_dund {k : Dk} {c : Str} : evE T (.dund k c a) env = bnd (evE T a env) (dundO T k c) := by rw [evE]
@[simp] theorem evE_attr {f : Str} : evE T (.attr o f) env = bnd (evE T o env) fun x => getAt T x f := by rw [evE]
@[simp] theorem evE_ix : evE T (.ix a b) env = bnd (evE T a env) fun x => bnd (evE T b env) fun y => getIx x y := by rw [evE]
@[simp] theorem evE_slice {lo hi : CO} : evE T (.slice a lo hi) env = bnd (evE T a env) fun x => bnd (evO T lo env) fun l => bnd (evO T hi env) fun h => getSl x l h := by rw [evE]
@[simp] theorem evE_tup : evE T (.tup as) env = bnd (evEs T as env) tupD := by rw [evE]
@[simp] theorem evE_lst : evE T (.lst as) env = bnd (evEs T as env) lstD := by rw [evE]
/-- one turn of a comprehension -/
def turnL (T : Tab) (g : CG) (t : CT) (e : CE) (own : List Nat) (env : Env) (d : D) : R (Option D) := bnd (evG T g d (wipeE env own)) fun env2 => bnd (evT T t env2) fun k => if k = true then bnd (evE T e env2) fun y => ret (some y) else ret none
@[simp] theorem evE_comp {it : CI} {g : CG} {e : CE} {own : List Nat} : evE T (.comp it g t e own) env = bnd (evI T it env) fun p => bnd (new (.lst [])) fun r => match r with
      | .ref n => bnd (compL p.2 n (turnL T g t e own env) p.1) fun _ => ret (.ref n)
      | _ => fail := by rw [evE]; rfl
@[simp] theorem evE_fstr : evE T (.fstr as) env = bnd (evJ T as Str.empty env) fun z => ret (.str z) := by rw [evE]
@[simp] theorem evE_fmt : evE T (.fmt a) env = bnd (evE T a env) fmtD := by rw [evE]
@[simp] theorem evE_andV : evE T (.andV a b) env = bnd (evE T a env) fun x => bnd (tru x) fun k => if k = true then evE T b env else ret x := by rw [evE]
@[simp] theorem evE_orV : evE T (.orV a b) env = bnd (evE T a env) fun x => bnd (tru x) fun k => if k = true then ret x else evE T b env := by rw [evE]
@[simp] theorem evE_notV : evE T (.notV a) env = bnd (evE T a env) fun x => bnd (tru x) fun k => ret (.bl (!k)) := by rw [evE]
@[simp] theorem evEs_nil : evEs T .nil env = ret [] := by rw [evEs]
@[simp] theorem evEs_cons : evEs T (.cons a es) env = bnd (evE T a env) fun x => bnd (evEs T es env) fun xs => ret (x :: xs) := by rw [evEs]
@[simp] theorem evJ_nil {acc : Str} : evJ T .nil acc env = ret acc := by rw [evJ]
@[simp] theorem evJ_cons {acc : Str} : evJ T (.cons a es) acc env = bnd (evE T a env) fun x => bnd (opt (glue acc x)) fun z => evJ T es z env := by rw [evJ]
/-! tests -/
@[simp] theorem evT_val : evT T (.val a) env = bnd (evE T a env) tru := by rw [evT]
@[simp] theorem evT_bl : evT T (.bl a) env = bnd (evE T a env) asBl := by rw [evT]
@[simp] theorem evT_nt : evT T (.nt t) env = bnd (evT T t env) fun b => ret (!b) := by rw [evT]
@[simp] theorem evT_an : evT T (.an t u) env = bnd (evT T t env) fun b => if b = true then evT T u env else ret false := by rw [evT]
@[simp] theorem evT_or : evT T (.or t u) env = bnd (evT T t env) fun b => if b = true then ret true else evT T u env := by rw [evT]
@[simp] theorem evT_yes : evT T .yes env = ret true := by rw [evT]
@[simp] theorem evO_no : evO T .no env = ret none := by rw [evO]
@[simp] theorem evO_yes : evO T (.yes a) env = bnd (evE T a env) optI := by rw [evO]
@[simp] theorem evI_of : evI T (.of a) env = bnd (evE T a env) itemsOf := by rw [evI]
/-- what range gives -/
def rngD : D → R (List D × Option (Nat × List D))
  | .int j => if inR j then ret (rangeD 0 j.toNat, none) else fail
  | _ => fail
def rng2D : D → D → R (List D × Option (Nat × List D))
  | .int i, .int j => if inR i && inR j then ret (rangeD i (j - i).toNat, none) else fail
  | _, _ => fail
@[simp] theorem rngD_int {j : Int} (h : inR j = true) : rngD (.int j) = ret (rangeD 0 j.toNat, none) := if_pos h
@[simp] theorem rng2D_int {i j : Int} (h : inR i = true) (h2 : inR j = true) : rng2D (.int i) (.int j) = ret (rangeD i (j - i).toNat, none) := if_pos (by rw [h, h2]; rfl)
@[simp] theorem evI_rng : evI T (.rng a) env = bnd (evE T a env) rngD := by
  rw [evI]
  rfl
@[simp] theorem evI_rng2 : evI T (.rng2 a b) env = bnd (evE T a env) fun x => bnd (evE T b env) fun y => rng2D x y := by
  rw [evI]
  rfl
@[simp] theorem evI_enum : evI T (.enum a) env = bnd (evE T a env) fun x => bnd (seqG x) fun p => ret (numbered 0 p.1, p.2) := by rw [evI]
@[simp] theorem evG_nm {i : Nat} : evG T (.nm i) d env = ret (env.set i (some d)) := by rw [evG]
@[simp] theorem evG_tup {gs : CGs} : evG T (.tup gs) (.tup ds) env = if ds.length = gs.len then evGs T gs ds env else fail := by rw [evG]
@[simp] theorem evG_sub : evG T (.sub o i) d env = bnd (evE T o env) fun x => bnd (evE T i env) fun y => bnd (setIx x y d) fun _ => ret env := by rw [evG]
@[simp] theorem evG_att {f : Str} : evG T (.att o f) d env = bnd (evE T o env) fun x => bnd (setAt T x f d) fun _ => ret env := by rw [evG]
@[simp] theorem evGs_nil : evGs T .nil [] env = ret env := by rw [evGs]; rfl
@[simp] theorem evGs_cons {g : CG} {gs : CGs} : evGs T (.cons g gs) (d :: ds) env = bnd (evG T g d env) fun env2 => evGs T gs ds env2 := by rw [evGs]
@[simp] theorem len_nil : CGs.nil.len = 0 := rfl
@[simp] theorem len_cons {g : CG} {gs : CGs} : (CGs.cons g gs).len = gs.len + 1 := rfl
/-! statements -/
variable {g : CG} {s : CS} {ss sa sb : CSs} {it : CI}
@[simp] theorem evS_asg : evS T (.asg g a) env = bnd (evE T a env) fun d => bnd (evG T g d env) fun env2 => ret (.nx env2) := by rw [evS]
@[simp] theorem evS_ex : evS T (.ex a) env = bnd (evE T a env) fun _ => ret (.nx env) := by rw [evS]
@[simp] theorem evS_rt : evS T (.rt a) env = bnd (evE T a env) fun d => ret (.rt d) := by rw [evS]
@[simp] theorem evS_rtN : evS T .rtN env = ret (.rt .non) := by rw [evS]
@[simp] theorem evS_cond : evS T (.cond t sa sb) env = bnd (evT T t env) fun k => if k = true then evSs T sa env else evSs T sb env := by rw [evS]
/-- one turn of a loop -/
def bodyF (T : Tab) (g : CG) (sa : CSs) (d : D) (env : Env) : R Fl := bnd (evG T g d env) fun env2 => evSs T sa env2
@[simp] theorem evS_for : evS T (.forS g it sa) env = bnd (evI T it env) fun p => forL p.2 (bodyF T g sa) p.1 env := by rw [evS]; rfl
@[simp] theorem evS_pass : evS T .pass env = ret (.nx env) := by rw [evS]
@[simp] theorem evS_brk : evS T .brk env = ret (.bk env) := by rw [evS]
@[simp] theorem evS_cont : evS T .cont env = ret (.ct env) := by rw [evS]
@[simp] theorem evS_stuck : evS T .stuck env = fail := by rw [evS]
@[simp] theorem evS_try : evS T (.tryS sa) env = evSs T sa env := by rw [evS]
/-- what follows a statement -/
def thenS (T : Tab) (ss : CSs) : Fl → R Fl
  | .nx env2 => evSs T ss env2
  | .rt d => ret (.rt d)
  | .bk e => ret (.bk e)
  | .ct e => ret (.ct e)
@[simp] theorem evSs_nil : evSs T .nil env = ret (.nx env) := by rw [evSs]
@[simp] theorem evSs_cons : evSs T (.cons s ss) env = bnd (evS T s env) (thenS T ss) := by
  rw [evSs]
  rfl
@[simp] theorem thenS_nx : thenS T ss (.nx env) = evSs T ss env := nr rfl
@[simp] theorem thenS_rt : thenS T ss (.rt d) = ret (.rt d) := nr rfl
@[simp] theorem thenS_bk : thenS T ss (.bk env) = ret (.bk env) := nr rfl
@[simp] theorem thenS_ct : thenS T ss (.ct env) = ret (.ct env) := nr rfl
def endF : Fl → R D
  | .rt d => ret d
  | .nx _ => ret .non
  | _ => fail
theorem runDef_eq {n : Nat} : runDef T n ss vs = bnd (evSs T ss (vs.map some ++ List.replicate (n - vs.length) none)) endF := by
  unfold runDef
  rfl
@[simp] theorem endF_rt : endF (.rt d) = ret d := nr rfl
@[simp] theorem endF_nx : endF (.nx env) = ret .non := nr rfl
/-! data -/
@[simp] theorem getVar_0 : getVar (some d :: env) 0 = ret d := nr rfl
@[simp] theorem getVar_s {v : Option D} {n : Nat} : getVar (v :: env) (n + 1) = getVar env n := by unfold getVar; simp
@[simp] theorem asBl_bl {b : Bool} : asBl (.bl b) = ret b := nr rfl
@[simp] theorem tru_bl {b : Bool} : tru (.bl b) = ret b := nr rfl
@[simp] theorem tru_non : tru .non = ret false := nr rfl
@[simp] theorem tru_int {i : Int} : tru (.int i) = ret (i != 0) := nr rfl
@[simp] theorem add_int {i j : Int} : binD .add (.int i) (.int j) = ret (.int (i + j)) := nr rfl
@[simp] theorem sub_int {i j : Int} : binD .sub (.int i) (.int j) = ret (.int (i - j)) := nr rfl
@[simp] theorem mul_int {i j : Int} : binD .mul (.int i) (.int j) = if small i || small j then ret (.int (i * j)) else fail := nr rfl
@[simp] theorem mod_int {i j : Int} : binD .mod (.int i) (.int j) = if 0 < j then ret (.int (i % j)) else fail := nr rfl
@[simp] theorem fdiv_int {i j : Int} : binD .fdiv (.int i) (.int j) = if 0 < j ∧ j < 1073741824 then ret (.int (i / j)) else fail := nr rfl
@[simp] theorem pow_int {i j : Int} : binD .pow (.int i) (.int j) = if 0 ≤ j ∧ j ≤ 1000000 ∧ i.natAbs < 2 ^ 64 then ret (.int (i ^ j.toNat)) else fail := nr rfl
@[simp] theorem add_str {a b : Str} : binD .add (.str a) (.str b) = if a.length + b.length ≤ sizeLine then ret (.str (a ++ b)) else fail := nr rfl
@[simp] theorem add_tup {a b : List D} : binD .add (.tup a) (.tup b) = if a.length + b.length ≤ sizeLine then ret (.tup (a ++ b)) else fail := nr rfl
@[simp] theorem lt_int {i j : Int} : cmpD .lt (.int i) (.int j) = ret (.bl (decide (i < j))) := nr rfl
@[simp] theorem le_int {i j : Int} : cmpD .le (.int i) (.int j) = ret (.bl (decide (i ≤ j))) := nr rfl
@[simp] theorem gt_int {i j : Int} : cmpD .gt (.int i) (.int j) = ret (.bl (decide (j < i))) := nr rfl
@[simp] theorem ge_int {i j : Int} : cmpD .ge (.int i) (.int j) = ret (.bl (decide (j ≤ i))) := nr rfl
@[simp] theorem lt_str {i j : Str} : cmpD .lt (.str i) (.str j) = ret (.bl (decide (i.cps.toList < j.cps.toList))) := nr rfl
@[simp] theorem ge_str {i j : Str} : cmpD .ge (.str i) (.str j) = ret (.bl (!decide (i.cps.toList < j.cps.toList))) := nr rfl
theorem shaped_flat {i : Int} : SeqAt.shaped (.int i) = true := by first | rfl | simp [SeqAt.shaped]
theorem shaped_str {i : Str} (h : PyData.strOk i = true) : SeqAt.shaped (.str i) = true := by simp [SeqAt.shaped, PyData.canLay0, PyData.depth, h]
theorem eqD_int {i j : Int} : eqD (.int i) (.int j) = ret (i == j) := by
  funext M
  unfold eqD
  simp only [toPy, shaped_flat, Bool.and_self, if_true]
  rfl
theorem eqD_str {i j : Str} (hi : PyData.strOk i = true) (hj : PyData.strOk j = true) : eqD (.str i) (.str j) = ret (i == j) := by
  funext M
  unfold eqD
  simp only [toPy, shaped_str hi, shaped_str hj, Bool.and_self, if_true]
  rfl
@[simp] theorem eq_int {i j : Int} : cmpD .eq (.int i) (.int j) = ret (.bl (i == j)) := by unfold cmpD; simp only [eqD_int, bnd_ret]
@[simp] theorem ne_int {i j : Int} : cmpD .ne (.int i) (.int j) = ret (.bl (!(i == j))) := by unfold cmpD; simp only [eqD_int, bnd_ret]
theorem eq_str {i j : Str} (hi : PyData.strOk i = true) (hj : PyData.strOk j = true) : cmpD .eq (.str i) (.str j) = ret (.bl (i == j)) := by unfold cmpD; simp only [eqD_str hi hj, bnd_ret]
theorem ne_str {i j : Str} (hi : PyData.strOk i = true) (hj : PyData.strOk j = true) : cmpD .ne (.str i) (.str j) = ret (.bl (!(i == j))) := by unfold cmpD; simp only [eqD_str hi hj, bnd_ret]
@[simp] theorem isNot_bl {i j : Bool} : cmpD .isNot (.bl i) (.bl j) = ret (.bl (!(i == j))) := nr rfl
@[simp] theorem isO_bl {i j : Bool} : cmpD .isO (.bl i) (.bl j) = ret (.bl (i == j)) := nr rfl
@[simp] theorem int_int {i : Int} : bfun .int [.int i] = ret (.int i) := nr rfl
@[simp] theorem abs_int {i : Int} : bfun .abs [.int i] = ret (.int (if i < 0 then -i else i)) := nr rfl
@[simp] theorem str_int {i : Int} : bfun .str [.int i] = if i.natAbs.log2 < 1920 then ret (.str (toString i)) else fail := nr rfl
@[simp] theorem max_int {i j : Int} : bfun .max [.int i, .int j] = ret (.int (if j > i then j else i)) := nr rfl
@[simp] theorem min_int {i j : Int} : bfun .min [.int i, .int j] = ret (.int (if j < i then j else i)) := nr rfl
@[simp] theorem len_tup : bfun .len [.tup ds] = ret (.int ds.length) := nr rfl
@[simp] theorem len_fl : bfun .len [.fl ds] = ret (.int ds.length) := nr rfl
@[simp] theorem len_str {y : Str} : bfun .len [.str y] M = if y.length ≤ sizeLine then some (Except.ok (D.int y.length), M) else none := nr rfl
theorem tupD_eq : tupD vs = if vs.length ≤ sizeLine then ret (.tup vs) else fail := rfl
theorem lstD_eq : lstD vs = if vs.length ≤ sizeLine then new (.lst vs) else fail := rfl
@[simp] theorem new_at {o : O} : new o M = some (.ok (.ref M.length), M ++ [o]) := nr rfl
theorem ix_ref {n : Nat} {k : Int} : getIx (.ref n) (.int k) M = match M[n]? with | some (.lst ds) => (match L2.atI ds k with | none => none | some d => some (.ok d, M)) | _ => none := by
  show (match (match M[n]? with | some (.lst ds) => some ds | _ => none : Option (List D)) with | some ds => (match L2.atI ds k with | none => none | some d => some (Except.ok d, M)) | none => none) = _
  cases M[n]? with
  | none => rfl
  | some o => cases o <;> rfl
theorem ix_tup {k : Int} : getIx (.tup ds) (.int k) M = match L2.atI ds k with | none => none | some d => some (Except.ok d, M) := rfl
theorem ix_fl {k : Int} : getIx (.fl ds) (.int k) M = match L2.atI ds k with | none => none | some d => some (Except.ok d, M) := rfl
theorem ix_str {y : Str} {k : Int} : getIx (.str y) (.int k) M = if y.length ≤ sizeLine then match L2.atI y.cps.toList k with | none => none | some c => some (Except.ok (D.str ⟨#[c]⟩), M) else none := rfl
theorem setIx_ref {n : Nat} {k : Int} : setIx (.ref n) (.int k) d M = match M[n]? with | some (.lst ds) => (match L2.ixN ds.length k with | some j => some (.ok (), M.set n (.lst (ds.set j d))) | none => none) | _ => none := rfl
@[simp] theorem noErr_at {m : R α} : noErr m M = match m M with | some (.ok a, M') => some (.ok a, M') | _ => none := nr rfl
@[simp] theorem selD_nil : selD vs [] = some [] := rfl
@[simp] theorem selD_arg {k : Nat} {r : List Sel} : selD vs (.arg k :: r) = match vs[k]?, selD vs r with | some d, some ds => some (d :: ds) | _, _ => none := by rw [selD]; try rfl
@[simp] theorem items_str {y : Str} : itemsOf (.str y) = ret (y.cps.toList.map fun c => .str ⟨#[c]⟩, none) := rfl
@[simp] theorem items_tup : itemsOf (.tup ds) = ret (ds, none) := rfl
@[simp] theorem items_fl : itemsOf (.fl ds) = ret (ds, none) := rfl
theorem items_ref {n : Nat} : itemsOf (.ref n) M = match M[n]? with | some (.lst ds) => some (.ok (ds, some (n, ds)), M) | _ => none := rfl
@[simp] theorem seqG_tup : seqG (.tup ds) = ret (ds, none) := rfl
@[simp] theorem rangeD_0 {k : Int} : rangeD k 0 = [] := rfl
@[simp] theorem bmTy_a : bmTy .append = "list" := rfl
@[simp] theorem bmTy_p : bmTy .partition = "str" := rfl
@[simp] theorem bmTy_s : bmTy .split = "str" := rfl
@[simp] theorem bmTy_j : bmTy .join = "str" := rfl
theorem append_ref {n : Nat} : bmeth .append (.ref n) [d] M = match M[n]? with | some (.lst ds) => if ds.length < sizeLine then some (.ok .non, M.set n (.lst (ds ++ [d]))) else none | _ => none := rfl
theorem tyChk_ref {n : Nat} {S : String} : tyChk S (.ref n) M = match M[n]? with | some (.lst _) => if S = "list" then some (.ok (), M) else none | _ => none := rfl
@[simp] theorem tyChk_str {y : Str} : tyChk "str" (.str y) = ret () := rfl
theorem at_pos {α : Type} {xs : List α} {k : Int} (h0 : 0 ≤ k) (h1 : k < xs.length) : L2.atI xs k = xs[k.toNat]? := by
  unfold L2.atI L2.ixN
  rw [if_pos h0, if_pos h1]
  rfl
@[simp] theorem forL_nil {g : Option (Nat × List D)} {turn : D → Env → R Fl} : forL g turn [] env = bnd (chk g) fun _ => ret (.nx env) := rfl
@[simp] theorem chk_none : chk none = ret () := rfl
end
end DL
end
section
set_option Elab.async false
set_option linter.all false
set_option maxRecDepth 100000
set_option maxHeartbeats 2000000
/-! DL, part w: loops by invariants; the store. -/
namespace DL
open PySem
section
variable {g : Option (Nat × List D)} {turn : D → Env → R Fl}
theorem forL_step {d : D} {ds : List D} {env e1 : Env} {M M1 : Mem} (hg : chk g M = some (.ok (), M)) (h : turn d env M = some (.ok (.nx e1), M1)) : forL g turn (d :: ds) env M = forL g turn ds e1 M1 := by
  show bnd (chk g) _ M = _
  rw [bnd_ok hg, bnd_ok h]
theorem forL_rt {d r : D} {ds : List D} {env : Env} {M M1 : Mem} (hg : chk g M = some (.ok (), M)) (h : turn d env M = some (.ok (.rt r), M1)) : forL g turn (d :: ds) env M = some (.ok (.rt r), M1) := by
  show bnd (chk g) _ M = _
  rw [bnd_ok hg, bnd_ok h]
theorem forL_run (P : Nat → Env → Mem → Prop) (hg : ∀ i env M, P i env M → chk g M = some (.ok (), M)) : ∀ (ds : List D) (k : Nat) (env : Env) (M : Mem), P k env M →
    (∀ i d env M, ds[i]? = some d → P (k + i) env M → ∃ env' M', turn d env M = some (.ok (.nx env'), M') ∧ P (k + i + 1) env' M') → ∃ env' M', forL g turn ds env M = some (.ok (.nx env'), M') ∧ P (k + ds.length) env' M'
  | [], k, env, M, h, _ => ⟨env, M, by
      show bnd (chk g) _ M = _
      rw [bnd_ok (hg k env M h)]
      , h⟩
  | d :: ds, k, env, M, h, step => by
    obtain ⟨e1, M1, h1, p1⟩ := step 0 d env M rfl h
    obtain ⟨e2, M2, h2, p2⟩ := forL_run P hg ds (k + 1) e1 M1 p1 fun i d env M hd hp => by
      have := step (i + 1) d env M (by simpa using hd) (by have e : k + (i + 1) = k + 1 + i := by omega
                                                           rw [e]; exact hp)
      have e : k + (i + 1) + 1 = k + 1 + i + 1 := by omega
      rw [e] at this
      exact this
    refine ⟨e2, M2, ?_, ?_⟩
    · show bnd (chk g) _ M = _
      rw [bnd_ok (hg k env M h), bnd_ok h1]
      exact h2
    · have e : k + (d :: ds).length = k + 1 + ds.length := by simp only [List.length_cons]; omega
      rw [e]; exact p2
theorem forL_0 (P : Nat → Env → Mem → Prop) (hg : ∀ i env M, P i env M → chk g M = some (.ok (), M)) {ds : List D} {env : Env} {M : Mem} (h : P 0 env M)
    (step : ∀ i d env M, ds[i]? = some d → P i env M → ∃ env' M', turn d env M = some (.ok (.nx env'), M') ∧ P (i + 1) env' M') : ∃ env' M', forL g turn ds env M = some (.ok (.nx env'), M') ∧ P ds.length env' M' := by
  have := forL_run P hg ds 0 env M h fun i d env M hd hp => by
    rw [Nat.zero_add] at hp ⊢
    exact step i d env M hd hp
  rw [Nat.zero_add] at this
  exact this
end
section
variable {g : Option (Nat × List D)} {n : Nat} {turn : D → R (Option D)}
/-- a comprehension whose turns may change the store -/
theorem compL_run (P : List D → Mem → Prop) (hg : ∀ acc M, P acc M → chk g M = some (.ok (), M)) (hn : ∀ acc M, P acc M → M[n]? = some (.lst acc)) : ∀ (ds : List D) (acc : List D) (M : Mem), acc.length + ds.length ≤ sizeLine → P acc M →
    (∀ d acc M, d ∈ ds → P acc M → ∃ y M1, turn d M = some (.ok (some y), M1) ∧ M1[n]? = some (.lst acc) ∧ P (acc ++ [y]) (M1.set n (.lst (acc ++ [y])))) →
    ∃ acc' M', compL g n turn ds M = some (.ok (), M') ∧ P acc' M' ∧ acc'.length = acc.length + ds.length
  | [], acc, M, _, h, _ => ⟨acc, M, by show chk g M = _; exact hg acc M h, h, rfl⟩
  | d :: ds, acc, M, hz, h, step => by
    obtain ⟨y, M1, h1, h2, p1⟩ := step d acc M List.mem_cons_self h
    have hl : acc.length < sizeLine := by simp only [List.length_cons] at hz; omega
    have hz' : (acc ++ [y]).length + ds.length ≤ sizeLine := by simp only [List.length_append, List.length_cons, List.length_nil] at hz ⊢; omega
    obtain ⟨acc', M', h3, p3, l3⟩ := compL_run P hg hn ds (acc ++ [y]) _ hz' p1 fun d' acc' M' hd hp => step d' acc' M' (List.mem_cons_of_mem _ hd) hp
    refine ⟨acc', M', ?_, p3, ?_⟩
    · show bnd (chk g) _ M = _
      rw [bnd_ok (hg acc M h), bnd_ok h1]
      show bnd (push n y) _ M1 = _
      have hp : push n y M1 = some (.ok (), M1.set n (.lst (acc ++ [y]))) := by
        unfold push
        rw [h2]
        dsimp only
        rw [if_pos hl]
      rw [bnd_ok hp]
      exact h3
    · rw [l3]; simp only [List.length_append, List.length_cons, List.length_nil]; omega
/-- a comprehension whose turns leave the store as it is: the new list is the last object -/
theorem compL_map (f : D → D) (N : Mem) (hg : ∀ acc, chk g (N ++ [.lst acc]) = some (.ok (), N ++ [.lst acc])) {ds : List D} (hz : ds.length ≤ sizeLine) (ht : ∀ d acc, d ∈ ds → turn d (N ++ [.lst acc]) = some (.ok (some (f d)), N ++ [.lst acc])) :
    compL g N.length turn ds (N ++ [.lst []]) = some (.ok (), N ++ [.lst (ds.map f)]) := by
  suffices go : ∀ (ds acc : List D), acc.length + ds.length ≤ sizeLine → (∀ d acc, d ∈ ds → turn d (N ++ [.lst acc]) = some (.ok (some (f d)), N ++ [.lst acc])) → compL g N.length turn ds (N ++ [.lst acc]) = some (.ok (), N ++ [.lst (acc ++ ds.map f)]) by
    simpa using go ds [] (by simpa using hz) ht
  intro ds
  induction ds with
  | nil => intro acc _ _; show chk g _ = _; rw [hg]; simp
  | cons d ds ih =>
    intro acc hz ht
    have hl : acc.length < sizeLine := by simp only [List.length_cons] at hz; omega
    show bnd (chk g) _ _ = _
    rw [bnd_ok (hg acc), bnd_ok (ht d acc List.mem_cons_self)]
    show bnd (push N.length (f d)) _ _ = _
    have hp : push N.length (f d) (N ++ [.lst acc]) = some (.ok (), N ++ [.lst (acc ++ [f d])]) := by
      unfold push
      rw [List.getElem?_append_right (Nat.le_refl _)]
      simp only [Nat.sub_self, List.getElem?_cons_zero]
      rw [if_pos hl]
      simp [List.set_append]
    rw [bnd_ok hp]
    have := ih (acc ++ [f d]) (by simp only [List.length_append, List.length_cons, List.length_nil] at hz ⊢; omega) fun d' acc' hd => ht d' acc' (List.mem_cons_of_mem _ hd)
    rw [this]
    simp
end
theorem get_set {M : Mem} {n : Nat} {o : O} (h : M[n]? = some o) (x : O) : (M.set n x)[n]? = some x := List.getElem?_set_self (List.getElem?_eq_some_iff.mp h).1
theorem get_app {M : Mem} {n : Nat} {o : O} (h : M[n]? = some o) (N : Mem) : (M ++ N)[n]? = some o := by
  rw [List.getElem?_append_left (List.getElem?_eq_some_iff.mp h).1]; exact h
theorem get_new {M : Mem} {o : O} {N : Mem} : (M ++ o :: N)[M.length]? = some o := by
  rw [List.getElem?_append_right (Nat.le_refl _)]; simp
/-- the store behind draws and new objects: the n-th object is a pool again, those of before stay -/
def isPool (o : O) : Prop := ∃ a b c, o = .lst [.int a, .int b, .int c]
structure Grow (n : Nat) (M M' : Mem) : Prop where
  pool : ∃ o, M'[n]? = some o ∧ isPool o
  keep : ∀ i o, i ≠ n → M[i]? = some o → M'[i]? = some o
  len : M.length ≤ M'.length
theorem Grow.trans {n : Nat} {M M1 M2 : Mem} (a : Grow n M M1) (b : Grow n M1 M2) : Grow n M M2 := ⟨b.pool, fun i o h e => b.keep i o h (a.keep i o h e), Nat.le_trans a.len b.len⟩
theorem Grow.refl {n : Nat} {M : Mem} (h : ∃ o, M[n]? = some o ∧ isPool o) : Grow n M M := ⟨h, fun _ _ _ e => e, Nat.le_refl _⟩
theorem Grow.app {n : Nat} {M M' : Mem} (a : Grow n M M') (N : Mem) : Grow n M (M' ++ N) := ⟨let ⟨o, h, p⟩ := a.pool; ⟨o, get_app h N, p⟩, fun i o h e => get_app (a.keep i o h e) N, by rw [List.length_append]; exact Nat.le_trans a.len (Nat.le_add_right _ _)⟩
end DL
end
section
set_option Elab.async false
set_option linter.all false
set_option maxRecDepth 100000
set_option maxHeartbeats 2000000
/-! DL, part x: single steps on the store. -/
namespace DL
open PySem
section
variable {M : Mem} {m : Nat} {ds : List D}
theorem lstOf_ref (h : M[m]? = some (.lst ds)) : lstOf M (.ref m) = some ds := by
  unfold lstOf
  dsimp only
  rw [h]
theorem seqOf_ref (h : M[m]? = some (.lst ds)) : seqOf M (.ref m) = some ds := by
  unfold seqOf
  first | (dsimp only; rw [h]) | (dsimp only; exact lstOf_ref h)
theorem chk_ref (h : M[m]? = some (.lst ds)) : chk (some (m, ds)) M = some (.ok (), M) := by
  unfold chk
  dsimp only
  rw [h]
  dsimp only
  rw [if_pos (D.beqs_self ds)]
theorem items_at (h : M[m]? = some (.lst ds)) : itemsOf (.ref m) M = some (.ok (ds, some (m, ds)), M) := by rw [items_ref, h]
theorem tuple_at (h : M[m]? = some (.lst ds)) : bfun .tuple [.ref m] M = some (.ok (.tup ds), M) := by
  unfold bfun tupleB
  dsimp only
  rw [seqOf_ref h]
theorem mapO_bl : ∀ bs : List Bool, blsOf (bs.map D.bl) = some bs
  | [] => rfl
  | b :: bs => by
    have ih := mapO_bl bs
    unfold blsOf at ih ⊢
    rw [List.map_cons, mapO, ih]
theorem mapO_str : ∀ fs : List Str, strsOf (fs.map D.str) = some fs
  | [] => rfl
  | f :: fs => by
    have ih := mapO_str fs
    unfold strsOf at ih ⊢
    rw [List.map_cons, mapO, ih]
theorem all_at {bs : List Bool} (h : M[m]? = some (.lst (bs.map D.bl))) : bfun .all [.ref m] M = some (.ok (.bl (bs.all id)), M) := by
  unfold bfun allB
  dsimp only
  rw [lstOf_ref h]
  dsimp only
  rw [mapO_bl]
theorem join_at {a : Str} {ys : List Str} (h : M[m]? = some (.lst (ys.map D.str))) (hz : (ys.map (·.length)).sum + ys.length * a.length ≤ 16777216) : bmeth .join (.str a) [.ref m] M = some (.ok (.str (Txt.join a ys)), M) := by
  unfold bmeth joinM
  dsimp only
  rw [seqOf_ref h]
  dsimp only
  rw [mapO_str]
  dsimp only
  rw [if_pos hz]
theorem in_sign {c : Nat} {b : Str} : cmpD .inO (.str ⟨#[c]⟩) (.str b) = ret (.bl (decide (c ∈ b.cps.toList))) := rfl
theorem notIn_sign {c : Nat} {b : Str} : cmpD .notIn (.str ⟨#[c]⟩) (.str b) = ret (.bl (!decide (c ∈ b.cps.toList))) := rfl
theorem isi_true {T : Tab} {x c : D} (h1 : insOk T M x = true) (h2 : isAny M x c = some true) : isiD T x c M = some (.ok true, M) := by
  unfold isiD
  rw [if_pos h1, h2]
theorem at_0 {α : Type} {x : α} {xs : List α} : L2.atI (x :: xs) 0 = some x := by
  rw [at_pos (by omega) (by simp)]
  rfl
theorem at_1 {α : Type} {x y : α} {xs : List α} : L2.atI (x :: y :: xs) 1 = some y := by
  rw [at_pos (by omega) (by simp; omega)]
  rfl
/-- objects are added, none is changed -/
def Ext (M M' : Mem) : Prop := ∃ N, M' = M ++ N
theorem Ext.refl (M : Mem) : Ext M M := ⟨[], by simp⟩
theorem Ext.add (M N : Mem) : Ext M (M ++ N) := ⟨N, rfl⟩
theorem Ext.trans {A B C : Mem} (h : Ext A B) (g : Ext B C) : Ext A C := by
  obtain ⟨N, rfl⟩ := h
  obtain ⟨P, rfl⟩ := g
  exact ⟨N ++ P, by simp⟩
theorem Ext.get {A B : Mem} (h : Ext A B) {n : Nat} {o : O} (e : A[n]? = some o) : B[n]? = some o := by
  obtain ⟨N, rfl⟩ := h
  exact get_app e N
theorem Ext.len {A B : Mem} (h : Ext A B) : A.length ≤ B.length := by
  obtain ⟨N, rfl⟩ := h
  rw [List.length_append]
  exact Nat.le_add_right _ _
theorem Grow.ext {n : Nat} {A B C : Mem} (g : Grow n A B) (h : Ext B C) : Grow n A C := by
  obtain ⟨N, rfl⟩ := h
  exact g.app N
theorem Ext.grow {n : Nat} {A B : Mem} (h : Ext A B) (p : ∃ o, A[n]? = some o ∧ isPool o) : Grow n A B := by
  obtain ⟨N, rfl⟩ := h
  exact (Grow.refl p).app N
end
end DL
end
section
set_option Elab.async false
set_option linter.all false
set_option maxRecDepth 100000
set_option maxHeartbeats 2000000
/-! DL, part y: instances on the store; texts of numbers. -/
namespace DL
open PySem
section
variable {T : Tab} {M : Mem} {n : Nat} {c f : Str} {fs : List (Str × D)} {k : ClsT} {d : D}
theorem setAt_at (h : M[n]? = some (.ins c fs)) (hc : T.cls c = some k) (hf : k.fld.contains f = true) (hl : fs.length < 1000) : setAt T (.ref n) f d M = some (.ok (), M.set n (.ins c (putF f d fs))) := by
  unfold setAt
  dsimp only
  rw [h]
  dsimp only
  rw [hc]
  dsimp only
  rw [if_pos ⟨hf, hl⟩]
theorem getAt_fld (h : M[n]? = some (.ins c fs)) (hc : T.cls c = some k) (hp : k.prop f = none) (hf : k.fld.contains f = true) (hl : fs.lookup f = some d) : getAt T (.ref n) f M = some (.ok d, M) := by
  unfold getAt
  dsimp only
  rw [h]
  dsimp only
  rw [hc]
  dsimp only
  rw [hp]
  dsimp only
  rw [if_pos hf, hl]
theorem getAt_prop {g : FM} (h : M[n]? = some (.ins c fs)) (hc : T.cls c = some k) (hp : k.prop f = some g) : getAt T (.ref n) f M = noErr (g [.ref n]) M := by
  unfold getAt
  dsimp only
  rw [h]
  dsimp only
  rw [hc]
  dsimp only
  rw [hp]
theorem insOf_at (h : M[n]? = some (.ins c fs)) : insOf c (.ref n) M = some (.ok fs, M) := by
  unfold insOf
  dsimp only
  rw [h]
  dsimp only
  rw [if_pos rfl]
theorem dundO_at {q : Dk} {g : FM} {x : D} {M1 : Mem} {M2 : Mem} {y : D} (h : M[n]? = some (.ins c fs)) (hg : methOf T c (dkName q) = some g) (e : g [.ref n] M = some (.ok x, M1)) (e2 : dundD q x M1 = some (.ok y, M2)) : dundO T q c (.ref n) M = some (.ok y, M2) := by
  unfold dundO
  rw [bnd_ok (insOf_at h), hg]
  have : optF (some g) [.ref n] M = some (.ok x, M1) := by
    show noErr (g [.ref n]) M = _
    rw [noErr_at, e]
  rw [bnd_ok this]
  exact e2
theorem makeI_at {vs : List D} {M' : Mem} (hc : T.cls c = some k) (e : k.init (.ref M.length :: vs) (M ++ [.ins c []]) = some (.ok .non, M')) : makeI T c vs M = some (.ok (.ref M.length), M') := by
  unfold makeI
  rw [hc]
  dsimp only
  rw [e]
theorem eqO_at {ne : Bool} {y : D} {g : FM} {b : Bool} {M1 : Mem} (hy : insOk T M y = true) (hp : plainR y = true) (h : M[n]? = some (.ins c fs)) (hg : eqmOf T c = some g) (e : g [.ref n, y] M = some (.ok (.bl b), M1)) : eqO T ne c (.ref n) y M = some (.ok (.bl (if ne = true then !b else b)), M1) := by
  unfold eqO
  rw [if_pos ⟨hy, hp⟩, bnd_ok (insOf_at h), hg]
  have : optF (some g) [.ref n, y] M = some (.ok (.bl b), M1) := by
    show noErr (g [.ref n, y]) M = _
    rw [noErr_at, e]
  rw [bnd_ok this]
  rfl
end
theorem set_mid {M N : Mem} {o x : O} : (M ++ o :: N).set M.length x = M ++ x :: N := by
  rw [List.set_append_right _ _ (Nat.le_refl _), Nat.sub_self]
  rfl
theorem empty_app (x : Str) : Str.empty ++ x = x := TL.ext_tl (by rw [TL.tl_append]; rfl)
@[simp] theorem glue_str {a b : Str} : glue a (.str b) = if (a ++ b).length ≤ sizeLine then some (a ++ b) else none := nr rfl
theorem len_app (a b : Str) : (a ++ b).length = a.length + b.length := by rw [TL.len_tl, TL.tl_append, List.length_append, ← TL.len_tl, ← TL.len_tl]
theorem log_small {i : Int} (h : i.natAbs ≤ 1000) : i.natAbs.log2 < 1920 := Nat.lt_of_le_of_lt (Nat.log2_le_self _) (by omega)
/-- the text of a number -/
abbrev num (i : Int) : Str := Str.ofString (toString i)
theorem num_nat {i : Int} (h : 0 ≤ i) : num i = Str.ofString (toString ((i.toNat : Nat) : Int)) := by
  have e : ((i.toNat : Nat) : Int) = i := by omega
  unfold num
  rw [e]
theorem num_tl {i : Int} (h : 0 ≤ i) : (num i).cps.toList = TL.numL i.toNat := by rw [num_nat h]; exact TL.tl_num _
theorem num_len {i : Int} {k : Nat} (hk : 0 < k) (h : 0 ≤ i) (h2 : i.toNat < 10 ^ k) : (num i).length ≤ k := by
  rw [TL.len_tl]
  show (num i).cps.toList.length ≤ k
  rw [num_tl h]
  exact TL.numL_len hk h2
theorem str_num {i : Int} (h : i.natAbs ≤ 1000) : bfun .str [.int i] = ret (.str (num i)) := by
  rw [str_int, if_pos (log_small h)]
theorem fmt_num {i : Int} (h : i.natAbs ≤ 1000) : fmtD (.int i) = ret (.str (num i)) := by
  unfold fmtD
  dsimp only
  rw [if_pos (log_small h)]
theorem fmt_str {y : Str} (h : y.length ≤ sizeLine) : fmtD (.str y) = ret (.str y) := by
  unfold fmtD
  dsimp only
  rw [if_pos h]
theorem int_num {i : Int} (h : 0 ≤ i) (h2 : i ≤ 1000) : bfun .int [.str (num i)] = ret (.int i) := by
  have l := num_len (i := i) (k := 4) (by decide) h (by omega)
  have e : PySem.intText? (num i) = some i := by
    rw [num_nat h, TL.int_num (by
      have := TL.numL_len (n := i.toNat) (k := 4) (by decide) (by omega)
      omega)]
    congr 1
    omega
  unfold bfun intB
  dsimp only
  rw [e]
  dsimp only
  rw [if_pos (by omega)]
theorem join_len (y : Str) (k : Nat) : ∀ ys : List Str, (∀ x ∈ ys, x.length ≤ k) → (ys.map (·.length)).sum ≤ ys.length * k
  | [], _ => Nat.zero_le _
  | x :: ys, h => by
    have := join_len y k ys fun z hz => h z (List.mem_cons_of_mem _ hz)
    have hx := h x List.mem_cons_self
    rw [List.map_cons, List.sum_cons, List.length_cons, Nat.add_mul, Nat.one_mul]
    omega
theorem joinL_len (S : List Nat) (k : Nat) : ∀ l : List (List Nat), (∀ x ∈ l, x.length ≤ k) → (TL.joinL S l).length ≤ l.length * (k + S.length)
  | [], _ => Nat.zero_le _
  | [x], h => by
    have := h x (by simp)
    show x.length ≤ 1 * (k + S.length)
    omega
  | x :: z :: l, h => by
    have hx := h x (by simp)
    have := joinL_len S k (z :: l) fun y hy => h y (List.mem_cons_of_mem _ hy)
    show (x ++ (S ++ TL.joinL S (z :: l))).length ≤ _
    rw [List.length_append, List.length_append]
    simp only [List.length_cons, Nat.add_mul, Nat.one_mul] at this ⊢
    omega
theorem joinS_len (y : Str) (k : Nat) (ys : List Str) (h : ∀ x ∈ ys, x.length ≤ k) : (Txt.join y ys).length ≤ ys.length * (k + y.length) := by
  rw [TL.join_eq, TL.len_tl, TL.tl_join, TL.len_tl y]
  have := joinL_len (TL.tl y) k (ys.map TL.tl) (by
    intro x hx
    obtain ⟨z, hz, rfl⟩ := List.mem_map.mp hx
    rw [← TL.len_tl]
    exact h z hz)
  rwa [List.length_map] at this
end DL
end
section
set_option Elab.async false
set_option linter.all false
set_option maxRecDepth 100000
set_option maxHeartbeats 2000000
/-! DL, part z: comprehensions that add objects; texts of low signs. -/
namespace DL
open PySem
theorem ext_of {A B : Mem} (h : ∀ (i : Nat) (o : O), A[i]? = some o → B[i]? = some o) : Ext A B := by
  refine ⟨B.drop A.length, ?_⟩
  refine List.ext_getElem? fun i => ?_
  by_cases hi : i < A.length
  · rw [List.getElem?_append_left hi]
    have e := List.getElem?_eq_getElem hi
    rw [e]
    exact h i _ e
  · have hi' : A.length ≤ i := Nat.le_of_not_lt hi
    rw [List.getElem?_append_right hi', List.getElem?_drop]
    congr 1
    omega
/-- the guard of a loop over a list that the loop leaves alone -/
def GOk (g : Option (Nat × List D)) (n : Nat) (M : Mem) : Prop := match g with
  | none => True
  | some (m, es) => m ≠ n ∧ M[m]? = some (.lst es)
theorem GOk.chk {g : Option (Nat × List D)} {n : Nat} {M : Mem} (h : GOk g n M) : chk g M = some (.ok (), M) := by
  cases g with
  | none => rfl
  | some p => exact chk_ref h.2
theorem GOk.keep {g : Option (Nat × List D)} {n : Nat} {M M' : Mem} (h : GOk g n M) (k : ∀ i o, i ≠ n → M[i]? = some o → M'[i]? = some o) : GOk g n M' := by
  cases g with
  | none => trivial
  | some p => exact ⟨h.1, k _ _ h.1 h.2⟩
theorem compL_ext {α : Type} {g : Option (Nat × List D)} {n : Nat} {turn : D → R (Option D)} (a b : α → D) : ∀ (xs : List α) (acc : List D) (M : Mem), acc.length + xs.length ≤ 16777216 → M[n]? = some (.lst acc) → GOk g n M → (∀ x M, x ∈ xs → ∃ N, turn (a x) M = some (.ok (some (b x)), M ++ N)) →
    ∃ M', compL g n turn (xs.map a) M = some (.ok (), M') ∧ M'[n]? = some (.lst (acc ++ xs.map b)) ∧ (∀ i o, i ≠ n → M[i]? = some o → M'[i]? = some o) ∧ M.length ≤ M'.length
  | [], acc, M, _, hn, hg, _ => ⟨M, by show chk g M = _; exact hg.chk, by simpa using hn, (fun _ _ _ e => e), Nat.le_refl _⟩
  | d :: ds, acc, M, hz, hn, hg, ht => by
    obtain ⟨N, e⟩ := ht d M List.mem_cons_self
    have hn1 : (M ++ N)[n]? = some (.lst acc) := get_app hn N
    have hl : acc.length < sizeLine := by rw [sizeLine_eq]; simp only [List.length_cons] at hz; omega
    have hp : push n (b d) (M ++ N) = some (.ok (), (M ++ N).set n (.lst (acc ++ [b d]))) := by
      unfold push
      rw [hn1]
      dsimp only
      rw [if_pos hl]
    have keep : ∀ i o, i ≠ n → M[i]? = some o → ((M ++ N).set n (.lst (acc ++ [b d])))[i]? = some o := by
      intro i o hi e
      rw [List.getElem?_set_ne (Ne.symm hi)]
      exact get_app e N
    obtain ⟨M', e', a1, a2, a3⟩ := compL_ext (g := g) a b ds (acc ++ [b d]) _ (by simp only [List.length_append, List.length_cons, List.length_nil] at hz ⊢; omega) (get_set hn1 _) (hg.keep keep) fun d' M hd => ht d' M (List.mem_cons_of_mem _ hd)
    refine ⟨M', ?_, by rw [a1]; simp, fun i o hi e => a2 i o hi (keep i o hi e), ?_⟩
    · rw [List.map_cons]
      show bnd (chk g) _ M = _
      rw [bnd_ok hg.chk, bnd_ok e]
      show bnd (push n (b d)) _ _ = _
      rw [bnd_ok hp]
      exact e'
    · rw [List.length_set, List.length_append] at a3
      omega
/-- the same, the new list being the last object -/
theorem compL_new {α : Type} {g : Option (Nat × List D)} {turn : D → R (Option D)} (a b : α → D) (xs : List α) (M : Mem) (hz : xs.length ≤ 16777216) (hg : match g with | none => True | some (m, es) => M[m]? = some (.lst es)) (ht : ∀ x M, x ∈ xs → ∃ N, turn (a x) M = some (.ok (some (b x)), M ++ N)) :
    ∃ N, compL g M.length turn (xs.map a) (M ++ [.lst []]) = some (.ok (), M ++ N) ∧ (M ++ N)[M.length]? = some (.lst (xs.map b)) := by
  obtain ⟨M', e, a1, a2, a3⟩ := compL_ext (g := g) a b xs [] (M ++ [.lst []]) (by simpa using hz) get_new (by
    cases g with
    | none => trivial
    | some p => exact ⟨Nat.ne_of_lt (List.getElem?_eq_some_iff.mp hg).1, get_app hg _⟩) ht
  obtain ⟨N, rfl⟩ := ext_of (A := M) (B := M') fun i o h => a2 i o (Nat.ne_of_lt (List.getElem?_eq_some_iff.mp h).1) (get_app h _)
  exact ⟨N, e, by simpa using a1⟩
/-! low signs -/
def Low (x : Str) : Prop := ∀ c ∈ x.cps.toList, c < 256
theorem Low.ok {x : Str} (h : Low x) : PyData.strOk x = true := by
  unfold PyData.strOk
  rw [Array.all_eq_true_iff_forall_mem]
  intro c hc
  have := h c (Array.mem_toList_iff.mpr hc)
  exact decide_eq_true (by omega)
theorem Low.app {x y : Str} (hx : Low x) (hy : Low y) : Low (x ++ y) := by
  intro c hc
  have e := TL.tl_append x y
  unfold TL.tl at e
  rw [e] at hc
  exact (List.mem_append.mp hc).elim (hx c) (hy c)
theorem Low.num {i : Int} (h : 0 ≤ i) : Low (num i) := by
  intro c hc
  rw [num_tl h] at hc
  have := TL.numL_digits i.toNat c hc
  omega
theorem low_joinL {S : List Nat} (hS : ∀ c ∈ S, c < 256) : ∀ l : List (List Nat), (∀ x ∈ l, ∀ c ∈ x, c < 256) → ∀ c ∈ TL.joinL S l, c < 256
  | [], _, c, hc => by cases hc
  | [x], h, c, hc => h x (by simp) c hc
  | x :: z :: l, h, c, hc => by
    have hc' : c ∈ x ++ (S ++ TL.joinL S (z :: l)) := hc
    rcases List.mem_append.mp hc' with q | q
    · exact h x (by simp) c q
    · rcases List.mem_append.mp q with q | q
      · exact hS c q
      · exact low_joinL hS (z :: l) (fun y hy => h y (List.mem_cons_of_mem _ hy)) c q
theorem Low.join {y : Str} (hy : Low y) {xs : List Str} (h : ∀ x ∈ xs, Low x) : Low (Txt.join y xs) := by
  intro c hc
  rw [TL.join_eq] at hc
  have e := TL.tl_join y xs
  unfold TL.tl at e
  rw [e] at hc
  refine low_joinL hy _ ?_ c hc
  intro l hl
  obtain ⟨x, hx, rfl⟩ := List.mem_map.mp hl
  exact h x hx
/-- what lies behind a known beginning -/
theorem cut_tail (a b : Str) (k : Nat) (hk : a.length = k) : L2.cutS (a ++ b) (some (k : Int)) none = b := by
  refine TL.ext_tl ?_
  have ea : a.cps.toList.length = k := by rw [← hk]; simp [Str.length]
  have e0 : (a ++ b).cps.toList = a.cps.toList ++ b.cps.toList := TL.tl_append a b
  have el : (a ++ b).length = k + b.cps.toList.length := by
    have : (a ++ b).length = (a ++ b).cps.toList.length := by simp [Str.length]
    rw [this, e0, List.length_append, ea]
  have e : (L2.cutS (a ++ b) (some (k : Int)) none).cps.toList = ((a ++ b).cps.toList.drop (HT.sIx (a ++ b).length 0 (some (k : Int)))).take (HT.sIx (a ++ b).length (a ++ b).length none - HT.sIx (a ++ b).length 0 (some (k : Int))) := by
    unfold L2.cutS
    simp
  show (L2.cutS (a ++ b) (some (k : Int)) none).cps.toList = b.cps.toList
  have s1 : HT.sIx (a ++ b).length 0 (some (k : Int)) = k := by
    rw [HT.sIx_nat, el]
    omega
  have s2 : HT.sIx (a ++ b).length (a ++ b).length none = k + b.cps.toList.length := by
    rw [HT.sIx_none, el]
  rw [e, s1, s2, e0, ← ea, List.drop_left]
  exact List.take_of_length_le (by omega)
theorem part_at {a b p q r : Str} {M : Mem} (h : Txt.partition a b = (p, q, r)) (h1 : (b.length == 0) = false) (h2 : a.length ≤ 16777216) : bmeth .partition (.str a) [.str b] M = some (.ok (.tup [.str p, .str q, .str r]), M) := by
  unfold bmeth partM
  dsimp only
  rw [if_pos ⟨h1, by rw [sizeLine_eq]; exact h2⟩, h]
  try rfl
theorem split_at {a b : Str} {xs : List Str} {M : Mem} (h : Txt.split a b = xs) (h1 : (b.length == 0) = false) (h2 : a.length ≤ 1000) : bmeth .split (.str a) [.str b] M = some (.ok (.ref M.length), M ++ [.lst (xs.map .str)]) := by
  unfold bmeth splitM
  dsimp only
  rw [if_pos ⟨h1, by rw [sizeLine_eq]; omega⟩, h]
  try rfl
theorem slice_at {a x : Str} {lo hi : Option Int} {M : Mem} (h : L2.cutS a lo hi = x) (h2 : a.length ≤ 16777216) : getSl (.str a) lo hi M = some (.ok (.str x), M) := by
  unfold getSl
  dsimp only
  rw [if_pos (by rw [sizeLine_eq]; exact h2), h]
end DL
end
section
set_option Elab.async false
set_option linter.all false
set_option maxRecDepth 100000
set_option maxHeartbeats 2000000
/-! DL, part zz: shown texts of plain data. -/
namespace DL
open PySem
mutual
def okP : PyData → Bool
  | .none => true
  | .bool _ => true
  | .int i => decide (i.natAbs < 10 ^ 12)
  | .str x => x.cps.toList.all fun c => decide (c < 256)
  | .list xs => okPs xs
  | .tuple xs => okPs xs
  | .dict _ => false
def okPs : List PyData → Bool
  | [] => true
  | x :: xs => okP x && okPs xs
end
theorem low_iff {x : Str} : (x.cps.toList.all fun c => decide (c < 256)) = true ↔ Low x := by
  rw [List.all_eq_true]
  exact ⟨fun h c hc => of_decide_eq_true (h c hc), fun h c hc => decide_eq_true (h c hc)⟩
theorem repr_char_low {q c : Nat} (hq : q = 34 ∨ q = 39) (hc : c < 256) : ∀ d ∈ Builtin.Str.reprChar q c, d < 256 := by
  have h1 : ∀ c : Nat, c < 256 → (Builtin.Str.reprChar 34 c).all (fun d => decide (d < 256)) = true := by decide +kernel
  have h2 : ∀ c : Nat, c < 256 → (Builtin.Str.reprChar 39 c).all (fun d => decide (d < 256)) = true := by decide +kernel
  intro d hd
  rcases hq with rfl | rfl
  · exact of_decide_eq_true (List.all_eq_true.mp (h1 c hc) d hd)
  · exact of_decide_eq_true (List.all_eq_true.mp (h2 c hc) d hd)
theorem repr_fold_low {q : Nat} (hq : q = 34 ∨ q = 39) : ∀ (l : List Nat) (acc : Array Nat), (∀ c ∈ l, c < 256) → (∀ c ∈ acc.toList, c < 256) → ∀ c ∈ (l.foldl (fun out c => out ++ (Builtin.Str.reprChar q c).toArray) acc).toList, c < 256
  | [], acc, _, h => h
  | c :: r, acc, hl, h => by
    rw [List.foldl_cons]
    refine repr_fold_low hq r _ (fun d hd => hl d (List.mem_cons_of_mem _ hd)) ?_
    intro d hd
    rw [Array.toList_append] at hd
    rcases List.mem_append.mp hd with q | q
    · exact h d q
    · exact repr_char_low hq (hl c List.mem_cons_self) d (by simpa using q)
theorem repr_low {x : Str} (h : Low x) : Low (reprText x) := by
  have hq : reprQuote x = 34 ∨ reprQuote x = 39 := by unfold reprQuote; split <;> simp
  intro c hc
  unfold reprText at hc
  have hc' : c ∈ ((x.cps.foldl (fun out c => out ++ (Builtin.Str.reprChar (reprQuote x) c).toArray) #[reprQuote x]).push (reprQuote x)).toList := hc
  rw [Array.toList_push, ← Array.foldl_toList] at hc'
  rcases List.mem_append.mp hc' with q | q
  · exact repr_fold_low hq x.cps.toList _ h (fun d hd => by
      have : d = reprQuote x := by simpa using hd
      rw [this]; rcases hq with e | e <;> rw [e] <;> decide) c q
  · have : c = reprQuote x := by simpa using q
    rw [this]; rcases hq with e | e <;> rw [e] <;> decide
theorem int_low (i : Int) : Low (num i) := by
  intro c hc
  by_cases h : c < 256
  · exact h
  · exact absurd hc (PyProof.Rows.int_text_free' c ⟨by omega, by omega⟩ i)
theorem joinS_low {y : Str} (hy : Low y) {xs : List Str} (h : ∀ x ∈ xs, Low x) : Low (Str.join y xs) := by
  rw [← TL.join_eq]; exact Low.join hy h
theorem lit_sep : Low ", " := by unfold Low; decide +kernel
theorem text_low : ∀ (ts : List Str) (k : Nat) (acc : Str), (∀ t ∈ ts, Low t) → Low acc → Low (textFrom k acc ts)
  | [], k, acc, _, h => h
  | t :: ts, k, acc, ht, h => by
    show Low (textFrom (k + 1) (acc ++ (if k > 0 then ", " else "" : String) ++ t) ts)
    refine text_low ts (k + 1) _ (fun z hz => ht z (List.mem_cons_of_mem _ hz)) ((h.app ?_).app (ht t List.mem_cons_self))
    split
    · unfold Low; decide +kernel
    · unfold Low; decide +kernel
mutual
theorem shown_low : ∀ d : PyData, okP d = true → Low d.shown
  | .none, _ => by unfold Low; decide +kernel
  | .bool b, _ => by cases b <;> (unfold Low; decide +kernel)
  | .int i, _ => by
    simp only [PyData.shown]
    exact int_low i
  | .str x, h => by
    simp only [PyData.shown]
    exact repr_low (low_iff.mp (by simpa only [okP] using h))
  | .list xs, h => by
    simp only [PyData.shown]
    unfold listText
    refine (text_low _ 0 _ (shownAll_low xs (by simpa only [okP] using h)) ?_).app ?_
    · unfold Low; decide +kernel
    · unfold Low; decide +kernel
  | .tuple xs, h => by
    simp only [PyData.shown]
    unfold tupleText
    refine (Low.app ?_ (joinS_low lit_sep (shownAll_low xs (by simpa only [okP] using h)))).app ?_
    · unfold Low; decide +kernel
    · split
      · unfold Low; decide +kernel
      · unfold Low; decide +kernel
  | .dict _, h => by simp only [okP] at h; exact nomatch h
theorem shownAll_low : ∀ xs : List PyData, okPs xs = true → ∀ t ∈ PyData.shownAll xs, Low t
  | [], _, t, ht => by simp only [PyData.shownAll] at ht; cases ht
  | x :: xs, h, t, ht => by
    have h' : okP x = true ∧ okPs xs = true := by simpa only [okPs, Bool.and_eq_true] using h
    simp only [PyData.shownAll] at ht
    rcases List.mem_cons.mp ht with e | e
    · rw [e]; exact shown_low x h'.1
    · exact shownAll_low xs h'.2 t e
end
mutual
theorem ok_lay : ∀ d : PyData, okP d = true → d.canLay0 = true
  | .none, _ => by simp only [PyData.canLay0]
  | .bool b, _ => by simp only [PyData.canLay0]
  | .int i, _ => by simp only [PyData.canLay0]
  | .str x, h => by
    simp only [PyData.canLay0]
    exact (low_iff.mp (by simpa only [okP] using h)).ok
  | .list xs, h => by
    simp only [PyData.canLay0]
    exact ok_lays xs (by simpa only [okP] using h)
  | .tuple xs, h => by
    simp only [PyData.canLay0]
    exact ok_lays xs (by simpa only [okP] using h)
  | .dict _, h => by simp only [okP] at h; exact nomatch h
theorem ok_lays : ∀ xs : List PyData, okPs xs = true → PyData.canLayAll0 xs = true
  | [], _ => by simp only [PyData.canLayAll0]
  | x :: xs, h => by
    have h' : okP x = true ∧ okPs xs = true := by simpa only [okPs, Bool.and_eq_true] using h
    simp only [PyData.canLayAll0, Bool.and_eq_true]
    exact ⟨ok_lay x h'.1, ok_lays xs h'.2⟩
end
mutual
theorem ok_ints : ∀ d : PyData, okP d = true → d.intsShort 13 = true
  | .none, _ => by simp only [PyData.intsShort]
  | .bool b, _ => by simp only [PyData.intsShort]
  | .int i, h => by
    simp only [PyData.intsShort]
    exact decide_eq_true (PyData.shown_int_le (of_decide_eq_true (by simpa only [okP] using h)))
  | .str x, h => by simp only [PyData.intsShort]
  | .list xs, h => by
    simp only [PyData.intsShort]
    exact ok_intss xs (by simpa only [okP] using h)
  | .tuple xs, h => by
    simp only [PyData.intsShort]
    exact ok_intss xs (by simpa only [okP] using h)
  | .dict _, h => by simp only [okP] at h; exact nomatch h
theorem ok_intss : ∀ xs : List PyData, okPs xs = true → PyData.intsShortAll 13 xs = true
  | [], _ => by simp only [PyData.intsShortAll]
  | x :: xs, h => by
    have h' : okP x = true ∧ okPs xs = true := by simpa only [okPs, Bool.and_eq_true] using h
    simp only [PyData.intsShortAll, Bool.and_eq_true]
    exact ⟨ok_ints x h'.1, ok_intss xs h'.2⟩
end
mutual
theorem ok_showable : ∀ d : PyData, okP d = true → d.showable = true
  | .none, _ => by simp only [PyData.showable]
  | .bool b, _ => by simp only [PyData.showable]
  | .int i, h => by
    simp only [PyData.showable]
    have h1 : i.natAbs < 10 ^ 12 := of_decide_eq_true (by simpa only [okP] using h)
    have h2 : i.natAbs < 2 ^ 40 := Nat.lt_trans h1 (by decide)
    have : i.natAbs.log2 < 40 := by
      by_cases z : i.natAbs = 0
      · rw [z]; decide
      · exact (Nat.log2_lt z).mpr h2
    exact decide_eq_true (by omega)
  | .str x, h => by simp only [PyData.showable]
  | .list xs, h => by
    simp only [PyData.showable]
    exact ok_showables xs (by simpa only [okP] using h)
  | .tuple xs, h => by
    simp only [PyData.showable]
    exact ok_showables xs (by simpa only [okP] using h)
  | .dict _, h => by simp only [okP] at h; exact nomatch h
theorem ok_showables : ∀ xs : List PyData, okPs xs = true → PyData.showableAll xs = true
  | [], _ => by simp only [PyData.showableAll]
  | x :: xs, h => by
    have h' : okP x = true ∧ okPs xs = true := by simpa only [okPs, Bool.and_eq_true] using h
    simp only [PyData.showableAll, Bool.and_eq_true]
    exact ⟨ok_showable x h'.1, ok_showables xs h'.2⟩
end
theorem repr_at {M : Mem} {x : D} {p : PyData} (h : toPy M 20 x = some p) (ok : okP p = true) (hd : p.depth ≤ 60) (hw : p.weight ≤ 2 ^ 20) : bfun .repr [x] M = some (.ok (.str p.shown), M) := by
  have l := ok_lay p ok
  have s := PyData.shown_fits (B := 13) (by decide) (by decide) (PyData.leavesShort_of_canLay0 13 p l (ok_ints p ok)) hw
  unfold bfun reprB
  dsimp only
  unfold reprD
  rw [h]
  dsimp only
  rw [if_pos]
  simp only [Bool.and_eq_true, Bool.not_eq_true', decide_eq_true_eq]
  exact ⟨⟨⟨ok_showable p ok, PyData.hasDict_of_canLay p l⟩, hd⟩, s⟩
end DL
namespace DL
open PySem
theorem okPs_map {α : Type} (f : α → PyData) : ∀ xs : List α, (∀ x ∈ xs, okP (f x) = true) → okPs (xs.map f) = true
  | [], _ => by simp only [List.map_nil, okPs]
  | x :: xs, h => by
    rw [List.map_cons]
    simp only [okPs, Bool.and_eq_true]
    exact ⟨h x List.mem_cons_self, okPs_map f xs fun y hy => h y (List.mem_cons_of_mem _ hy)⟩
theorem depth_map {α : Type} (f : α → PyData) (k : Nat) : ∀ xs : List α, (∀ x ∈ xs, (f x).depth ≤ k) → PyData.depthAll (xs.map f) ≤ k
  | [], _ => by simp only [List.map_nil, PyData.depthAll]; omega
  | x :: xs, h => by
    rw [List.map_cons]
    simp only [PyData.depthAll]
    exact Nat.max_le.mpr ⟨h x List.mem_cons_self, depth_map f k xs fun y hy => h y (List.mem_cons_of_mem _ hy)⟩
theorem weight_map {α : Type} (f : α → PyData) (k : Nat) : ∀ xs : List α, (∀ x ∈ xs, (f x).weight ≤ k) → PyData.weightAll (xs.map f) ≤ xs.length * (k + 1)
  | [], _ => by simp only [List.map_nil, PyData.weightAll]; omega
  | x :: xs, h => by
    rw [List.map_cons]
    simp only [PyData.weightAll, List.length_cons]
    rw [Nat.add_mul, Nat.one_mul]
    have a := h x List.mem_cons_self
    have b := weight_map f k xs fun y hy => h y (List.mem_cons_of_mem _ hy)
    generalize xs.length * (k + 1) = z at b ⊢
    omega
theorem weight_int {i : Int} (h : i.natAbs ≤ 1000) : (PyData.int i).weight ≤ 1001 := by
  simp only [PyData.weight]
  split
  · omega
  · have := Nat.log2_le_self i.natAbs
    omega
theorem weight_str {x : Str} : (PyData.str x).weight = x.length := by simp only [PyData.weight]; rfl
theorem mapO_map {α β : Type} {f : α → Option β} {γ : Type} (a : γ → α) (b : γ → β) : ∀ xs : List γ, (∀ x ∈ xs, f (a x) = some (b x)) → mapO f (xs.map a) = some (xs.map b)
  | [], _ => rfl
  | x :: xs, h => by
    rw [List.map_cons, List.map_cons, mapO, h x List.mem_cons_self, mapO_map a b xs fun y hy => h y (List.mem_cons_of_mem _ hy)]
end DL
end
section
set_option Elab.async false
set_option linter.all false
set_option maxRecDepth 100000
set_option maxHeartbeats 2000000
/-! DL, part R: a computation run step by step. -/
namespace DL
open PySem
section
variable {α β : Type} {T : Tab} {env : Env} {M M' : Mem} {Q : α → Mem → Prop}
def Run (m : R α) (M : Mem) (Q : α → Mem → Prop) : Prop := ∃ a M', m M = some (.ok a, M') ∧ Q a M'
theorem run_bnd {m : R β} {f : β → R α} : Run (bnd m f) M Q ↔ Run m M fun a M' => Run (f a) M' Q := by
  constructor
  · rintro ⟨a, M', e, q⟩
    unfold bnd at e
    cases h : m M with
    | none => rw [h] at e; cases e
    | some p =>
      obtain ⟨r, M1⟩ := p
      rw [h] at e
      cases r with
      | error x => cases e
      | ok b => exact ⟨b, M1, h, a, M', e, q⟩
  · rintro ⟨b, M1, h, a, M', e, q⟩
    exact ⟨a, M', by rw [bnd_ok h]; exact e, q⟩
theorem run_ret {a : α} : Run (ret a) M Q ↔ Q a M := ⟨fun ⟨b, M', e, q⟩ => by cases (show some (Except.ok a, M) = some (.ok b, M') from e); exact q, fun q => ⟨a, M, rfl, q⟩⟩
theorem run_of {m : R α} {a : α} (h : m M = some (.ok a, M')) (q : Q a M') : Run m M Q := ⟨a, M', h, q⟩
theorem run_eq {m : R α} {a : α} (h : Run m M fun b N => b = a ∧ N = M') : m M = some (.ok a, M') := by
  obtain ⟨b, N, e, rfl, rfl⟩ := h
  exact e
theorem run_imp {m : R α} {Q' : α → Mem → Prop} (h : Run m M Q) (i : ∀ a M', Q a M' → Q' a M') : Run m M Q' := let ⟨a, M', e, q⟩ := h; ⟨a, M', e, i a M' q⟩
theorem run_ite {c : Prop} [Decidable c] {m n : R α} : Run (if c then m else n) M Q ↔ if c then Run m M Q else Run n M Q := by split <;> rfl
theorem run_new {o : O} {Q : D → Mem → Prop} : Run (new o) M Q ↔ Q (.ref M.length) (M ++ [o]) := ⟨fun ⟨b, M', e, q⟩ => by cases (show some (Except.ok (D.ref M.length), M ++ [o]) = some (.ok b, M') from e); exact q, fun q => ⟨_, _, rfl, q⟩⟩
theorem run_noErr {m : R α} : Run (noErr m) M Q ↔ Run m M Q := by
  unfold Run
  rw [show (noErr m M) = match m M with | some (.ok a, M') => some (.ok a, M') | _ => none from rfl]
  constructor
  · rintro ⟨a, M', e, q⟩
    split at e
    · rename_i a1 M1 h
      cases e
      exact ⟨a, M', h, q⟩
    · cases e
  · rintro ⟨a, M', e, q⟩
    exact ⟨a, M', by rw [e], q⟩
theorem run_optF {fm : FM} {vs : List D} {Q : D → Mem → Prop} : Run (optF (some fm) vs) M Q ↔ Run (fm vs) M Q := run_noErr
theorem run_lst {vs : List D} {Q : D → Mem → Prop} (h : vs.length ≤ 16777216) : Run (lstD vs) M Q ↔ Q (.ref M.length) (M ++ [.lst vs]) := by
  rw [lstD_eq, if_pos (by rw [sizeLine_eq]; exact h)]
  exact run_new
theorem run_tup {vs : List D} {Q : D → Mem → Prop} (h : vs.length ≤ 16777216) : Run (tupD vs) M Q ↔ Q (.tup vs) M := by
  rw [tupD_eq, if_pos (by rw [sizeLine_eq]; exact h)]
  exact run_ret
end
end DL
end
section
set_option Elab.async false
set_option linter.all false
set_option maxRecDepth 100000
set_option maxHeartbeats 0
namespace K
open PySem DL
/-! _law_cell -/
def l_w_cell_1 : CSs := .cons (.asg (.nm 2) (.bin .mod (.bcall .int (.cons (.bin .add (.bin .mul (.var 2) (.con (.int 61417))) (.bcall .int (.cons (.var 3) (.nil)))) (.nil))) (.con (.int 2147483579))))
    (.nil)
def b_w_cell : CSs := .cons (.cond (.bl (.cmp .lt (.var 1) (.bcall .len (.cons (.var 0) (.nil))))) (.cons (.rt (.bcall .int (.cons (.ix (.var 0) (.var 1)) (.nil))))
    (.nil)) (.nil))
    (.cons (.asg (.nm 2) (.bin .add (.bin .add (.con (.int 8123)) (.bin .mul (.bin .mul (.con (.int 60013)) (.var 1)) (.var 1))) (.bin .mul (.con (.int 41)) (.var 1))))
    (.cons (.forS (.nm 3) (.of (.slice (.var 0) (.no) (.yes (.con (.int 4))))) l_w_cell_1)
    (.cons (.rt (.bin .mod (.bcall .int (.cons (.bin .add (.bin .mul (.var 2) (.var 2)) (.bin .mul (.con (.int 5)) (.var 1))) (.nil))) (.con (.int 2147483563))))
    (.nil))))
def c_w_cell_Goods : ClsT := ⟨["space", "pairs"], fun _ => fail, fun _ => none, fun _ => none, fun _ => none, none⟩
def t_w_cell : Tab := ⟨fun i => match i with | _ => fun _ => fail, fun c => if c = "Goods" then some c_w_cell_Goods else none, 0⟩
def f_w_cell : FM := runDef t_w_cell 4 b_w_cell
@[simp] theorem tc_w_cell_Goods : t_w_cell.cls "Goods" = some c_w_cell_Goods := by show (if ("Goods" : Str) = "Goods" then some c_w_cell_Goods else none) = _; exact if_pos rfl
/-! _law_pool -/
def b_w_pool : CSs := .cons (.asg (.nm 1) (.ite (.or (.bl (.cmp .lt (.var 0) (.con (.int 0)))) (.bl (.cmp .ge (.var 0) (.bin .pow (.con (.int 10)) (.con (.int 18)))))) (.bcall .abs (.cons (.var 0) (.nil))) (.con (.int 0))))
    (.cons (.rt (.lst (.cons (.bin .mod (.bcall .int (.cons (.var 0) (.nil))) (.con (.int 2147483629))) (.cons (.var 1) (.cons (.con (.int 0)) (.nil))))))
    (.nil))
def c_w_pool_Goods : ClsT := ⟨["space", "pairs"], fun _ => fail, fun _ => none, fun _ => none, fun _ => none, none⟩
def t_w_pool : Tab := ⟨fun i => match i with | 6 => f_w_cell | _ => fun _ => fail, fun c => if c = "Goods" then some c_w_pool_Goods else none, 0⟩
def f_w_pool : FM := runDef t_w_pool 2 b_w_pool
@[simp] theorem tc_w_pool_Goods : t_w_pool.cls "Goods" = some c_w_pool_Goods := by show (if ("Goods" : Str) = "Goods" then some c_w_pool_Goods else none) = _; exact if_pos rfl
/-! __eq__ -/
def b_Goods_ddeqdd : CSs := .cons (.rt (.andV (.isi (.var 1) (.glo "Goods")) (.andV (.cmp .eq (.attr (.var 0) "space") (.attr (.var 1) "space")) (.cmp .eq (.attr (.var 0) "pairs") (.attr (.var 1) "pairs")))))
    (.nil)
def c_Goods_ddeqdd_Goods : ClsT := ⟨["space", "pairs"], fun _ => fail, fun _ => none, fun _ => none, fun _ => none, none⟩
def t_Goods_ddeqdd : Tab := ⟨fun i => match i with | 6 => f_w_cell | 7 => f_w_pool | _ => fun _ => fail, fun c => if c = "Goods" then some c_Goods_ddeqdd_Goods else none, 0⟩
def f_Goods_ddeqdd : FM := runDef t_Goods_ddeqdd 2 b_Goods_ddeqdd
@[simp] theorem tc_Goods_ddeqdd_Goods : t_Goods_ddeqdd.cls "Goods" = some c_Goods_ddeqdd_Goods := by show (if ("Goods" : Str) = "Goods" then some c_Goods_ddeqdd_Goods else none) = _; exact if_pos rfl
/-! is_integer -/
def b_is_integer : CSs := .cons (.rt (.andV (.isi (.var 0) (.bty "int")) (.notV (.isi (.var 0) (.bty "bool")))))
    (.nil)
def c_is_integer_Goods : ClsT := ⟨["space", "pairs"], fun _ => fail, fun _ => none, fun _ => none, fun _ => none, some f_Goods_ddeqdd⟩
def t_is_integer : Tab := ⟨fun i => match i with | 6 => f_w_cell | 7 => f_w_pool | _ => fun _ => fail, fun c => if c = "Goods" then some c_is_integer_Goods else none, 0⟩
def f_is_integer : FM := runDef t_is_integer 1 b_is_integer
@[simp] theorem tc_is_integer_Goods : t_is_integer.cls "Goods" = some c_is_integer_Goods := by show (if ("Goods" : Str) = "Goods" then some c_is_integer_Goods else none) = _; exact if_pos rfl
/-! is_name -/
def e_is_name_1 : CE := .orV (.cmp .inO (.var 1) (.con (.str "abcdefghijklmnopqrstuvwxyz"))) (.cmp .inO (.var 1) (.con (.str "0123456789")))
def b_is_name : CSs := .cons (.cond (.or (.nt (.val (.isi (.var 0) (.bty "str")))) (.or (.nt (.bl (.chain .le .le (.con (.int 1)) (.bcall .len (.cons (.var 0) (.nil))) (.con (.int 8))))) (.bl (.cmp .notIn (.ix (.var 0) (.con (.int 0))) (.con (.str "abcdefghijklmnopqrstuvwxyz")))))) (.cons (.rt (.con (.bl false)))
    (.nil)) (.nil))
    (.cons (.rt (.bcall .all (.cons (.comp (.of (.var 0)) (.nm 1) (.yes) e_is_name_1 [1]) (.nil))))
    (.nil))
def c_is_name_Goods : ClsT := ⟨["space", "pairs"], fun _ => fail, fun _ => none, fun _ => none, fun _ => none, some f_Goods_ddeqdd⟩
def t_is_name : Tab := ⟨fun i => match i with | 6 => f_w_cell | 7 => f_w_pool | 0 => f_is_integer | _ => fun _ => fail, fun c => if c = "Goods" then some c_is_name_Goods else none, 0⟩
def f_is_name : FM := runDef t_is_name 2 b_is_name
@[simp] theorem tc_is_name_Goods : t_is_name.cls "Goods" = some c_is_name_Goods := by show (if ("Goods" : Str) = "Goods" then some c_is_name_Goods else none) = _; exact if_pos rfl
/-! is_kind -/
def b_is_kind : CSs := .cons (.cond (.or (.nt (.val (.isi (.var 0) (.bty "tuple")))) (.or (.bl (.cmp .ne (.bcall .len (.cons (.var 0) (.nil))) (.con (.int 2)))) (.nt (.val (.own 1 (.cons (.ix (.var 0) (.con (.int 0))) (.nil)) (.nil) [.arg 0]))))) (.cons (.rt (.con (.bl false)))
    (.nil)) (.nil))
    (.cons (.rt (.andV (.own 0 (.cons (.ix (.var 0) (.con (.int 1))) (.nil)) (.nil) [.arg 0]) (.chain .le .le (.con (.int 1)) (.ix (.var 0) (.con (.int 1))) (.var 1))))
    (.nil))
def c_is_kind_Goods : ClsT := ⟨["space", "pairs"], fun _ => fail, fun _ => none, fun _ => none, fun _ => none, some f_Goods_ddeqdd⟩
def t_is_kind : Tab := ⟨fun i => match i with | 6 => f_w_cell | 7 => f_w_pool | 0 => f_is_integer | 1 => f_is_name | _ => fun _ => fail, fun c => if c = "Goods" then some c_is_kind_Goods else none, 0⟩
def f_is_kind : FM := runDef t_is_kind 2 b_is_kind
@[simp] theorem tf_is_kind_is_integer : t_is_kind.fn 0 = f_is_integer := rfl
@[simp] theorem tf_is_kind_is_name : t_is_kind.fn 1 = f_is_name := rfl
@[simp] theorem tc_is_kind_Goods : t_is_kind.cls "Goods" = some c_is_kind_Goods := by show (if ("Goods" : Str) = "Goods" then some c_is_kind_Goods else none) = _; exact if_pos rfl
/-! check_kinds -/
def l_check_kinds_1 : CSs := .cons (.cond (.or (.bl (.cmp .eq (.var 2) (.con (.int 6)))) (.nt (.val (.own 3 (.cons (.var 3) (.cons (.var 1) (.nil))) (.nil) [.arg 0, .arg 1])))) (.cons (.stuck)
    (.nil)) (.nil))
    (.cons (.cond (.an (.bl (.cmp .gt (.var 2) (.con (.int 0)))) (.bl (.cmp .ge (.ix (.ix (.var 0) (.bin .sub (.var 2) (.con (.int 1)))) (.con (.int 0))) (.ix (.var 3) (.con (.int 0)))))) (.cons (.stuck)
    (.nil)) (.nil))
    (.nil))
def b_check_kinds : CSs := .cons (.cond (.or (.nt (.val (.isi (.var 0) (.bty "tuple")))) (.bl (.cmp .eq (.bcall .len (.cons (.var 0) (.nil))) (.con (.int 0))))) (.cons (.stuck)
    (.nil)) (.nil))
    (.cons (.forS (.tup (.cons (.nm 2) (.cons (.nm 3) (.nil)))) (.enum (.var 0)) l_check_kinds_1)
    (.nil))
def c_check_kinds_Goods : ClsT := ⟨["space", "pairs"], fun _ => fail, fun _ => none, fun _ => none, fun _ => none, some f_Goods_ddeqdd⟩
def t_check_kinds : Tab := ⟨fun i => match i with | 6 => f_w_cell | 7 => f_w_pool | 0 => f_is_integer | 1 => f_is_name | 3 => f_is_kind | _ => fun _ => fail, fun c => if c = "Goods" then some c_check_kinds_Goods else none, 0⟩
def f_check_kinds : FM := runDef t_check_kinds 4 b_check_kinds
@[simp] theorem tf_check_kinds_is_kind : t_check_kinds.fn 3 = f_is_kind := rfl
@[simp] theorem tc_check_kinds_Goods : t_check_kinds.cls "Goods" = some c_check_kinds_Goods := by show (if ("Goods" : Str) = "Goods" then some c_check_kinds_Goods else none) = _; exact if_pos rfl
/-! __init__ -/
def b_Goods_ddinitdd : CSs := .cons (.cond (.or (.nt (.val (.own 0 (.cons (.var 1) (.nil)) (.nil) [.arg 0]))) (.nt (.bl (.chain .le .le (.con (.int 2)) (.var 1) (.con (.int 60)))))) (.cons (.stuck)
    (.nil)) (.nil))
    (.cons (.ex (.own 4 (.cons (.var 2) (.cons (.var 1) (.nil))) (.nil) [.arg 0, .arg 1]))
    (.cons (.asg (.tup (.cons (.att (.var 0) "space") (.cons (.att (.var 0) "pairs") (.nil)))) (.tup (.cons (.var 1) (.cons (.var 2) (.nil)))))
    (.nil)))
def c_Goods_ddinitdd_Goods : ClsT := ⟨["space", "pairs"], fun _ => fail, fun _ => none, fun _ => none, fun _ => none, some f_Goods_ddeqdd⟩
def t_Goods_ddinitdd : Tab := ⟨fun i => match i with | 6 => f_w_cell | 7 => f_w_pool | 0 => f_is_integer | 1 => f_is_name | 3 => f_is_kind | 4 => f_check_kinds | _ => fun _ => fail, fun c => if c = "Goods" then some c_Goods_ddinitdd_Goods else none, 0⟩
def f_Goods_ddinitdd : FM := runDef t_Goods_ddinitdd 3 b_Goods_ddinitdd
@[simp] theorem tf_Goods_ddinitdd_check_kinds : t_Goods_ddinitdd.fn 4 = f_check_kinds := rfl
@[simp] theorem tf_Goods_ddinitdd_is_integer : t_Goods_ddinitdd.fn 0 = f_is_integer := rfl
@[simp] theorem tc_Goods_ddinitdd_Goods : t_Goods_ddinitdd.cls "Goods" = some c_Goods_ddinitdd_Goods := by show (if ("Goods" : Str) = "Goods" then some c_Goods_ddinitdd_Goods else none) = _; exact if_pos rfl
/-! __str__ -/
def e_Goods_ddstrdd_1 : CE := .fstr (.cons (.fmt (.var 3)) (.cons (.con (.str " ")) (.cons (.fmt (.var 2)) (.nil))))
def b_Goods_ddstrdd : CSs := .cons (.asg (.nm 1) (.bmeth .join (.con (.str ", ")) (.cons (.comp (.of (.attr (.var 0) "pairs")) (.tup (.cons (.nm 3) (.cons (.nm 2) (.nil)))) (.yes) e_Goods_ddstrdd_1 [3, 2]) (.nil))))
    (.cons (.rt (.fstr (.cons (.con (.str "room ")) (.cons (.fmt (.attr (.var 0) "space")) (.cons (.con (.str "; ")) (.cons (.fmt (.var 1)) (.nil)))))))
    (.nil))
def c_Goods_ddstrdd_Goods : ClsT := ⟨["space", "pairs"], f_Goods_ddinitdd, fun _ => none, fun _ => none, fun _ => none, some f_Goods_ddeqdd⟩
def t_Goods_ddstrdd : Tab := ⟨fun i => match i with | 6 => f_w_cell | 7 => f_w_pool | 0 => f_is_integer | 1 => f_is_name | 3 => f_is_kind | 4 => f_check_kinds | _ => fun _ => fail, fun c => if c = "Goods" then some c_Goods_ddstrdd_Goods else none, 0⟩
def f_Goods_ddstrdd : FM := runDef t_Goods_ddstrdd 4 b_Goods_ddstrdd
@[simp] theorem tc_Goods_ddstrdd_Goods : t_Goods_ddstrdd.cls "Goods" = some c_Goods_ddstrdd_Goods := by show (if ("Goods" : Str) = "Goods" then some c_Goods_ddstrdd_Goods else none) = _; exact if_pos rfl
/-! kinds -/
def b_Goods_kinds : CSs := .cons (.rt (.attr (.var 0) "pairs"))
    (.nil)
def c_Goods_kinds_Goods : ClsT := ⟨["space", "pairs"], f_Goods_ddinitdd, fun m => if m = "__str__" then some f_Goods_ddstrdd else none, fun _ => none, fun _ => none, some f_Goods_ddeqdd⟩
def t_Goods_kinds : Tab := ⟨fun i => match i with | 6 => f_w_cell | 7 => f_w_pool | 0 => f_is_integer | 1 => f_is_name | 3 => f_is_kind | 4 => f_check_kinds | _ => fun _ => fail, fun c => if c = "Goods" then some c_Goods_kinds_Goods else none, 0⟩
def f_Goods_kinds : FM := runDef t_Goods_kinds 1 b_Goods_kinds
@[simp] theorem tc_Goods_kinds_Goods : t_Goods_kinds.cls "Goods" = some c_Goods_kinds_Goods := by show (if ("Goods" : Str) = "Goods" then some c_Goods_kinds_Goods else none) = _; exact if_pos rfl
/-! number_in -/
def e_number_in_1 : CE := .cmp .inO (.var 1) (.con (.str "0123456789"))
def b_number_in : CSs := .cons (.cond (.or (.nt (.bl (.chain .le .le (.con (.int 1)) (.bcall .len (.cons (.var 0) (.nil))) (.con (.int 2))))) (.nt (.val (.bcall .all (.cons (.comp (.of (.var 0)) (.nm 1) (.yes) e_number_in_1 [1]) (.nil)))))) (.cons (.rt (.con .non))
    (.nil)) (.nil))
    (.cons (.rt (.bcall .int (.cons (.var 0) (.nil))))
    (.nil))
def c_number_in_Goods : ClsT := ⟨["space", "pairs"], f_Goods_ddinitdd, fun m => if m = "__str__" then some f_Goods_ddstrdd else none, fun m => if m = "kinds" then some f_Goods_kinds else none, fun _ => none, some f_Goods_ddeqdd⟩
def t_number_in : Tab := ⟨fun i => match i with | 6 => f_w_cell | 7 => f_w_pool | 0 => f_is_integer | 1 => f_is_name | 3 => f_is_kind | 4 => f_check_kinds | _ => fun _ => fail, fun c => if c = "Goods" then some c_number_in_Goods else none, 0⟩
def f_number_in : FM := runDef t_number_in 2 b_number_in
@[simp] theorem tc_number_in_Goods : t_number_in.cls "Goods" = some c_number_in_Goods := by show (if ("Goods" : Str) = "Goods" then some c_number_in_Goods else none) = _; exact if_pos rfl
/-! pair_in -/
def b_pair_in : CSs := .cons (.asg (.tup (.cons (.nm 1) (.cons (.nm 2) (.cons (.nm 3) (.nil))))) (.bmeth .partition (.var 0) (.cons (.con (.str " ")) (.nil))))
    (.cons (.rt (.tup (.cons (.var 1) (.cons (.own 2 (.cons (.var 3) (.nil)) (.nil) [.arg 0]) (.nil)))))
    (.nil))
def c_pair_in_Goods : ClsT := ⟨["space", "pairs"], f_Goods_ddinitdd, fun m => if m = "__str__" then some f_Goods_ddstrdd else none, fun m => if m = "kinds" then some f_Goods_kinds else none, fun _ => none, some f_Goods_ddeqdd⟩
def t_pair_in : Tab := ⟨fun i => match i with | 6 => f_w_cell | 7 => f_w_pool | 0 => f_is_integer | 1 => f_is_name | 3 => f_is_kind | 4 => f_check_kinds | 2 => f_number_in | _ => fun _ => fail, fun c => if c = "Goods" then some c_pair_in_Goods else none, 0⟩
def f_pair_in : FM := runDef t_pair_in 4 b_pair_in
@[simp] theorem tf_pair_in_number_in : t_pair_in.fn 2 = f_number_in := rfl
@[simp] theorem tc_pair_in_Goods : t_pair_in.cls "Goods" = some c_pair_in_Goods := by show (if ("Goods" : Str) = "Goods" then some c_pair_in_Goods else none) = _; exact if_pos rfl
/-! read -/
def e_Goods_read_1 : CE := .own 5 (.cons (.var 6) (.nil)) (.nil) [.arg 0]
def b_Goods_read : CSs := .cons (.cond (.nt (.val (.isi (.var 1) (.bty "str")))) (.cons (.stuck)
    (.nil)) (.nil))
    (.cons (.asg (.tup (.cons (.nm 2) (.cons (.nm 3) (.cons (.nm 4) (.nil))))) (.bmeth .partition (.var 1) (.cons (.con (.str "; ")) (.nil))))
    (.cons (.tryS (.cons (.asg (.nm 5) (.makeV "Goods" (.var 0) (.cons (.own 2 (.cons (.slice (.var 2) (.yes (.con (.int 5))) (.no)) (.nil)) (.nil) [.arg 0]) (.cons (.bcall .tuple (.cons (.comp (.of (.bmeth .split (.var 4) (.cons (.con (.str ", ")) (.nil)))) (.nm 6) (.yes) e_Goods_read_1 [6]) (.nil))) (.nil))) [.arg 0, .arg 1]))
    (.nil)))
    (.cons (.cond (.bl (.cmp .ne (.dund .str "Goods" (.var 5)) (.var 1))) (.cons (.stuck)
    (.nil)) (.nil))
    (.cons (.rt (.var 5))
    (.nil)))))
def c_Goods_read_Goods : ClsT := ⟨["space", "pairs"], f_Goods_ddinitdd, fun m => if m = "__str__" then some f_Goods_ddstrdd else none, fun m => if m = "kinds" then some f_Goods_kinds else none, fun _ => none, some f_Goods_ddeqdd⟩
def t_Goods_read : Tab := ⟨fun i => match i with | 6 => f_w_cell | 7 => f_w_pool | 0 => f_is_integer | 1 => f_is_name | 3 => f_is_kind | 4 => f_check_kinds | 2 => f_number_in | 5 => f_pair_in | _ => fun _ => fail, fun c => if c = "Goods" then some c_Goods_read_Goods else none, 0⟩
def f_Goods_read : FM := runDef t_Goods_read 7 b_Goods_read
@[simp] theorem tf_Goods_read_number_in : t_Goods_read.fn 2 = f_number_in := rfl
@[simp] theorem tf_Goods_read_pair_in : t_Goods_read.fn 5 = f_pair_in := rfl
@[simp] theorem tc_Goods_read_Goods : t_Goods_read.cls "Goods" = some c_Goods_read_Goods := by show (if ("Goods" : Str) = "Goods" then some c_Goods_read_Goods else none) = _; exact if_pos rfl
/-! room -/
def b_Goods_room : CSs := .cons (.rt (.attr (.var 0) "space"))
    (.nil)
def c_Goods_room_Goods : ClsT := ⟨["space", "pairs"], f_Goods_ddinitdd, fun m => if m = "__str__" then some f_Goods_ddstrdd else none, fun m => if m = "kinds" then some f_Goods_kinds else none, fun m => if m = "read" then some f_Goods_read else none, some f_Goods_ddeqdd⟩
def t_Goods_room : Tab := ⟨fun i => match i with | 6 => f_w_cell | 7 => f_w_pool | 0 => f_is_integer | 1 => f_is_name | 3 => f_is_kind | 4 => f_check_kinds | 2 => f_number_in | 5 => f_pair_in | _ => fun _ => fail, fun c => if c = "Goods" then some c_Goods_room_Goods else none, 0⟩
def f_Goods_room : FM := runDef t_Goods_room 1 b_Goods_room
@[simp] theorem tc_Goods_room_Goods : t_Goods_room.cls "Goods" = some c_Goods_room_Goods := by show (if ("Goods" : Str) = "Goods" then some c_Goods_room_Goods else none) = _; exact if_pos rfl
/-! _law_draw -/
def b_w_draw : CSs := .cons (.asg (.sub (.var 0) (.con (.int 2))) (.bin .add (.ix (.var 0) (.con (.int 2))) (.con (.int 1))))
    (.cons (.asg (.nm 2) (.bin .mod (.bcall .int (.cons (.bin .add (.bin .add (.bin .mul (.ix (.var 0) (.con (.int 0))) (.con (.int 48271))) (.bin .mul (.ix (.var 0) (.con (.int 2))) (.con (.int 104729)))) (.con (.int 7))) (.nil))) (.con (.int 2147483587))))
    (.cons (.asg (.sub (.var 0) (.con (.int 0))) (.bin .mod (.bcall .int (.cons (.bin .add (.bin .mul (.var 2) (.var 2)) (.bin .mul (.con (.int 30011)) (.ix (.var 0) (.con (.int 2))))) (.nil))) (.con (.int 2147483549))))
    (.cons (.cond (.bl (.cmp .gt (.ix (.var 0) (.con (.int 1))) (.con (.int 0)))) (.cons (.asg (.nm 3) (.bin .mod (.bcall .int (.cons (.ix (.var 0) (.con (.int 1))) (.nil))) (.var 1)))
    (.cons (.asg (.sub (.var 0) (.con (.int 1))) (.bin .fdiv (.ix (.var 0) (.con (.int 1))) (.var 1)))
    (.cons (.rt (.var 3))
    (.nil)))) (.nil))
    (.cons (.rt (.bin .mod (.bcall .int (.cons (.bin .fdiv (.ix (.var 0) (.con (.int 0))) (.con (.int 64))) (.nil))) (.var 1)))
    (.nil)))))
def c_w_draw_Goods : ClsT := ⟨["space", "pairs"], f_Goods_ddinitdd, fun m => if m = "__str__" then some f_Goods_ddstrdd else none, fun m => if m = "kinds" then some f_Goods_kinds else if m = "room" then some f_Goods_room else none, fun m => if m = "read" then some f_Goods_read else none, some f_Goods_ddeqdd⟩
def t_w_draw : Tab := ⟨fun i => match i with | 6 => f_w_cell | 7 => f_w_pool | 0 => f_is_integer | 1 => f_is_name | 3 => f_is_kind | 4 => f_check_kinds | 2 => f_number_in | 5 => f_pair_in | _ => fun _ => fail, fun c => if c = "Goods" then some c_w_draw_Goods else none, 0⟩
def f_w_draw : FM := runDef t_w_draw 4 b_w_draw
@[simp] theorem tc_w_draw_Goods : t_w_draw.cls "Goods" = some c_w_draw_Goods := by show (if ("Goods" : Str) = "Goods" then some c_w_draw_Goods else none) = _; exact if_pos rfl
/-! _law_others -/
def b_w_others : CSs := .cons (.asg (.tup (.cons (.nm 3) (.cons (.nm 4) (.nil)))) (.tup (.cons (.lst (.nil)) (.cons (.own 8 (.cons (.var 0) (.cons (.bcall .len (.cons (.var 2) (.nil))) (.nil))) (.nil) [.arg 0, .arg 1]) (.nil)))))
    (.cons (.asg (.tup (.cons (.nm 5) (.cons (.nm 6) (.nil)))) (.ix (.var 2) (.var 4)))
    (.cons (.ex (.bmeth .append (.var 3) (.cons (.tup (.cons (.var 1) (.cons (.bin .add (.bin .add (.slice (.var 2) (.no) (.yes (.var 4))) (.tup (.cons (.tup (.cons (.var 5) (.cons (.bin .add (.bin .mod (.bcall .int (.cons (.var 6) (.nil))) (.var 1)) (.con (.int 1))) (.nil)))) (.nil)))) (.slice (.var 2) (.yes (.bin .add (.var 4) (.con (.int 1)))) (.no))) (.nil)))) (.nil))))
    (.cons (.cond (.bl (.cmp .lt (.var 1) (.con (.int 60)))) (.cons (.ex (.bmeth .append (.var 3) (.cons (.tup (.cons (.bin .add (.var 1) (.con (.int 1))) (.cons (.var 2) (.nil)))) (.nil))))
    (.nil)) (.nil))
    (.cons (.cond (.bl (.cmp .gt (.bcall .len (.cons (.var 2) (.nil))) (.con (.int 1)))) (.cons (.ex (.bmeth .append (.var 3) (.cons (.tup (.cons (.var 1) (.cons (.bin .add (.slice (.var 2) (.no) (.yes (.var 4))) (.slice (.var 2) (.yes (.bin .add (.var 4) (.con (.int 1)))) (.no))) (.nil)))) (.nil))))
    (.nil)) (.nil))
    (.cons (.asg (.tup (.cons (.nm 5) (.cons (.nm 6) (.nil)))) (.ix (.var 2) (.neg (.con (.int 1)))))
    (.cons (.asg (.nm 7) (.ite (.bl (.cmp .eq (.bcall .len (.cons (.var 5) (.nil))) (.con (.int 8)))) (.con (.str "zzzzzzzz")) (.bin .add (.var 5) (.con (.str "z")))))
    (.cons (.cond (.bl (.cmp .ne (.var 7) (.var 5))) (.cons (.ex (.bmeth .append (.var 3) (.cons (.tup (.cons (.var 1) (.cons (.bin .add (.slice (.var 2) (.no) (.yes (.neg (.con (.int 1))))) (.tup (.cons (.tup (.cons (.var 7) (.cons (.var 6) (.nil)))) (.nil)))) (.nil)))) (.nil))))
    (.nil)) (.nil))
    (.cons (.rt (.var 3))
    (.nil)))))))))
def c_w_others_Goods : ClsT := ⟨["space", "pairs"], f_Goods_ddinitdd, fun m => if m = "__str__" then some f_Goods_ddstrdd else none, fun m => if m = "kinds" then some f_Goods_kinds else if m = "room" then some f_Goods_room else none, fun m => if m = "read" then some f_Goods_read else none, some f_Goods_ddeqdd⟩
def t_w_others : Tab := ⟨fun i => match i with | 6 => f_w_cell | 7 => f_w_pool | 0 => f_is_integer | 1 => f_is_name | 3 => f_is_kind | 4 => f_check_kinds | 2 => f_number_in | 5 => f_pair_in | 8 => f_w_draw | _ => fun _ => fail, fun c => if c = "Goods" then some c_w_others_Goods else none, 0⟩
def f_w_others : FM := runDef t_w_others 8 b_w_others
@[simp] theorem tf_w_others_w_draw : t_w_others.fn 8 = f_w_draw := rfl
@[simp] theorem tc_w_others_Goods : t_w_others.cls "Goods" = some c_w_others_Goods := by show (if ("Goods" : Str) = "Goods" then some c_w_others_Goods else none) = _; exact if_pos rfl
/-! __len__ -/
def b_Goods_ddlendd : CSs := .cons (.rt (.bcall .len (.cons (.attr (.var 0) "pairs") (.nil))))
    (.nil)
def c_Goods_ddlendd_Goods : ClsT := ⟨["space", "pairs"], f_Goods_ddinitdd, fun m => if m = "__str__" then some f_Goods_ddstrdd else none, fun m => if m = "kinds" then some f_Goods_kinds else if m = "room" then some f_Goods_room else none, fun m => if m = "read" then some f_Goods_read else none, some f_Goods_ddeqdd⟩
def t_Goods_ddlendd : Tab := ⟨fun i => match i with | 6 => f_w_cell | 7 => f_w_pool | 0 => f_is_integer | 1 => f_is_name | 3 => f_is_kind | 4 => f_check_kinds | 2 => f_number_in | 5 => f_pair_in | 8 => f_w_draw | 14 => f_w_others | _ => fun _ => fail, fun c => if c = "Goods" then some c_Goods_ddlendd_Goods else none, 0⟩
def f_Goods_ddlendd : FM := runDef t_Goods_ddlendd 1 b_Goods_ddlendd
@[simp] theorem tc_Goods_ddlendd_Goods : t_Goods_ddlendd.cls "Goods" = some c_Goods_ddlendd_Goods := by show (if ("Goods" : Str) = "Goods" then some c_Goods_ddlendd_Goods else none) = _; exact if_pos rfl
/-! names -/
def e_Goods_names_1 : CE := .var 2
def b_Goods_names : CSs := .cons (.rt (.bcall .tuple (.cons (.comp (.of (.attr (.var 0) "pairs")) (.tup (.cons (.nm 2) (.cons (.nm 1) (.nil)))) (.yes) e_Goods_names_1 [2, 1]) (.nil))))
    (.nil)
def c_Goods_names_Goods : ClsT := ⟨["space", "pairs"], f_Goods_ddinitdd, fun m => if m = "__str__" then some f_Goods_ddstrdd else if m = "__len__" then some f_Goods_ddlendd else none, fun m => if m = "kinds" then some f_Goods_kinds else if m = "room" then some f_Goods_room else none, fun m => if m = "read" then some f_Goods_read else none, some f_Goods_ddeqdd⟩
def t_Goods_names : Tab := ⟨fun i => match i with | 6 => f_w_cell | 7 => f_w_pool | 0 => f_is_integer | 1 => f_is_name | 3 => f_is_kind | 4 => f_check_kinds | 2 => f_number_in | 5 => f_pair_in | 8 => f_w_draw | 14 => f_w_others | _ => fun _ => fail, fun c => if c = "Goods" then some c_Goods_names_Goods else none, 0⟩
def f_Goods_names : FM := runDef t_Goods_names 3 b_Goods_names
@[simp] theorem tc_Goods_names_Goods : t_Goods_names.cls "Goods" = some c_Goods_names_Goods := by show (if ("Goods" : Str) = "Goods" then some c_Goods_names_Goods else none) = _; exact if_pos rfl
/-! size_of -/
def l_Goods_size_of_1 : CSs := .cons (.cond (.an (.val (.isi (.var 1) (.bty "str"))) (.bl (.cmp .eq (.var 1) (.var 2)))) (.cons (.rt (.var 3))
    (.nil)) (.nil))
    (.nil)
def b_Goods_size_of : CSs := .cons (.forS (.tup (.cons (.nm 2) (.cons (.nm 3) (.nil)))) (.of (.attr (.var 0) "pairs")) l_Goods_size_of_1)
    (.cons (.stuck)
    (.nil))
def c_Goods_size_of_Goods : ClsT := ⟨["space", "pairs"], f_Goods_ddinitdd, fun m => if m = "__str__" then some f_Goods_ddstrdd else if m = "__len__" then some f_Goods_ddlendd else none, fun m => if m = "kinds" then some f_Goods_kinds else if m = "room" then some f_Goods_room else if m = "names" then some f_Goods_names else none, fun m => if m = "read" then some f_Goods_read else none, some f_Goods_ddeqdd⟩
def t_Goods_size_of : Tab := ⟨fun i => match i with | 6 => f_w_cell | 7 => f_w_pool | 0 => f_is_integer | 1 => f_is_name | 3 => f_is_kind | 4 => f_check_kinds | 2 => f_number_in | 5 => f_pair_in | 8 => f_w_draw | 14 => f_w_others | _ => fun _ => fail, fun c => if c = "Goods" then some c_Goods_size_of_Goods else none, 0⟩
def f_Goods_size_of : FM := runDef t_Goods_size_of 4 b_Goods_size_of
@[simp] theorem tc_Goods_size_of_Goods : t_Goods_size_of.cls "Goods" = some c_Goods_size_of_Goods := by show (if ("Goods" : Str) = "Goods" then some c_Goods_size_of_Goods else none) = _; exact if_pos rfl
/-! sizes -/
def e_Goods_sizes_1 : CE := .var 1
def b_Goods_sizes : CSs := .cons (.rt (.bcall .tuple (.cons (.comp (.of (.attr (.var 0) "pairs")) (.tup (.cons (.nm 2) (.cons (.nm 1) (.nil)))) (.yes) e_Goods_sizes_1 [2, 1]) (.nil))))
    (.nil)
def c_Goods_sizes_Goods : ClsT := ⟨["space", "pairs"], f_Goods_ddinitdd, fun m => if m = "__str__" then some f_Goods_ddstrdd else if m = "__len__" then some f_Goods_ddlendd else if m = "size_of" then some f_Goods_size_of else none, fun m => if m = "kinds" then some f_Goods_kinds else if m = "room" then some f_Goods_room else if m = "names" then some f_Goods_names else none, fun m => if m = "read" then some f_Goods_read else none, some f_Goods_ddeqdd⟩
def t_Goods_sizes : Tab := ⟨fun i => match i with | 6 => f_w_cell | 7 => f_w_pool | 0 => f_is_integer | 1 => f_is_name | 3 => f_is_kind | 4 => f_check_kinds | 2 => f_number_in | 5 => f_pair_in | 8 => f_w_draw | 14 => f_w_others | _ => fun _ => fail, fun c => if c = "Goods" then some c_Goods_sizes_Goods else none, 0⟩
def f_Goods_sizes : FM := runDef t_Goods_sizes 3 b_Goods_sizes
@[simp] theorem tc_Goods_sizes_Goods : t_Goods_sizes.cls "Goods" = some c_Goods_sizes_Goods := by show (if ("Goods" : Str) = "Goods" then some c_Goods_sizes_Goods else none) = _; exact if_pos rfl
/-! _law_words -/
def e_w_words_1 : CE := .bin .add (.bin .add (.var 2) (.con (.str " "))) (.bcall .str (.cons (.var 3) (.nil)))
def b_w_words : CSs := .cons (.rt (.bin .add (.bin .add (.bin .add (.con (.str "room ")) (.bcall .str (.cons (.var 0) (.nil)))) (.con (.str "; "))) (.bmeth .join (.con (.str ", ")) (.cons (.comp (.of (.var 1)) (.tup (.cons (.nm 2) (.cons (.nm 3) (.nil)))) (.yes) e_w_words_1 [2, 3]) (.nil)))))
    (.nil)
def c_w_words_Goods : ClsT := ⟨["space", "pairs"], f_Goods_ddinitdd, fun m => if m = "__str__" then some f_Goods_ddstrdd else if m = "__len__" then some f_Goods_ddlendd else if m = "size_of" then some f_Goods_size_of else none, fun m => if m = "kinds" then some f_Goods_kinds else if m = "room" then some f_Goods_room else if m = "names" then some f_Goods_names else if m = "sizes" then some f_Goods_sizes else none, fun m => if m = "read" then some f_Goods_read else none, some f_Goods_ddeqdd⟩
def t_w_words : Tab := ⟨fun i => match i with | 6 => f_w_cell | 7 => f_w_pool | 0 => f_is_integer | 1 => f_is_name | 3 => f_is_kind | 4 => f_check_kinds | 2 => f_number_in | 5 => f_pair_in | 8 => f_w_draw | 14 => f_w_others | _ => fun _ => fail, fun c => if c = "Goods" then some c_w_words_Goods else none, 0⟩
def f_w_words : FM := runDef t_w_words 4 b_w_words
@[simp] theorem tc_w_words_Goods : t_w_words.cls "Goods" = some c_w_words_Goods := by show (if ("Goods" : Str) = "Goods" then some c_w_words_Goods else none) = _; exact if_pos rfl
/-! _law_seen_right -/
def e_w_seen_right_1 : CE := .ix (.var 8) (.con (.int 0))
def e_w_seen_right_2 : CE := .ix (.var 8) (.con (.int 1))
def l_w_seen_right_3 : CSs := .cons (.cond (.bl (.cmp .ne (.bcall .repr (.cons (.lst (.cons (.ometh "size_of" "Goods" (.var 0) (.cons (.var 6) (.nil)) (.nil) [.arg 0]) (.cons (.ometh "size_of" "Goods" (.var 0) (.nil) (.cons (.var 6) (.nil)) [.arg 0]) (.nil)))) (.nil))) (.bcall .repr (.cons (.lst (.cons (.var 7) (.cons (.var 7) (.nil)))) (.nil))))) (.cons (.rt (.con (.bl false)))
    (.nil)) (.nil))
    (.nil)
def b_w_seen_right : CSs := .cons (.asg (.tup (.cons (.nm 3) (.cons (.nm 4) (.nil)))) (.tup (.cons (.bcall .tuple (.cons (.comp (.of (.var 2)) (.nm 8) (.yes) e_w_seen_right_1 [8]) (.nil))) (.cons (.bcall .tuple (.cons (.comp (.of (.var 2)) (.nm 8) (.yes) e_w_seen_right_2 [8]) (.nil))) (.nil)))))
    (.cons (.asg (.nm 5) (.lst (.cons (.attr (.var 0) "room") (.cons (.attr (.var 0) "kinds") (.cons (.attr (.var 0) "names") (.cons (.attr (.var 0) "sizes") (.cons (.dund .len "Goods" (.var 0)) (.cons (.dund .str "Goods" (.var 0)) (.cons (.dund .bool "Goods" (.var 0)) (.nil))))))))))
    (.cons (.cond (.bl (.cmp .ne (.bcall .repr (.cons (.var 5) (.nil))) (.bcall .repr (.cons (.lst (.cons (.var 1) (.cons (.var 2) (.cons (.var 3) (.cons (.var 4) (.cons (.bcall .len (.cons (.var 2) (.nil))) (.cons (.own 12 (.cons (.var 1) (.cons (.var 2) (.nil))) (.nil) [.arg 0, .arg 1]) (.cons (.con (.bl true)) (.nil))))))))) (.nil))))) (.cons (.rt (.con (.bl false)))
    (.nil)) (.nil))
    (.cons (.forS (.tup (.cons (.nm 6) (.cons (.nm 7) (.nil)))) (.of (.var 2)) l_w_seen_right_3)
    (.cons (.rt (.con (.bl true)))
    (.nil)))))
def c_w_seen_right_Goods : ClsT := ⟨["space", "pairs"], f_Goods_ddinitdd, fun m => if m = "__str__" then some f_Goods_ddstrdd else if m = "__len__" then some f_Goods_ddlendd else if m = "size_of" then some f_Goods_size_of else none, fun m => if m = "kinds" then some f_Goods_kinds else if m = "room" then some f_Goods_room else if m = "names" then some f_Goods_names else if m = "sizes" then some f_Goods_sizes else none, fun m => if m = "read" then some f_Goods_read else none, some f_Goods_ddeqdd⟩
def t_w_seen_right : Tab := ⟨fun i => match i with | 6 => f_w_cell | 7 => f_w_pool | 0 => f_is_integer | 1 => f_is_name | 3 => f_is_kind | 4 => f_check_kinds | 2 => f_number_in | 5 => f_pair_in | 8 => f_w_draw | 14 => f_w_others | 12 => f_w_words | _ => fun _ => fail, fun c => if c = "Goods" then some c_w_seen_right_Goods else none, 0⟩
def f_w_seen_right : FM := runDef t_w_seen_right 9 b_w_seen_right
@[simp] theorem tf_w_seen_right_w_words : t_w_seen_right.fn 12 = f_w_words := rfl
@[simp] theorem tc_w_seen_right_Goods : t_w_seen_right.cls "Goods" = some c_w_seen_right_Goods := by show (if ("Goods" : Str) = "Goods" then some c_w_seen_right_Goods else none) = _; exact if_pos rfl
/-! _law_word -/
def l_w_word_1 : CSs := .cons (.asg (.nm 3) (.bin .add (.var 3) (.ix (.var 2) (.own 8 (.cons (.var 0) (.cons (.con (.int 36)) (.nil))) (.nil) [.arg 0, .arg 1]))))
    (.nil)
def b_w_word : CSs := .cons (.asg (.nm 1) (.lst (.cons (.con (.str "room")) (.cons (.con (.str "lane")) (.cons (.con (.str "in")) (.cons (.con (.str "take")) (.cons (.con (.str "shut")) (.cons (.con (.str "mark")) (.cons (.con (.str "first")) (.cons (.con (.str "last")) (.cons (.con (.str "fullest")) (.cons (.con (.str "emptiest")) (.nil)))))))))))))
    (.cons (.cond (.bl (.cmp .eq (.own 8 (.cons (.var 0) (.cons (.con (.int 6)) (.nil))) (.nil) [.arg 0, .arg 1]) (.con (.int 0)))) (.cons (.rt (.ix (.var 1) (.own 8 (.cons (.var 0) (.cons (.con (.int 10)) (.nil))) (.nil) [.arg 0, .arg 1])))
    (.nil)) (.nil))
    (.cons (.asg (.nm 2) (.con (.str "abcdefghijklmnopqrstuvwxyz0123456789")))
    (.cons (.asg (.nm 3) (.ix (.var 2) (.own 8 (.cons (.var 0) (.cons (.con (.int 26)) (.nil))) (.nil) [.arg 0, .arg 1])))
    (.cons (.forS (.nm 4) (.rng (.own 8 (.cons (.var 0) (.cons (.con (.int 8)) (.nil))) (.nil) [.arg 0, .arg 1])) l_w_word_1)
    (.cons (.rt (.var 3))
    (.nil))))))
def c_w_word_Goods : ClsT := ⟨["space", "pairs"], f_Goods_ddinitdd, fun m => if m = "__str__" then some f_Goods_ddstrdd else if m = "__len__" then some f_Goods_ddlendd else if m = "size_of" then some f_Goods_size_of else none, fun m => if m = "kinds" then some f_Goods_kinds else if m = "room" then some f_Goods_room else if m = "names" then some f_Goods_names else if m = "sizes" then some f_Goods_sizes else none, fun m => if m = "read" then some f_Goods_read else none, some f_Goods_ddeqdd⟩
def t_w_word : Tab := ⟨fun i => match i with | 6 => f_w_cell | 7 => f_w_pool | 0 => f_is_integer | 1 => f_is_name | 3 => f_is_kind | 4 => f_check_kinds | 2 => f_number_in | 5 => f_pair_in | 8 => f_w_draw | 14 => f_w_others | 12 => f_w_words | 13 => f_w_seen_right | _ => fun _ => fail, fun c => if c = "Goods" then some c_w_word_Goods else none, 0⟩
def f_w_word : FM := runDef t_w_word 5 b_w_word
@[simp] theorem tf_w_word_w_draw : t_w_word.fn 8 = f_w_draw := rfl
@[simp] theorem tc_w_word_Goods : t_w_word.cls "Goods" = some c_w_word_Goods := by show (if ("Goods" : Str) = "Goods" then some c_w_word_Goods else none) = _; exact if_pos rfl
/-! _law_tags -/
def l_w_tags_1 : CSs := .cons (.cond (.bl (.cmp .inO (.var 4) (.var 2))) (.cons (.asg (.nm 4) (.bin .add (.slice (.var 4) (.no) (.yes (.con (.int 7)))) (.var 5)))
    (.nil)) (.nil))
    (.nil)
def l_w_tags_2 : CSs := .cons (.asg (.nm 4) (.own 9 (.cons (.var 0) (.nil)) (.nil) [.arg 0]))
    (.cons (.forS (.nm 5) (.of (.con (.str "abcdefg"))) l_w_tags_1)
    (.cons (.ex (.bmeth .append (.var 2) (.cons (.var 4) (.nil))))
    (.nil)))
def b_w_tags : CSs := .cons (.asg (.nm 2) (.lst (.nil)))
    (.cons (.forS (.nm 3) (.rng (.var 1)) l_w_tags_2)
    (.cons (.rt (.bcall .sorted (.cons (.var 2) (.nil))))
    (.nil)))
def c_w_tags_Goods : ClsT := ⟨["space", "pairs"], f_Goods_ddinitdd, fun m => if m = "__str__" then some f_Goods_ddstrdd else if m = "__len__" then some f_Goods_ddlendd else if m = "size_of" then some f_Goods_size_of else none, fun m => if m = "kinds" then some f_Goods_kinds else if m = "room" then some f_Goods_room else if m = "names" then some f_Goods_names else if m = "sizes" then some f_Goods_sizes else none, fun m => if m = "read" then some f_Goods_read else none, some f_Goods_ddeqdd⟩
def t_w_tags : Tab := ⟨fun i => match i with | 6 => f_w_cell | 7 => f_w_pool | 0 => f_is_integer | 1 => f_is_name | 3 => f_is_kind | 4 => f_check_kinds | 2 => f_number_in | 5 => f_pair_in | 8 => f_w_draw | 14 => f_w_others | 12 => f_w_words | 13 => f_w_seen_right | 9 => f_w_word | _ => fun _ => fail, fun c => if c = "Goods" then some c_w_tags_Goods else none, 0⟩
def f_w_tags : FM := runDef t_w_tags 6 b_w_tags
@[simp] theorem tf_w_tags_w_word : t_w_tags.fn 9 = f_w_word := rfl
@[simp] theorem tc_w_tags_Goods : t_w_tags.cls "Goods" = some c_w_tags_Goods := by show (if ("Goods" : Str) = "Goods" then some c_w_tags_Goods else none) = _; exact if_pos rfl
/-! _law_shape -/
def e_w_shape_1 : CE := .tup (.cons (.var 4) (.cons (.bin .add (.con (.int 1)) (.own 8 (.cons (.var 0) (.cons (.var 3) (.nil))) (.nil) [.arg 0, .arg 1])) (.nil)))
def b_w_shape : CSs := .cons (.asg (.nm 1) (.bin .add (.con (.int 2)) (.own 8 (.cons (.var 0) (.cons (.con (.int 59)) (.nil))) (.nil) [.arg 0, .arg 1])))
    (.cons (.asg (.nm 2) (.own 10 (.cons (.var 0) (.cons (.bin .add (.con (.int 1)) (.own 8 (.cons (.var 0) (.cons (.con (.int 6)) (.nil))) (.nil) [.arg 0, .arg 1])) (.nil))) (.nil) [.arg 0, .arg 1]))
    (.cons (.asg (.nm 3) (.ix (.lst (.cons (.var 1) (.cons (.bin .add (.con (.int 1)) (.bin .fdiv (.var 1) (.con (.int 3)))) (.cons (.con (.int 2)) (.nil))))) (.own 8 (.cons (.var 0) (.cons (.con (.int 3)) (.nil))) (.nil) [.arg 0, .arg 1])))
    (.cons (.rt (.tup (.cons (.var 1) (.cons (.bcall .tuple (.cons (.comp (.of (.var 2)) (.nm 4) (.yes) e_w_shape_1 [4]) (.nil))) (.nil)))))
    (.nil))))
def c_w_shape_Goods : ClsT := ⟨["space", "pairs"], f_Goods_ddinitdd, fun m => if m = "__str__" then some f_Goods_ddstrdd else if m = "__len__" then some f_Goods_ddlendd else if m = "size_of" then some f_Goods_size_of else none, fun m => if m = "kinds" then some f_Goods_kinds else if m = "room" then some f_Goods_room else if m = "names" then some f_Goods_names else if m = "sizes" then some f_Goods_sizes else none, fun m => if m = "read" then some f_Goods_read else none, some f_Goods_ddeqdd⟩
def t_w_shape : Tab := ⟨fun i => match i with | 6 => f_w_cell | 7 => f_w_pool | 0 => f_is_integer | 1 => f_is_name | 3 => f_is_kind | 4 => f_check_kinds | 2 => f_number_in | 5 => f_pair_in | 8 => f_w_draw | 14 => f_w_others | 12 => f_w_words | 13 => f_w_seen_right | 9 => f_w_word | 10 => f_w_tags | _ => fun _ => fail, fun c => if c = "Goods" then some c_w_shape_Goods else none, 0⟩
def f_w_shape : FM := runDef t_w_shape 5 b_w_shape
@[simp] theorem tf_w_shape_w_draw : t_w_shape.fn 8 = f_w_draw := rfl
@[simp] theorem tf_w_shape_w_tags : t_w_shape.fn 10 = f_w_tags := rfl
@[simp] theorem tc_w_shape_Goods : t_w_shape.cls "Goods" = some c_w_shape_Goods := by show (if ("Goods" : Str) = "Goods" then some c_w_shape_Goods else none) = _; exact if_pos rfl
/-! _law_right -/
def l_w_right_1 : CSs := .cons (.cond (.or (.nt (.val (.own 13 (.cons (.var 6) (.cons (.var 1) (.cons (.var 2) (.nil)))) (.nil) [.arg 0, .arg 1, .arg 2]))) (.or (.bl (.cmp .isNot (.oeq false "Goods" (.var 6) (.var 3)) (.con (.bl true)))) (.bl (.cmp .isNot (.oeq true "Goods" (.var 3) (.var 6)) (.con (.bl false)))))) (.cons (.rt (.con (.bl false)))
    (.nil)) (.nil))
    (.nil)
def l_w_right_2 : CSs := .cons (.asg (.nm 6) (.make "Goods" (.cons (.var 7) (.cons (.var 8) (.nil))) (.nil) [.arg 0, .arg 1]))
    (.cons (.cond (.or (.bl (.cmp .isNot (.oeq false "Goods" (.var 6) (.var 3)) (.con (.bl false)))) (.or (.bl (.cmp .isNot (.oeq true "Goods" (.var 3) (.var 6)) (.con (.bl true)))) (.nt (.val (.own 13 (.cons (.var 6) (.cons (.var 7) (.cons (.var 8) (.nil)))) (.nil) [.arg 0, .arg 1, .arg 2]))))) (.cons (.rt (.con (.bl false)))
    (.nil)) (.nil))
    (.nil))
def e_w_right_3 : CE := .oeq true "Goods" (.var 3) (.var 9)
def e_w_right_4 : CE := .oeq false "Goods" (.var 3) (.var 9)
def b_w_right : CSs := .cons (.asg (.tup (.cons (.nm 1) (.cons (.nm 2) (.nil)))) (.own 11 (.cons (.var 0) (.nil)) (.nil) [.arg 0]))
    (.cons (.asg (.tup (.cons (.nm 3) (.cons (.nm 4) (.cons (.nm 5) (.nil))))) (.tup (.cons (.make "Goods" (.cons (.var 1) (.cons (.var 2) (.nil))) (.nil) [.arg 0, .arg 1]) (.cons (.make "Goods" (.nil) (.cons (.var 2) (.cons (.var 1) (.nil))) [.arg 1, .arg 0]) (.cons (.cmeth "Goods" "read" (.cons (.own 12 (.cons (.var 1) (.cons (.var 2) (.nil))) (.nil) [.arg 0, .arg 1]) (.nil)) (.nil) [.arg 0]) (.nil))))))
    (.cons (.forS (.nm 6) (.of (.lst (.cons (.var 3) (.cons (.var 4) (.cons (.var 5) (.cons (.cmeth "Goods" "read" (.nil) (.cons (.dund .str "Goods" (.var 4)) (.nil)) [.arg 0]) (.cons (.make "Goods" (.cons (.attr (.var 5) "room") (.cons (.attr (.var 5) "kinds") (.nil))) (.nil) [.arg 0, .arg 1]) (.nil)))))))) l_w_right_1)
    (.cons (.forS (.tup (.cons (.nm 7) (.cons (.nm 8) (.nil)))) (.of (.own 14 (.cons (.var 0) (.cons (.var 1) (.cons (.var 2) (.nil)))) (.nil) [.arg 0, .arg 1, .arg 2])) l_w_right_2)
    (.cons (.asg (.nm 6) (.lst (.cons (.con .non) (.cons (.var 1) (.cons (.dund .str "Goods" (.var 3)) (.cons (.var 2) (.cons (.tup (.cons (.var 1) (.cons (.var 2) (.nil)))) (.cons (.lst (.cons (.var 1) (.cons (.var 2) (.nil)))) (.nil)))))))))
    (.cons (.rt (.andV (.cmp .eq (.comp (.of (.var 6)) (.nm 9) (.yes) e_w_right_4 [9]) (.bin .mul (.lst (.cons (.con (.bl false)) (.nil))) (.con (.int 6)))) (.cmp .eq (.comp (.of (.var 6)) (.nm 9) (.yes) e_w_right_3 [9]) (.bin .mul (.lst (.cons (.con (.bl true)) (.nil))) (.con (.int 6))))))
    (.nil))))))
def c_w_right_Goods : ClsT := ⟨["space", "pairs"], f_Goods_ddinitdd, fun m => if m = "__str__" then some f_Goods_ddstrdd else if m = "__len__" then some f_Goods_ddlendd else if m = "size_of" then some f_Goods_size_of else none, fun m => if m = "kinds" then some f_Goods_kinds else if m = "room" then some f_Goods_room else if m = "names" then some f_Goods_names else if m = "sizes" then some f_Goods_sizes else none, fun m => if m = "read" then some f_Goods_read else none, some f_Goods_ddeqdd⟩
def t_w_right : Tab := ⟨fun i => match i with | 6 => f_w_cell | 7 => f_w_pool | 0 => f_is_integer | 1 => f_is_name | 3 => f_is_kind | 4 => f_check_kinds | 2 => f_number_in | 5 => f_pair_in | 8 => f_w_draw | 14 => f_w_others | 12 => f_w_words | 13 => f_w_seen_right | 9 => f_w_word | 10 => f_w_tags | 11 => f_w_shape | _ => fun _ => fail, fun c => if c = "Goods" then some c_w_right_Goods else none, 0⟩
def f_w_right : FM := runDef t_w_right 10 b_w_right
@[simp] theorem tf_w_right_w_others : t_w_right.fn 14 = f_w_others := rfl
@[simp] theorem tf_w_right_w_seen_right : t_w_right.fn 13 = f_w_seen_right := rfl
@[simp] theorem tf_w_right_w_shape : t_w_right.fn 11 = f_w_shape := rfl
@[simp] theorem tf_w_right_w_words : t_w_right.fn 12 = f_w_words := rfl
@[simp] theorem tc_w_right_Goods : t_w_right.cls "Goods" = some c_w_right_Goods := by show (if ("Goods" : Str) = "Goods" then some c_w_right_Goods else none) = _; exact if_pos rfl
/-! law -/
def l_law_1 : CSs := .cons (.cond (.nt (.val (.own 15 (.cons (.own 7 (.cons (.own 6 (.cons (.var 0) (.cons (.var 1) (.nil))) (.nil) [.arg 0, .arg 1]) (.nil)) (.nil) [.arg 0]) (.nil)) (.nil) [.arg 0]))) (.cons (.rt (.con (.bl false)))
    (.nil)) (.nil))
    (.nil)
def b_law : CSs := .cons (.forS (.nm 1) (.rng (.bcall .max (.cons (.con (.int 2)) (.cons (.bcall .min (.cons (.bcall .len (.cons (.var 0) (.nil))) (.cons (.con (.int 6)) (.nil)))) (.nil))))) l_law_1)
    (.cons (.rt (.con (.bl true)))
    (.nil))
def c_law_Goods : ClsT := ⟨["space", "pairs"], f_Goods_ddinitdd, fun m => if m = "__str__" then some f_Goods_ddstrdd else if m = "__len__" then some f_Goods_ddlendd else if m = "size_of" then some f_Goods_size_of else none, fun m => if m = "kinds" then some f_Goods_kinds else if m = "room" then some f_Goods_room else if m = "names" then some f_Goods_names else if m = "sizes" then some f_Goods_sizes else none, fun m => if m = "read" then some f_Goods_read else none, some f_Goods_ddeqdd⟩
def t_law : Tab := ⟨fun i => match i with | 6 => f_w_cell | 7 => f_w_pool | 0 => f_is_integer | 1 => f_is_name | 3 => f_is_kind | 4 => f_check_kinds | 2 => f_number_in | 5 => f_pair_in | 8 => f_w_draw | 14 => f_w_others | 12 => f_w_words | 13 => f_w_seen_right | 9 => f_w_word | 10 => f_w_tags | 11 => f_w_shape | 15 => f_w_right | _ => fun _ => fail, fun c => if c = "Goods" then some c_law_Goods else none, 0⟩
def f_law : FM := runDef t_law 2 b_law
@[simp] theorem tf_law_w_cell : t_law.fn 6 = f_w_cell := rfl
@[simp] theorem tf_law_w_pool : t_law.fn 7 = f_w_pool := rfl
@[simp] theorem tf_law_w_right : t_law.fn 15 = f_w_right := rfl
@[simp] theorem tc_law_Goods : t_law.cls "Goods" = some c_law_Goods := by show (if ("Goods" : Str) = "Goods" then some c_law_Goods else none) = _; exact if_pos rfl
end K
end
section
set_option Elab.async false
set_option linter.all false
set_option maxRecDepth 100000
set_option maxHeartbeats 0
namespace K
open PySem PySem.Spec PyProof.Rows L2 DL
def top (i : Nat) : Stmt := PySem.Challenge.pw_shutboxes_k02_goods_made.main.body.getD i (.Pass ⟨0, 0, 0, 0⟩)
/-- what the top has left -/
structure Txt (K : PySem.W.Frag) (mg : Str → Option Value) : Prop where
  blt : Blt mg
  c_MOST_ROOM : ∃ t, mg "MOST_ROOM" = some (.int 60 t)
  c_MOST_KINDS : ∃ t, mg "MOST_KINDS" = some (.int 6 t)
  c_LETTERS : ∃ t, mg "LETTERS" = some (.str "abcdefghijklmnopqrstuvwxyz" t)
  c_DIGITS : ∃ t, mg "DIGITS" = some (.str "0123456789" t)
  c_MOST_SIGNS : ∃ t, mg "MOST_SIGNS" = some (.int 8 t)
  f_w_cell : FunAt K mg "_law_cell" (top 22)
  f_w_pool : FunAt K mg "_law_pool" (top 23)
  f_is_integer : FunAt K mg "is_integer" (top 13)
  f_is_name : FunAt K mg "is_name" (top 14)
  f_is_kind : FunAt K mg "is_kind" (top 17)
  f_check_kinds : FunAt K mg "check_kinds" (top 18)
  f_number_in : FunAt K mg "number_in" (top 15)
  f_pair_in : FunAt K mg "pair_in" (top 19)
  f_w_draw : FunAt K mg "_law_draw" (top 24)
  f_w_others : FunAt K mg "_law_others" (top 30)
  f_w_words : FunAt K mg "_law_words" (top 28)
  f_w_seen_right : FunAt K mg "_law_seen_right" (top 29)
  f_w_word : FunAt K mg "_law_word" (top 25)
  f_w_tags : FunAt K mg "_law_tags" (top 26)
  f_w_shape : FunAt K mg "_law_shape" (top 27)
  f_w_right : FunAt K mg "_law_right" (top 31)
  f_law : FunAt K mg "law" (top 32)
  k_Goods : ClassAt K mg "Goods" ["space", "pairs"] ["bool", "int", "str", "tuple"]
  isi_Goods : ∀ C, mg "Goods" = some (.ref C) → IsiAt K C
  m_Goods_ddeqdd : MethAt K mg "Goods" "__eq__" "Goods.__eq__" (inClass (top 20) 7)
  m_Goods_ddinitdd : InitAt K mg "Goods" "Goods.__init__" (inClass (top 20) 0)
  m_Goods_ddstrdd : MethAt K mg "Goods" "__str__" "Goods.__str__" (inClass (top 20) 8)
  m_Goods_kinds : PropAt K mg "Goods" "kinds" "Goods.kinds" (inClass (top 20) 3)
  m_Goods_read : CMethAt K mg "Goods" "read" "Goods.read" (inClass (top 20) 1)
  m_Goods_room : PropAt K mg "Goods" "room" "Goods.room" (inClass (top 20) 2)
  m_Goods_ddlendd : MethAt K mg "Goods" "__len__" "Goods.__len__" (inClass (top 20) 9)
  m_Goods_names : PropAt K mg "Goods" "names" "Goods.names" (inClass (top 20) 4)
  m_Goods_size_of : MethAt K mg "Goods" "size_of" "Goods.size_of" (inClass (top 20) 6)
  m_Goods_sizes : PropAt K mg "Goods" "sizes" "Goods.sizes" (inClass (top 20) 5)
-- class Goods
/-! _law_cell -/
abbrev N_w_cell : List Str := ["_law_cells", "_law_k", "_law_mixed", "_law_cell_here"]
theorem sc_w_cell : FnScope N_w_cell ["_law_cells", "_law_k"] (defScope (top 22)) := ⟨rfl, rfl, rfl, by decide +kernel, rfl, by decide +kernel, by decide +kernel⟩
theorem cl_w_cell {c : Str} {ct : ClsT} (h : t_w_cell.cls c = some ct) : c = "Goods" ∧ ct = c_w_cell_Goods := cls1 h
theorem ct_w_cell_Goods : t_w_cell.cls "Goods" = some c_w_cell_Goods := by show (if ("Goods" : Str) = "Goods" then some c_w_cell_Goods else none) = _; exact if_pos rfl
theorem wk_w_cell {P : Program} {w : World} {K : PySem.W.Frag} {mg : Str → Option Value} {base : Heap} (L : Txt K mg) : Walk P w K mg base N_w_cell (top 22) 0 t_w_cell b_w_cell := by
  intro qual f cdv A outer s H hr
  have C : Cok (cxOf L2.CX0 P w K mg base N_w_cell qual (defScope (top 22)) f cdv A outer s H fun _ _ _ => False).nox 0 := ⟨rfl, sc_w_cell.nd, hr⟩
  exact dss_cons (ds_if (t_cmp C .lt (e_v 1) (e_len C L.blt (as_cons (e_v 0) (as_nil)))) (dss_cons (ds_rt (e_intc C L.blt (as_cons (e_ix (e_v 0) (e_v 1)) (as_nil))))
    (dss_nil)) (dss_nil))
    (dss_cons (s_asg (g_nm C 2) (e_bin .add (e_bin .add (e_int) (e_bin .mul (e_bin .mul (e_int) (e_v 1)) (e_v 1))) (e_bin .mul (e_int) (e_v 1))))
    (dss_cons (s_for C PassesOwn.never (g_nm C 3) (i_of (e_slice (e_v 0) (o_no) (o_yes (e_int)))) (dss_cons (s_asg (g_nm C 2) (e_bin .mod (e_intc C L.blt (as_cons (e_bin .add (e_bin .mul (e_v 2) (e_int)) (e_intc C L.blt (as_cons (e_v 3) (as_nil)))) (as_nil))) (e_int)))
    (dss_nil)))
    (dss_cons (ds_rt (e_bin .mod (e_intc C L.blt (as_cons (e_bin .add (e_bin .mul (e_v 2) (e_v 2)) (e_bin .mul (e_int) (e_v 1))) (as_nil))) (e_int)))
    (dss_nil))))
theorem ok_w_cell {P : Program} {w : World} {K : PySem.W.Frag} {mg : Str → Option Value} {base : Heap} (L : Txt K mg) : Callee P w K mg base "_law_cell" 1 f_w_cell [(2, [], [.arg 0, .arg 1])] :=
  callee_of L.f_w_cell sc_w_cell rfl (wk_w_cell L) (fun qual kV doc pm an cdv ct => List.forall_mem_cons.mpr ⟨BindG.args [0, 1] rfl fun us ws h1 h2 => match us, ws, h1, h2 with | [a0, a1], [], _, _ => rfl, fun _ h => nomatch h⟩)
/-! _law_pool -/
abbrev N_w_pool : List Str := ["_law_cell_here", "_law_digits"]
theorem sc_w_pool : FnScope N_w_pool ["_law_cell_here"] (defScope (top 23)) := ⟨rfl, rfl, rfl, by decide +kernel, rfl, by decide +kernel, by decide +kernel⟩
theorem cl_w_pool {c : Str} {ct : ClsT} (h : t_w_pool.cls c = some ct) : c = "Goods" ∧ ct = c_w_pool_Goods := cls1 h
theorem ct_w_pool_Goods : t_w_pool.cls "Goods" = some c_w_pool_Goods := by show (if ("Goods" : Str) = "Goods" then some c_w_pool_Goods else none) = _; exact if_pos rfl
theorem wk_w_pool {P : Program} {w : World} {K : PySem.W.Frag} {mg : Str → Option Value} {base : Heap} (L : Txt K mg) : Walk P w K mg base N_w_pool (top 23) 0 t_w_pool b_w_pool := by
  intro qual f cdv A outer s H hr
  have C : Cok (cxOf L2.CX0 P w K mg base N_w_pool qual (defScope (top 23)) f cdv A outer s H fun _ _ _ => False).nox 0 := ⟨rfl, sc_w_pool.nd, hr⟩
  exact dss_cons (s_asg (g_nm C 1) (e_ite (t_bool (w_or (t_cmp C .lt (e_v 0) (e_int)) (w_or1 (t_cmp C .ge (e_v 0) (e_bin .pow (e_int) (e_int)))))) (e_abs C L.blt (as_cons (e_v 0) (as_nil))) (e_int)))
    (dss_cons (ds_rt (e_lst (as_cons (e_bin .mod (e_intc C L.blt (as_cons (e_v 0) (as_nil))) (e_int)) (as_cons (e_v 1) (as_cons (e_int) (as_nil))))))
    (dss_nil))
theorem ok_w_pool {P : Program} {w : World} {K : PySem.W.Frag} {mg : Str → Option Value} {base : Heap} (L : Txt K mg) : Callee P w K mg base "_law_pool" 1 f_w_pool [(1, [], [.arg 0])] :=
  callee_of L.f_w_pool sc_w_pool rfl (wk_w_pool L) (fun qual kV doc pm an cdv ct => List.forall_mem_cons.mpr ⟨BindG.args [0] rfl fun us ws h1 h2 => match us, ws, h1, h2 with | [a0], [], _, _ => rfl, fun _ h => nomatch h⟩)
/-! __eq__ -/
abbrev N_Goods_ddeqdd : List Str := ["self", "other"]
theorem sc_Goods_ddeqdd : FnScope N_Goods_ddeqdd ["self", "other"] (defScope (inClass (top 20) 7)) := ⟨rfl, rfl, rfl, by decide +kernel, rfl, by decide +kernel, by decide +kernel⟩
theorem cl_Goods_ddeqdd {c : Str} {ct : ClsT} (h : t_Goods_ddeqdd.cls c = some ct) : c = "Goods" ∧ ct = c_Goods_ddeqdd_Goods := cls1 h
theorem ct_Goods_ddeqdd_Goods : t_Goods_ddeqdd.cls "Goods" = some c_Goods_ddeqdd_Goods := by show (if ("Goods" : Str) = "Goods" then some c_Goods_ddeqdd_Goods else none) = _; exact if_pos rfl
theorem ao_Goods_ddeqdd_pairs {X : Cx} {j : Nat} (L : Txt X.K X.mg) (C : Cok X j) : AttrOk X t_Goods_ddeqdd "pairs" := attr_fld cl_Goods_ddeqdd L.k_Goods rfl rfl
theorem ao_Goods_ddeqdd_space {X : Cx} {j : Nat} (L : Txt X.K X.mg) (C : Cok X j) : AttrOk X t_Goods_ddeqdd "space" := attr_fld cl_Goods_ddeqdd L.k_Goods rfl rfl
theorem is_Goods_ddeqdd_Goods {X : Cx} (L : Txt X.K X.mg) : ∃ C, IsiC X t_Goods_ddeqdd "Goods" C := isiC_of cl_Goods_ddeqdd L.k_Goods L.isi_Goods
theorem wk_Goods_ddeqdd {P : Program} {w : World} {K : PySem.W.Frag} {mg : Str → Option Value} {base : Heap} (L : Txt K mg) : Walk P w K mg base N_Goods_ddeqdd (inClass (top 20) 7) 0 t_Goods_ddeqdd b_Goods_ddeqdd := by
  intro qual f cdv A outer s H hr
  have C : Cok (cxOf L2.CX0 P w K mg base N_Goods_ddeqdd qual (defScope (inClass (top 20) 7)) f cdv A outer s H fun _ _ _ => False).nox 0 := ⟨rfl, sc_Goods_ddeqdd.nd, hr⟩
  exact dss_cons (ds_rt (e_and (e_isiC2 L.blt (is_Goods_ddeqdd_Goods L) (e_v 1)) (e_and (e_cmp C .eq (e_attr (ao_Goods_ddeqdd_space L C) (e_v 0)) (e_attr (ao_Goods_ddeqdd_space L C) (e_v 1))) (e_and1 (e_cmp C .eq (e_attr (ao_Goods_ddeqdd_pairs L C) (e_v 0)) (e_attr (ao_Goods_ddeqdd_pairs L C) (e_v 1)))))))
    (dss_nil)
theorem ok_Goods_ddeqdd {P : Program} {w : World} {K : PySem.W.Frag} {mg : Str → Option Value} {base : Heap} (L : Txt K mg) : Metho P w K mg base "Goods" "__eq__" 1 f_Goods_ddeqdd [(1, [], [.arg 0])] :=
  metho_of L.m_Goods_ddeqdd sc_Goods_ddeqdd rfl (wk_Goods_ddeqdd L) (fun qual kV doc pm an cdv ct => List.forall_mem_cons.mpr ⟨BindG.args [0, 1] rfl fun us ws h1 h2 => match us, ws, h1, h2 with | [a0, a1], [], _, _ => rfl, fun _ h => nomatch h⟩)
/-! is_integer -/
abbrev N_is_integer : List Str := ["value"]
theorem sc_is_integer : FnScope N_is_integer ["value"] (defScope (top 13)) := ⟨rfl, rfl, rfl, by decide +kernel, rfl, by decide +kernel, by decide +kernel⟩
theorem cl_is_integer {c : Str} {ct : ClsT} (h : t_is_integer.cls c = some ct) : c = "Goods" ∧ ct = c_is_integer_Goods := cls1 h
theorem ct_is_integer_Goods : t_is_integer.cls "Goods" = some c_is_integer_Goods := by show (if ("Goods" : Str) = "Goods" then some c_is_integer_Goods else none) = _; exact if_pos rfl
theorem is_is_integer_bool {X : Cx} (L : Txt X.K X.mg) : IsiB X t_is_integer "bool" := isiB_of cl_is_integer L.k_Goods (by decide +kernel) (by decide +kernel) (by decide +kernel) (by decide +kernel) (by decide +kernel) (by decide +kernel) (by decide)
theorem is_is_integer_int {X : Cx} (L : Txt X.K X.mg) : IsiB X t_is_integer "int" := isiB_of cl_is_integer L.k_Goods (by decide +kernel) (by decide +kernel) (by decide +kernel) (by decide +kernel) (by decide +kernel) (by decide +kernel) (by decide)
theorem wk_is_integer {P : Program} {w : World} {K : PySem.W.Frag} {mg : Str → Option Value} {base : Heap} (L : Txt K mg) : Walk P w K mg base N_is_integer (top 13) 0 t_is_integer b_is_integer := by
  intro qual f cdv A outer s H hr
  have C : Cok (cxOf L2.CX0 P w K mg base N_is_integer qual (defScope (top 13)) f cdv A outer s H fun _ _ _ => False).nox 0 := ⟨rfl, sc_is_integer.nd, hr⟩
  exact dss_cons (ds_rt (e_and (e_isiB L.blt (is_is_integer_int L) L.blt.int (e_v 0)) (e_and1 (e_not (e_isiB L.blt (is_is_integer_bool L) L.blt.bool (e_v 0))))))
    (dss_nil)
theorem ok_is_integer {P : Program} {w : World} {K : PySem.W.Frag} {mg : Str → Option Value} {base : Heap} (L : Txt K mg) : Callee P w K mg base "is_integer" 1 f_is_integer [(1, [], [.arg 0])] :=
  callee_of L.f_is_integer sc_is_integer rfl (wk_is_integer L) (fun qual kV doc pm an cdv ct => List.forall_mem_cons.mpr ⟨BindG.args [0] rfl fun us ws h1 h2 => match us, ws, h1, h2 with | [a0], [], _, _ => rfl, fun _ h => nomatch h⟩)
/-! is_name -/
abbrev N_is_name : List Str := ["value", "sign"]
theorem sc_is_name : FnScope N_is_name ["value"] (defScope (top 14)) := ⟨rfl, rfl, rfl, by decide +kernel, rfl, by decide +kernel, by decide +kernel⟩
theorem cl_is_name {c : Str} {ct : ClsT} (h : t_is_name.cls c = some ct) : c = "Goods" ∧ ct = c_is_name_Goods := cls1 h
theorem ct_is_name_Goods : t_is_name.cls "Goods" = some c_is_name_Goods := by show (if ("Goods" : Str) = "Goods" then some c_is_name_Goods else none) = _; exact if_pos rfl
theorem is_is_name_str {X : Cx} (L : Txt X.K X.mg) : IsiB X t_is_name "str" := isiB_of cl_is_name L.k_Goods (by decide +kernel) (by decide +kernel) (by decide +kernel) (by decide +kernel) (by decide +kernel) (by decide +kernel) (by decide)
theorem wk_is_name {P : Program} {w : World} {K : PySem.W.Frag} {mg : Str → Option Value} {base : Heap} (L : Txt K mg) : Walk P w K mg base N_is_name (top 14) 0 t_is_name b_is_name := by
  intro qual f cdv A outer s H hr
  have C : Cok (cxOf L2.CX0 P w K mg base N_is_name qual (defScope (top 14)) f cdv A outer s H fun _ _ _ => False).nox 0 := ⟨rfl, sc_is_name.nd, hr⟩
  exact dss_cons (ds_if (t_bool (w_or (t_not (t_val (e_isiB L.blt (is_is_name_str L) L.blt.str (e_v 0)))) (w_or (t_not (t_chain C .le .le (e_int) (e_len C L.blt (as_cons (e_v 0) (as_nil))) (e_gint L.c_MOST_SIGNS))) (w_or1 (t_cmp C .notIn (e_ix (e_v 0) (e_int)) (e_gstr L.c_LETTERS)))))) (dss_cons (ds_rt (e_bl))
    (dss_nil)) (dss_nil))
    (dss_cons (ds_rt (e_all C L.blt (as_cons (e_comp [("sign", 1)] C (i_of (e_v 0)) (blkOk_by (N := N_is_name) (sc := defScope (top 14)) (by decide +kernel)) (fun _ _ _ _ _ => g_nm (C).blk 1) (fun _ _ _ _ _ => dts_nil) (fun _ _ _ _ _ => e_or (e_cmp (C).blk .inO (e_v 1) (e_gstr L.c_LETTERS)) (e_or1 (e_cmp (C).blk .inO (e_v 1) (e_gstr L.c_DIGITS))))) (as_nil))))
    (dss_nil))
theorem ok_is_name {P : Program} {w : World} {K : PySem.W.Frag} {mg : Str → Option Value} {base : Heap} (L : Txt K mg) : Callee P w K mg base "is_name" 1 f_is_name [(1, [], [.arg 0])] :=
  callee_of L.f_is_name sc_is_name rfl (wk_is_name L) (fun qual kV doc pm an cdv ct => List.forall_mem_cons.mpr ⟨BindG.args [0] rfl fun us ws h1 h2 => match us, ws, h1, h2 with | [a0], [], _, _ => rfl, fun _ h => nomatch h⟩)
/-! is_kind -/
abbrev N_is_kind : List Str := ["value", "room"]
theorem sc_is_kind : FnScope N_is_kind ["value", "room"] (defScope (top 17)) := ⟨rfl, rfl, rfl, by decide +kernel, rfl, by decide +kernel, by decide +kernel⟩
theorem cl_is_kind {c : Str} {ct : ClsT} (h : t_is_kind.cls c = some ct) : c = "Goods" ∧ ct = c_is_kind_Goods := cls1 h
theorem ct_is_kind_Goods : t_is_kind.cls "Goods" = some c_is_kind_Goods := by show (if ("Goods" : Str) = "Goods" then some c_is_kind_Goods else none) = _; exact if_pos rfl
theorem is_is_kind_tuple {X : Cx} (L : Txt X.K X.mg) : IsiB X t_is_kind "tuple" := isiB_of cl_is_kind L.k_Goods (by decide +kernel) (by decide +kernel) (by decide +kernel) (by decide +kernel) (by decide +kernel) (by decide +kernel) (by decide)
theorem wk_is_kind {P : Program} {w : World} {K : PySem.W.Frag} {mg : Str → Option Value} {base : Heap} (L : Txt K mg) : Walk P w K mg base N_is_kind (top 17) 1 t_is_kind b_is_kind := by
  intro qual f cdv A outer s H hr
  have C : Cok (cxOf L2.CX0 P w K mg base N_is_kind qual (defScope (top 17)) f cdv A outer s H fun _ _ _ => False).nox 1 := ⟨rfl, sc_is_kind.nd, hr⟩
  exact dss_cons (ds_if (t_bool (w_or (t_not (t_val (e_isiB L.blt (is_is_kind_tuple L) L.blt.tuple (e_v 0)))) (w_or (t_cmp C .ne (e_len C L.blt (as_cons (e_v 0) (as_nil))) (e_int)) (w_or1 (t_not (t_val (e_own 1 (ok_is_name L) (.head _) C (as_cons (e_ix (e_v 0) (e_int)) (as_nil)) (k_nil)))))))) (dss_cons (ds_rt (e_bl))
    (dss_nil)) (dss_nil))
    (dss_cons (ds_rt (e_and (e_own 0 (ok_is_integer L) (.head _) C (as_cons (e_ix (e_v 0) (e_int)) (as_nil)) (k_nil)) (e_and1 (e_chain C .le .le (e_int) (e_ix (e_v 0) (e_int)) (e_v 1)))))
    (dss_nil))
theorem ok_is_kind {P : Program} {w : World} {K : PySem.W.Frag} {mg : Str → Option Value} {base : Heap} (L : Txt K mg) : Callee P w K mg base "is_kind" 2 f_is_kind [(2, [], [.arg 0, .arg 1])] :=
  callee_of L.f_is_kind sc_is_kind rfl (wk_is_kind L) (fun qual kV doc pm an cdv ct => List.forall_mem_cons.mpr ⟨BindG.args [0, 1] rfl fun us ws h1 h2 => match us, ws, h1, h2 with | [a0, a1], [], _, _ => rfl, fun _ h => nomatch h⟩)
/-! check_kinds -/
abbrev N_check_kinds : List Str := ["kinds", "room", "index", "kind"]
theorem sc_check_kinds : FnScope N_check_kinds ["kinds", "room"] (defScope (top 18)) := ⟨rfl, rfl, rfl, by decide +kernel, rfl, by decide +kernel, by decide +kernel⟩
theorem cl_check_kinds {c : Str} {ct : ClsT} (h : t_check_kinds.cls c = some ct) : c = "Goods" ∧ ct = c_check_kinds_Goods := cls1 h
theorem ct_check_kinds_Goods : t_check_kinds.cls "Goods" = some c_check_kinds_Goods := by show (if ("Goods" : Str) = "Goods" then some c_check_kinds_Goods else none) = _; exact if_pos rfl
theorem is_check_kinds_tuple {X : Cx} (L : Txt X.K X.mg) : IsiB X t_check_kinds "tuple" := isiB_of cl_check_kinds L.k_Goods (by decide +kernel) (by decide +kernel) (by decide +kernel) (by decide +kernel) (by decide +kernel) (by decide +kernel) (by decide)
theorem wk_check_kinds {P : Program} {w : World} {K : PySem.W.Frag} {mg : Str → Option Value} {base : Heap} (L : Txt K mg) : Walk P w K mg base N_check_kinds (top 18) 2 t_check_kinds b_check_kinds := by
  intro qual f cdv A outer s H hr
  have C : Cok (cxOf L2.CX0 P w K mg base N_check_kinds qual (defScope (top 18)) f cdv A outer s H fun _ _ _ => False).nox 2 := ⟨rfl, sc_check_kinds.nd, hr⟩
  exact dss_cons (ds_if (t_bool (w_or (t_not (t_val (e_isiB L.blt (is_check_kinds_tuple L) L.blt.tuple (e_v 0)))) (w_or1 (t_cmp C .eq (e_len C L.blt (as_cons (e_v 0) (as_nil))) (e_int))))) (dss_cons (ds_stuck)
    (dss_nil)) (dss_nil))
    (dss_cons (s_for C PassesOwn.never (g_tup C (gs_cons (g_nm C 2) (gs_cons (g_nm C 3) (gs_nil)))) (i_enum L.blt (e_v 0)) (dss_cons (ds_if (t_bool (w_or (t_cmp C .eq (e_v 2) (e_gint L.c_MOST_KINDS)) (w_or1 (t_not (t_val (e_own 3 (ok_is_kind L) (.head _) C (as_cons (e_v 3) (as_cons (e_v 1) (as_nil))) (k_nil))))))) (dss_cons (ds_stuck)
    (dss_nil)) (dss_nil))
    (dss_cons (ds_if (t_bool (w_and (t_cmp C .gt (e_v 2) (e_int)) (w_and1 (t_cmp C .ge (e_ix (e_ix (e_v 0) (e_bin .sub (e_v 2) (e_int))) (e_int)) (e_ix (e_v 3) (e_int)))))) (dss_cons (ds_stuck)
    (dss_nil)) (dss_nil))
    (dss_nil))))
    (dss_nil))
theorem ok_check_kinds {P : Program} {w : World} {K : PySem.W.Frag} {mg : Str → Option Value} {base : Heap} (L : Txt K mg) : Callee P w K mg base "check_kinds" 3 f_check_kinds [(2, [], [.arg 0, .arg 1])] :=
  callee_of L.f_check_kinds sc_check_kinds rfl (wk_check_kinds L) (fun qual kV doc pm an cdv ct => List.forall_mem_cons.mpr ⟨BindG.args [0, 1] rfl fun us ws h1 h2 => match us, ws, h1, h2 with | [a0, a1], [], _, _ => rfl, fun _ h => nomatch h⟩)
/-! __init__ -/
abbrev N_Goods_ddinitdd : List Str := ["self", "room", "kinds"]
theorem sc_Goods_ddinitdd : FnScope N_Goods_ddinitdd ["self", "room", "kinds"] (defScope (inClass (top 20) 0)) := ⟨rfl, rfl, rfl, by decide +kernel, rfl, by decide +kernel, by decide +kernel⟩
theorem cl_Goods_ddinitdd {c : Str} {ct : ClsT} (h : t_Goods_ddinitdd.cls c = some ct) : c = "Goods" ∧ ct = c_Goods_ddinitdd_Goods := cls1 h
theorem ct_Goods_ddinitdd_Goods : t_Goods_ddinitdd.cls "Goods" = some c_Goods_ddinitdd_Goods := by show (if ("Goods" : Str) = "Goods" then some c_Goods_ddinitdd_Goods else none) = _; exact if_pos rfl
theorem so_Goods_ddinitdd_pairs {X : Cx} (L : Txt X.K X.mg) : SetOk X t_Goods_ddinitdd "pairs" := set_fld cl_Goods_ddinitdd L.k_Goods rfl
theorem so_Goods_ddinitdd_space {X : Cx} (L : Txt X.K X.mg) : SetOk X t_Goods_ddinitdd "space" := set_fld cl_Goods_ddinitdd L.k_Goods rfl
theorem wk_Goods_ddinitdd {P : Program} {w : World} {K : PySem.W.Frag} {mg : Str → Option Value} {base : Heap} (L : Txt K mg) : Walk P w K mg base N_Goods_ddinitdd (inClass (top 20) 0) 3 t_Goods_ddinitdd b_Goods_ddinitdd := by
  intro qual f cdv A outer s H hr
  have C : Cok (cxOf L2.CX0 P w K mg base N_Goods_ddinitdd qual (defScope (inClass (top 20) 0)) f cdv A outer s H fun _ _ _ => False).nox 3 := ⟨rfl, sc_Goods_ddinitdd.nd, hr⟩
  exact dss_cons (ds_if (t_bool (w_or (t_not (t_val (e_own 0 (ok_is_integer L) (.head _) C (as_cons (e_v 1) (as_nil)) (k_nil)))) (w_or1 (t_not (t_chain C .le .le (e_int) (e_v 1) (e_gint L.c_MOST_ROOM)))))) (dss_cons (ds_stuck)
    (dss_nil)) (dss_nil))
    (dss_cons (s_ex (e_own 4 (ok_check_kinds L) (.head _) C (as_cons (e_v 2) (as_cons (e_v 1) (as_nil))) (k_nil)))
    (dss_cons (s_asg (g_tup C (gs_cons (g_att (so_Goods_ddinitdd_space L) (e_v 0)) (gs_cons (g_att (so_Goods_ddinitdd_pairs L) (e_v 0)) (gs_nil)))) (e_tup (as_cons (e_v 1) (as_cons (e_v 2) (as_nil)))))
    (dss_nil)))
theorem ok_Goods_ddinitdd {P : Program} {w : World} {K : PySem.W.Frag} {mg : Str → Option Value} {base : Heap} (L : Txt K mg) : Maker P w K mg base "Goods" 4 f_Goods_ddinitdd [(2, [], [.arg 0, .arg 1]), (0, ["kinds", "room"], [.arg 1, .arg 0])] :=
  maker_of L.m_Goods_ddinitdd sc_Goods_ddinitdd rfl (wk_Goods_ddinitdd L) (fun qual kV doc pm an cdv ct => List.forall_mem_cons.mpr ⟨BindG.args [0, 1, 2] rfl fun us ws h1 h2 => match us, ws, h1, h2 with | [a0, a1, a2], [], _, _ => rfl, List.forall_mem_cons.mpr ⟨BindG.args [0, 2, 1] rfl fun us ws h1 h2 => match us, ws, h1, h2 with | [a0], [b0, b1], _, _ => rfl, fun _ h => nomatch h⟩⟩)
/-! __str__ -/
abbrev N_Goods_ddstrdd : List Str := ["self", "kinds", "size", "name"]
theorem sc_Goods_ddstrdd : FnScope N_Goods_ddstrdd ["self"] (defScope (inClass (top 20) 8)) := ⟨rfl, rfl, rfl, by decide +kernel, rfl, by decide +kernel, by decide +kernel⟩
theorem cl_Goods_ddstrdd {c : Str} {ct : ClsT} (h : t_Goods_ddstrdd.cls c = some ct) : c = "Goods" ∧ ct = c_Goods_ddstrdd_Goods := cls1 h
theorem ct_Goods_ddstrdd_Goods : t_Goods_ddstrdd.cls "Goods" = some c_Goods_ddstrdd_Goods := by show (if ("Goods" : Str) = "Goods" then some c_Goods_ddstrdd_Goods else none) = _; exact if_pos rfl
theorem ao_Goods_ddstrdd_pairs {X : Cx} {j : Nat} (L : Txt X.K X.mg) (C : Cok X j) : AttrOk X t_Goods_ddstrdd "pairs" := attr_fld cl_Goods_ddstrdd L.k_Goods rfl rfl
theorem ao_Goods_ddstrdd_space {X : Cx} {j : Nat} (L : Txt X.K X.mg) (C : Cok X j) : AttrOk X t_Goods_ddstrdd "space" := attr_fld cl_Goods_ddstrdd L.k_Goods rfl rfl
theorem wk_Goods_ddstrdd {P : Program} {w : World} {K : PySem.W.Frag} {mg : Str → Option Value} {base : Heap} (L : Txt K mg) : Walk P w K mg base N_Goods_ddstrdd (inClass (top 20) 8) 0 t_Goods_ddstrdd b_Goods_ddstrdd := by
  intro qual f cdv A outer s H hr
  have C : Cok (cxOf L2.CX0 P w K mg base N_Goods_ddstrdd qual (defScope (inClass (top 20) 8)) f cdv A outer s H fun _ _ _ => False).nox 0 := ⟨rfl, sc_Goods_ddstrdd.nd, hr⟩
  exact dss_cons (s_asg (g_nm C 1) (e_join (e_str) (as_cons (e_comp [("name", 3), ("size", 2)] C (i_of (e_attr (ao_Goods_ddstrdd_pairs L C) (e_v 0))) (blkOk_by (N := N_Goods_ddstrdd) (sc := defScope (inClass (top 20) 8)) (by decide +kernel)) (fun _ _ _ _ _ => g_tup (C).blk (gs_cons (g_nm (C).blk 3) (gs_cons (g_nm (C).blk 2) (gs_nil)))) (fun _ _ _ _ _ => dts_nil) (fun _ _ _ _ _ => e_fstr (.cons (e_fmt (e_v 3)) (.cons (e_str) (.cons (e_fmt (e_v 2)) (.nil)))))) (as_nil))))
    (dss_cons (ds_rt (e_fstr (.cons (e_str) (.cons (e_fmt (e_attr (ao_Goods_ddstrdd_space L C) (e_v 0))) (.cons (e_str) (.cons (e_fmt (e_v 1)) (.nil)))))))
    (dss_nil))
theorem ok_Goods_ddstrdd {P : Program} {w : World} {K : PySem.W.Frag} {mg : Str → Option Value} {base : Heap} (L : Txt K mg) : Metho P w K mg base "Goods" "__str__" 1 f_Goods_ddstrdd [(0, [], [])] :=
  metho_of L.m_Goods_ddstrdd sc_Goods_ddstrdd rfl (wk_Goods_ddstrdd L) (fun qual kV doc pm an cdv ct => List.forall_mem_cons.mpr ⟨BindG.args [0] rfl fun us ws h1 h2 => match us, ws, h1, h2 with | [a0], [], _, _ => rfl, fun _ h => nomatch h⟩)
/-! kinds -/
abbrev N_Goods_kinds : List Str := ["self"]
theorem sc_Goods_kinds : FnScope N_Goods_kinds ["self"] (defScope (inClass (top 20) 3)) := ⟨rfl, rfl, rfl, by decide +kernel, rfl, by decide +kernel, by decide +kernel⟩
theorem cl_Goods_kinds {c : Str} {ct : ClsT} (h : t_Goods_kinds.cls c = some ct) : c = "Goods" ∧ ct = c_Goods_kinds_Goods := cls1 h
theorem ct_Goods_kinds_Goods : t_Goods_kinds.cls "Goods" = some c_Goods_kinds_Goods := by show (if ("Goods" : Str) = "Goods" then some c_Goods_kinds_Goods else none) = _; exact if_pos rfl
theorem ao_Goods_kinds_pairs {X : Cx} {j : Nat} (L : Txt X.K X.mg) (C : Cok X j) : AttrOk X t_Goods_kinds "pairs" := attr_fld cl_Goods_kinds L.k_Goods rfl rfl
theorem wk_Goods_kinds {P : Program} {w : World} {K : PySem.W.Frag} {mg : Str → Option Value} {base : Heap} (L : Txt K mg) : Walk P w K mg base N_Goods_kinds (inClass (top 20) 3) 0 t_Goods_kinds b_Goods_kinds := by
  intro qual f cdv A outer s H hr
  have C : Cok (cxOf L2.CX0 P w K mg base N_Goods_kinds qual (defScope (inClass (top 20) 3)) f cdv A outer s H fun _ _ _ => False).nox 0 := ⟨rfl, sc_Goods_kinds.nd, hr⟩
  exact dss_cons (ds_rt (e_attr (ao_Goods_kinds_pairs L C) (e_v 0)))
    (dss_nil)
theorem ok_Goods_kinds {P : Program} {w : World} {K : PySem.W.Frag} {mg : Str → Option Value} {base : Heap} (L : Txt K mg) : Propo P w K mg base "Goods" "kinds" 1 f_Goods_kinds [(0, [], [])] :=
  propo_of L.m_Goods_kinds sc_Goods_kinds rfl (wk_Goods_kinds L) (fun qual kV doc pm an cdv ct => List.forall_mem_cons.mpr ⟨BindG.args [0] rfl fun us ws h1 h2 => match us, ws, h1, h2 with | [a0], [], _, _ => rfl, fun _ h => nomatch h⟩)
/-! number_in -/
abbrev N_number_in : List Str := ["word", "sign"]
theorem sc_number_in : FnScope N_number_in ["word"] (defScope (top 15)) := ⟨rfl, rfl, rfl, by decide +kernel, rfl, by decide +kernel, by decide +kernel⟩
theorem cl_number_in {c : Str} {ct : ClsT} (h : t_number_in.cls c = some ct) : c = "Goods" ∧ ct = c_number_in_Goods := cls1 h
theorem ct_number_in_Goods : t_number_in.cls "Goods" = some c_number_in_Goods := by show (if ("Goods" : Str) = "Goods" then some c_number_in_Goods else none) = _; exact if_pos rfl
theorem wk_number_in {P : Program} {w : World} {K : PySem.W.Frag} {mg : Str → Option Value} {base : Heap} (L : Txt K mg) : Walk P w K mg base N_number_in (top 15) 0 t_number_in b_number_in := by
  intro qual f cdv A outer s H hr
  have C : Cok (cxOf L2.CX0 P w K mg base N_number_in qual (defScope (top 15)) f cdv A outer s H fun _ _ _ => False).nox 0 := ⟨rfl, sc_number_in.nd, hr⟩
  exact dss_cons (ds_if (t_bool (w_or (t_not (t_chain C .le .le (e_int) (e_len C L.blt (as_cons (e_v 0) (as_nil))) (e_int))) (w_or1 (t_not (t_val (e_all C L.blt (as_cons (e_comp [("sign", 1)] C (i_of (e_v 0)) (blkOk_by (N := N_number_in) (sc := defScope (top 15)) (by decide +kernel)) (fun _ _ _ _ _ => g_nm (C).blk 1) (fun _ _ _ _ _ => dts_nil) (fun _ _ _ _ _ => e_cmp (C).blk .inO (e_v 1) (e_gstr L.c_DIGITS))) (as_nil)))))))) (dss_cons (ds_rt (e_non))
    (dss_nil)) (dss_nil))
    (dss_cons (ds_rt (e_intc C L.blt (as_cons (e_v 0) (as_nil))))
    (dss_nil))
theorem ok_number_in {P : Program} {w : World} {K : PySem.W.Frag} {mg : Str → Option Value} {base : Heap} (L : Txt K mg) : Callee P w K mg base "number_in" 1 f_number_in [(1, [], [.arg 0])] :=
  callee_of L.f_number_in sc_number_in rfl (wk_number_in L) (fun qual kV doc pm an cdv ct => List.forall_mem_cons.mpr ⟨BindG.args [0] rfl fun us ws h1 h2 => match us, ws, h1, h2 with | [a0], [], _, _ => rfl, fun _ h => nomatch h⟩)
/-! pair_in -/
abbrev N_pair_in : List Str := ["text", "name", "gap", "size"]
theorem sc_pair_in : FnScope N_pair_in ["text"] (defScope (top 19)) := ⟨rfl, rfl, rfl, by decide +kernel, rfl, by decide +kernel, by decide +kernel⟩
theorem cl_pair_in {c : Str} {ct : ClsT} (h : t_pair_in.cls c = some ct) : c = "Goods" ∧ ct = c_pair_in_Goods := cls1 h
theorem ct_pair_in_Goods : t_pair_in.cls "Goods" = some c_pair_in_Goods := by show (if ("Goods" : Str) = "Goods" then some c_pair_in_Goods else none) = _; exact if_pos rfl
theorem wk_pair_in {P : Program} {w : World} {K : PySem.W.Frag} {mg : Str → Option Value} {base : Heap} (L : Txt K mg) : Walk P w K mg base N_pair_in (top 19) 1 t_pair_in b_pair_in := by
  intro qual f cdv A outer s H hr
  have C : Cok (cxOf L2.CX0 P w K mg base N_pair_in qual (defScope (top 19)) f cdv A outer s H fun _ _ _ => False).nox 1 := ⟨rfl, sc_pair_in.nd, hr⟩
  exact dss_cons (s_asg (g_tup C (gs_cons (g_nm C 1) (gs_cons (g_nm C 2) (gs_cons (g_nm C 3) (gs_nil))))) (e_partition (e_v 0) (as_cons (e_str) (as_nil))))
    (dss_cons (ds_rt (e_tup (as_cons (e_v 1) (as_cons (e_own 2 (ok_number_in L) (.head _) C (as_cons (e_v 3) (as_nil)) (k_nil)) (as_nil)))))
    (dss_nil))
theorem ok_pair_in {P : Program} {w : World} {K : PySem.W.Frag} {mg : Str → Option Value} {base : Heap} (L : Txt K mg) : Callee P w K mg base "pair_in" 2 f_pair_in [(1, [], [.arg 0])] :=
  callee_of L.f_pair_in sc_pair_in rfl (wk_pair_in L) (fun qual kV doc pm an cdv ct => List.forall_mem_cons.mpr ⟨BindG.args [0] rfl fun us ws h1 h2 => match us, ws, h1, h2 with | [a0], [], _, _ => rfl, fun _ h => nomatch h⟩)
/-! read -/
abbrev N_Goods_read : List Str := ["cls", "text", "head", "gap", "tail", "goods", "part"]
theorem sc_Goods_read : FnScope N_Goods_read ["cls", "text"] (defScope (inClass (top 20) 1)) := ⟨rfl, rfl, rfl, by decide +kernel, rfl, by decide +kernel, by decide +kernel⟩
theorem cl_Goods_read {c : Str} {ct : ClsT} (h : t_Goods_read.cls c = some ct) : c = "Goods" ∧ ct = c_Goods_read_Goods := cls1 h
theorem ct_Goods_read_Goods : t_Goods_read.cls "Goods" = some c_Goods_read_Goods := by show (if ("Goods" : Str) = "Goods" then some c_Goods_read_Goods else none) = _; exact if_pos rfl
theorem is_Goods_read_str {X : Cx} (L : Txt X.K X.mg) : IsiB X t_Goods_read "str" := isiB_of cl_Goods_read L.k_Goods (by decide +kernel) (by decide +kernel) (by decide +kernel) (by decide +kernel) (by decide +kernel) (by decide +kernel) (by decide)
theorem mt_Goods_read_Goods_ddstrdd : methOf t_Goods_read "Goods" "__str__" = some f_Goods_ddstrdd := meth_of ct_Goods_read_Goods (by show (if ("__str__" : Str) = "__str__" then some f_Goods_ddstrdd else (none : Option FM)) = _; rw [if_pos rfl])
theorem du_Goods_read_Goods_ddstrdd {X : Cx} (L : Txt X.K X.mg) : DundG X t_Goods_read "Goods" "__str__" 1 := dund_of (ok_Goods_ddstrdd (P := X.prog) (w := X.w) (base := X.base) L) (.head _) mt_Goods_read_Goods_ddstrdd
theorem wk_Goods_read {P : Program} {w : World} {K : PySem.W.Frag} {mg : Str → Option Value} {base : Heap} (L : Txt K mg) : Walk P w K mg base N_Goods_read (inClass (top 20) 1) 5 t_Goods_read b_Goods_read := by
  intro qual f cdv A outer s H hr
  have C : Cok (cxOf L2.CX0 P w K mg base N_Goods_read qual (defScope (inClass (top 20) 1)) f cdv A outer s H fun _ _ _ => False).nox 5 := ⟨rfl, sc_Goods_read.nd, hr⟩
  exact dss_cons (ds_if (t_not (t_val (e_isiB L.blt (is_Goods_read_str L) L.blt.str (e_v 1)))) (dss_cons (ds_stuck)
    (dss_nil)) (dss_nil))
    (dss_cons (s_asg (g_tup C (gs_cons (g_nm C 2) (gs_cons (g_nm C 3) (gs_cons (g_nm C 4) (gs_nil))))) (e_partition (e_v 1) (as_cons (e_str) (as_nil))))
    (dss_cons (s_try (fun _ _ h => h) (dss_cons (s_asg (g_nm C 5) (e_makeV (ok_Goods_ddinitdd L) (.head _) C (e_v 0) (as_cons (e_own 2 (ok_number_in L) (.head _) C (as_cons (e_slice (e_v 2) (o_yes (e_int)) (o_no)) (as_nil)) (k_nil)) (as_cons (e_tuplec C L.blt (as_cons (e_comp [("part", 6)] C (i_of (e_split (e_v 4) (as_cons (e_str) (as_nil)))) (blkOk_by (N := N_Goods_read) (sc := defScope (inClass (top 20) 1)) (by decide +kernel)) (fun _ _ _ _ _ => g_nm (C).blk 6) (fun _ _ _ _ _ => dts_nil) (fun _ _ _ _ _ => e_own 5 (ok_pair_in L) (.head _) (C).blk (as_cons (e_v 6) (as_nil)) (k_nil))) (as_nil))) (as_nil))) ct_Goods_read_Goods rfl))
    (dss_nil)))
    (dss_cons (ds_if (t_cmp C .ne (e_strO L.blt (du_Goods_read_Goods_ddstrdd L) (Cok.mono C (by decide)) (e_v 5)) (e_v 1)) (dss_cons (ds_stuck)
    (dss_nil)) (dss_nil))
    (dss_cons (ds_rt (e_v 5))
    (dss_nil)))))
theorem ok_Goods_read {P : Program} {w : World} {K : PySem.W.Frag} {mg : Str → Option Value} {base : Heap} (L : Txt K mg) : CMetho P w K mg base "Goods" "read" 6 f_Goods_read [(1, [], [.arg 0]), (0, ["text"], [.arg 0])] :=
  cmetho_of L.m_Goods_read sc_Goods_read rfl (wk_Goods_read L) (fun qual kV doc pm an cdv ct => List.forall_mem_cons.mpr ⟨BindG.args [0, 1] rfl fun us ws h1 h2 => match us, ws, h1, h2 with | [a0, a1], [], _, _ => rfl, List.forall_mem_cons.mpr ⟨BindG.args [0, 1] rfl fun us ws h1 h2 => match us, ws, h1, h2 with | [a0], [b0], _, _ => rfl, fun _ h => nomatch h⟩⟩)
/-! room -/
abbrev N_Goods_room : List Str := ["self"]
theorem sc_Goods_room : FnScope N_Goods_room ["self"] (defScope (inClass (top 20) 2)) := ⟨rfl, rfl, rfl, by decide +kernel, rfl, by decide +kernel, by decide +kernel⟩
theorem cl_Goods_room {c : Str} {ct : ClsT} (h : t_Goods_room.cls c = some ct) : c = "Goods" ∧ ct = c_Goods_room_Goods := cls1 h
theorem ct_Goods_room_Goods : t_Goods_room.cls "Goods" = some c_Goods_room_Goods := by show (if ("Goods" : Str) = "Goods" then some c_Goods_room_Goods else none) = _; exact if_pos rfl
theorem ao_Goods_room_space {X : Cx} {j : Nat} (L : Txt X.K X.mg) (C : Cok X j) : AttrOk X t_Goods_room "space" := attr_fld cl_Goods_room L.k_Goods rfl (by show (if ("space" : Str) = "kinds" then some f_Goods_kinds else (none : Option FM)) = _; rw [if_neg (by decide +kernel)])
theorem wk_Goods_room {P : Program} {w : World} {K : PySem.W.Frag} {mg : Str → Option Value} {base : Heap} (L : Txt K mg) : Walk P w K mg base N_Goods_room (inClass (top 20) 2) 0 t_Goods_room b_Goods_room := by
  intro qual f cdv A outer s H hr
  have C : Cok (cxOf L2.CX0 P w K mg base N_Goods_room qual (defScope (inClass (top 20) 2)) f cdv A outer s H fun _ _ _ => False).nox 0 := ⟨rfl, sc_Goods_room.nd, hr⟩
  exact dss_cons (ds_rt (e_attr (ao_Goods_room_space L C) (e_v 0)))
    (dss_nil)
theorem ok_Goods_room {P : Program} {w : World} {K : PySem.W.Frag} {mg : Str → Option Value} {base : Heap} (L : Txt K mg) : Propo P w K mg base "Goods" "room" 1 f_Goods_room [(0, [], [])] :=
  propo_of L.m_Goods_room sc_Goods_room rfl (wk_Goods_room L) (fun qual kV doc pm an cdv ct => List.forall_mem_cons.mpr ⟨BindG.args [0] rfl fun us ws h1 h2 => match us, ws, h1, h2 with | [a0], [], _, _ => rfl, fun _ h => nomatch h⟩)
/-! _law_draw -/
abbrev N_w_draw : List Str := ["_law_pool_here", "_law_many", "_law_mixed", "_law_digit"]
theorem sc_w_draw : FnScope N_w_draw ["_law_pool_here", "_law_many"] (defScope (top 24)) := ⟨rfl, rfl, rfl, by decide +kernel, rfl, by decide +kernel, by decide +kernel⟩
theorem cl_w_draw {c : Str} {ct : ClsT} (h : t_w_draw.cls c = some ct) : c = "Goods" ∧ ct = c_w_draw_Goods := cls1 h
theorem ct_w_draw_Goods : t_w_draw.cls "Goods" = some c_w_draw_Goods := by show (if ("Goods" : Str) = "Goods" then some c_w_draw_Goods else none) = _; exact if_pos rfl
theorem wk_w_draw {P : Program} {w : World} {K : PySem.W.Frag} {mg : Str → Option Value} {base : Heap} (L : Txt K mg) : Walk P w K mg base N_w_draw (top 24) 0 t_w_draw b_w_draw := by
  intro qual f cdv A outer s H hr
  have C : Cok (cxOf L2.CX0 P w K mg base N_w_draw qual (defScope (top 24)) f cdv A outer s H fun _ _ _ => False).nox 0 := ⟨rfl, sc_w_draw.nd, hr⟩
  exact dss_cons (s_asg (g_sub (e_v 0) (e_int)) (e_bin .add (e_ix (e_v 0) (e_int)) (e_int)))
    (dss_cons (s_asg (g_nm C 2) (e_bin .mod (e_intc C L.blt (as_cons (e_bin .add (e_bin .add (e_bin .mul (e_ix (e_v 0) (e_int)) (e_int)) (e_bin .mul (e_ix (e_v 0) (e_int)) (e_int))) (e_int)) (as_nil))) (e_int)))
    (dss_cons (s_asg (g_sub (e_v 0) (e_int)) (e_bin .mod (e_intc C L.blt (as_cons (e_bin .add (e_bin .mul (e_v 2) (e_v 2)) (e_bin .mul (e_int) (e_ix (e_v 0) (e_int)))) (as_nil))) (e_int)))
    (dss_cons (ds_if (t_cmp C .gt (e_ix (e_v 0) (e_int)) (e_int)) (dss_cons (s_asg (g_nm C 3) (e_bin .mod (e_intc C L.blt (as_cons (e_ix (e_v 0) (e_int)) (as_nil))) (e_v 1)))
    (dss_cons (s_asg (g_sub (e_v 0) (e_int)) (e_bin .fdiv (e_ix (e_v 0) (e_int)) (e_v 1)))
    (dss_cons (ds_rt (e_v 3))
    (dss_nil)))) (dss_nil))
    (dss_cons (ds_rt (e_bin .mod (e_intc C L.blt (as_cons (e_bin .fdiv (e_ix (e_v 0) (e_int)) (e_int)) (as_nil))) (e_v 1)))
    (dss_nil)))))
theorem ok_w_draw {P : Program} {w : World} {K : PySem.W.Frag} {mg : Str → Option Value} {base : Heap} (L : Txt K mg) : Callee P w K mg base "_law_draw" 1 f_w_draw [(2, [], [.arg 0, .arg 1])] :=
  callee_of L.f_w_draw sc_w_draw rfl (wk_w_draw L) (fun qual kV doc pm an cdv ct => List.forall_mem_cons.mpr ⟨BindG.args [0, 1] rfl fun us ws h1 h2 => match us, ws, h1, h2 with | [a0, a1], [], _, _ => rfl, fun _ h => nomatch h⟩)
/-! _law_others -/
abbrev N_w_others : List Str := ["_law_pool_here", "_law_wide", "_law_pairs", "_law_found", "_law_at", "_law_tag", "_law_bulk", "_law_word_here"]
theorem sc_w_others : FnScope N_w_others ["_law_pool_here", "_law_wide", "_law_pairs"] (defScope (top 30)) := ⟨rfl, rfl, rfl, by decide +kernel, rfl, by decide +kernel, by decide +kernel⟩
theorem cl_w_others {c : Str} {ct : ClsT} (h : t_w_others.cls c = some ct) : c = "Goods" ∧ ct = c_w_others_Goods := cls1 h
theorem ct_w_others_Goods : t_w_others.cls "Goods" = some c_w_others_Goods := by show (if ("Goods" : Str) = "Goods" then some c_w_others_Goods else none) = _; exact if_pos rfl
theorem wk_w_others {P : Program} {w : World} {K : PySem.W.Frag} {mg : Str → Option Value} {base : Heap} (L : Txt K mg) : Walk P w K mg base N_w_others (top 30) 1 t_w_others b_w_others := by
  intro qual f cdv A outer s H hr
  have C : Cok (cxOf L2.CX0 P w K mg base N_w_others qual (defScope (top 30)) f cdv A outer s H fun _ _ _ => False).nox 1 := ⟨rfl, sc_w_others.nd, hr⟩
  exact dss_cons (s_par C 3 4 (as_cons (e_lst (as_nil)) (as_cons (e_own 8 (ok_w_draw L) (.head _) C (as_cons (e_v 0) (as_cons (e_len C L.blt (as_cons (e_v 2) (as_nil))) (as_nil))) (k_nil)) (as_nil))))
    (dss_cons (s_asg (g_tup C (gs_cons (g_nm C 5) (gs_cons (g_nm C 6) (gs_nil)))) (e_ix (e_v 2) (e_v 4)))
    (dss_cons (s_ex (e_append (e_v 3) (as_cons (e_tup (as_cons (e_v 1) (as_cons (e_bin .add (e_bin .add (e_slice (e_v 2) (o_no) (o_yes (e_v 4))) (e_tup (as_cons (e_tup (as_cons (e_v 5) (as_cons (e_bin .add (e_bin .mod (e_intc C L.blt (as_cons (e_v 6) (as_nil))) (e_v 1)) (e_int)) (as_nil)))) (as_nil)))) (e_slice (e_v 2) (o_yes (e_bin .add (e_v 4) (e_int))) (o_no))) (as_nil)))) (as_nil))))
    (dss_cons (ds_if (t_cmp C .lt (e_v 1) (e_int)) (dss_cons (s_ex (e_append (e_v 3) (as_cons (e_tup (as_cons (e_bin .add (e_v 1) (e_int)) (as_cons (e_v 2) (as_nil)))) (as_nil))))
    (dss_nil)) (dss_nil))
    (dss_cons (ds_if (t_cmp C .gt (e_len C L.blt (as_cons (e_v 2) (as_nil))) (e_int)) (dss_cons (s_ex (e_append (e_v 3) (as_cons (e_tup (as_cons (e_v 1) (as_cons (e_bin .add (e_slice (e_v 2) (o_no) (o_yes (e_v 4))) (e_slice (e_v 2) (o_yes (e_bin .add (e_v 4) (e_int))) (o_no))) (as_nil)))) (as_nil))))
    (dss_nil)) (dss_nil))
    (dss_cons (s_asg (g_tup C (gs_cons (g_nm C 5) (gs_cons (g_nm C 6) (gs_nil)))) (e_ix (e_v 2) (e_neg (e_int))))
    (dss_cons (s_asg (g_nm C 7) (e_ite (t_cmp C .eq (e_len C L.blt (as_cons (e_v 5) (as_nil))) (e_int)) (e_str) (e_bin .add (e_v 5) (e_str))))
    (dss_cons (ds_if (t_cmp C .ne (e_v 7) (e_v 5)) (dss_cons (s_ex (e_append (e_v 3) (as_cons (e_tup (as_cons (e_v 1) (as_cons (e_bin .add (e_slice (e_v 2) (o_no) (o_yes (e_neg (e_int)))) (e_tup (as_cons (e_tup (as_cons (e_v 7) (as_cons (e_v 6) (as_nil)))) (as_nil)))) (as_nil)))) (as_nil))))
    (dss_nil)) (dss_nil))
    (dss_cons (ds_rt (e_v 3))
    (dss_nil)))))))))
theorem ok_w_others {P : Program} {w : World} {K : PySem.W.Frag} {mg : Str → Option Value} {base : Heap} (L : Txt K mg) : Callee P w K mg base "_law_others" 2 f_w_others [(3, [], [.arg 0, .arg 1, .arg 2])] :=
  callee_of L.f_w_others sc_w_others rfl (wk_w_others L) (fun qual kV doc pm an cdv ct => List.forall_mem_cons.mpr ⟨BindG.args [0, 1, 2] rfl fun us ws h1 h2 => match us, ws, h1, h2 with | [a0, a1, a2], [], _, _ => rfl, fun _ h => nomatch h⟩)
/-! __len__ -/
abbrev N_Goods_ddlendd : List Str := ["self"]
theorem sc_Goods_ddlendd : FnScope N_Goods_ddlendd ["self"] (defScope (inClass (top 20) 9)) := ⟨rfl, rfl, rfl, by decide +kernel, rfl, by decide +kernel, by decide +kernel⟩
theorem cl_Goods_ddlendd {c : Str} {ct : ClsT} (h : t_Goods_ddlendd.cls c = some ct) : c = "Goods" ∧ ct = c_Goods_ddlendd_Goods := cls1 h
theorem ct_Goods_ddlendd_Goods : t_Goods_ddlendd.cls "Goods" = some c_Goods_ddlendd_Goods := by show (if ("Goods" : Str) = "Goods" then some c_Goods_ddlendd_Goods else none) = _; exact if_pos rfl
theorem ao_Goods_ddlendd_pairs {X : Cx} {j : Nat} (L : Txt X.K X.mg) (C : Cok X j) : AttrOk X t_Goods_ddlendd "pairs" := attr_fld cl_Goods_ddlendd L.k_Goods rfl (by show (if ("pairs" : Str) = "kinds" then some f_Goods_kinds else if ("pairs" : Str) = "room" then some f_Goods_room else (none : Option FM)) = _; rw [if_neg (by decide +kernel)]; rw [if_neg (by decide +kernel)])
theorem wk_Goods_ddlendd {P : Program} {w : World} {K : PySem.W.Frag} {mg : Str → Option Value} {base : Heap} (L : Txt K mg) : Walk P w K mg base N_Goods_ddlendd (inClass (top 20) 9) 0 t_Goods_ddlendd b_Goods_ddlendd := by
  intro qual f cdv A outer s H hr
  have C : Cok (cxOf L2.CX0 P w K mg base N_Goods_ddlendd qual (defScope (inClass (top 20) 9)) f cdv A outer s H fun _ _ _ => False).nox 0 := ⟨rfl, sc_Goods_ddlendd.nd, hr⟩
  exact dss_cons (ds_rt (e_len C L.blt (as_cons (e_attr (ao_Goods_ddlendd_pairs L C) (e_v 0)) (as_nil))))
    (dss_nil)
theorem ok_Goods_ddlendd {P : Program} {w : World} {K : PySem.W.Frag} {mg : Str → Option Value} {base : Heap} (L : Txt K mg) : Metho P w K mg base "Goods" "__len__" 1 f_Goods_ddlendd [(0, [], [])] :=
  metho_of L.m_Goods_ddlendd sc_Goods_ddlendd rfl (wk_Goods_ddlendd L) (fun qual kV doc pm an cdv ct => List.forall_mem_cons.mpr ⟨BindG.args [0] rfl fun us ws h1 h2 => match us, ws, h1, h2 with | [a0], [], _, _ => rfl, fun _ h => nomatch h⟩)
/-! names -/
abbrev N_Goods_names : List Str := ["self", "size", "name"]
theorem sc_Goods_names : FnScope N_Goods_names ["self"] (defScope (inClass (top 20) 4)) := ⟨rfl, rfl, rfl, by decide +kernel, rfl, by decide +kernel, by decide +kernel⟩
theorem cl_Goods_names {c : Str} {ct : ClsT} (h : t_Goods_names.cls c = some ct) : c = "Goods" ∧ ct = c_Goods_names_Goods := cls1 h
theorem ct_Goods_names_Goods : t_Goods_names.cls "Goods" = some c_Goods_names_Goods := by show (if ("Goods" : Str) = "Goods" then some c_Goods_names_Goods else none) = _; exact if_pos rfl
theorem ao_Goods_names_pairs {X : Cx} {j : Nat} (L : Txt X.K X.mg) (C : Cok X j) : AttrOk X t_Goods_names "pairs" := attr_fld cl_Goods_names L.k_Goods rfl (by show (if ("pairs" : Str) = "kinds" then some f_Goods_kinds else if ("pairs" : Str) = "room" then some f_Goods_room else (none : Option FM)) = _; rw [if_neg (by decide +kernel)]; rw [if_neg (by decide +kernel)])
theorem wk_Goods_names {P : Program} {w : World} {K : PySem.W.Frag} {mg : Str → Option Value} {base : Heap} (L : Txt K mg) : Walk P w K mg base N_Goods_names (inClass (top 20) 4) 0 t_Goods_names b_Goods_names := by
  intro qual f cdv A outer s H hr
  have C : Cok (cxOf L2.CX0 P w K mg base N_Goods_names qual (defScope (inClass (top 20) 4)) f cdv A outer s H fun _ _ _ => False).nox 0 := ⟨rfl, sc_Goods_names.nd, hr⟩
  exact dss_cons (ds_rt (e_tuplec C L.blt (as_cons (e_comp [("name", 2), ("size", 1)] C (i_of (e_attr (ao_Goods_names_pairs L C) (e_v 0))) (blkOk_by (N := N_Goods_names) (sc := defScope (inClass (top 20) 4)) (by decide +kernel)) (fun _ _ _ _ _ => g_tup (C).blk (gs_cons (g_nm (C).blk 2) (gs_cons (g_nm (C).blk 1) (gs_nil)))) (fun _ _ _ _ _ => dts_nil) (fun _ _ _ _ _ => e_v 2)) (as_nil))))
    (dss_nil)
theorem ok_Goods_names {P : Program} {w : World} {K : PySem.W.Frag} {mg : Str → Option Value} {base : Heap} (L : Txt K mg) : Propo P w K mg base "Goods" "names" 1 f_Goods_names [(0, [], [])] :=
  propo_of L.m_Goods_names sc_Goods_names rfl (wk_Goods_names L) (fun qual kV doc pm an cdv ct => List.forall_mem_cons.mpr ⟨BindG.args [0] rfl fun us ws h1 h2 => match us, ws, h1, h2 with | [a0], [], _, _ => rfl, fun _ h => nomatch h⟩)
/-! size_of -/
abbrev N_Goods_size_of : List Str := ["self", "name", "title", "size"]
theorem sc_Goods_size_of : FnScope N_Goods_size_of ["self", "name"] (defScope (inClass (top 20) 6)) := ⟨rfl, rfl, rfl, by decide +kernel, rfl, by decide +kernel, by decide +kernel⟩
theorem cl_Goods_size_of {c : Str} {ct : ClsT} (h : t_Goods_size_of.cls c = some ct) : c = "Goods" ∧ ct = c_Goods_size_of_Goods := cls1 h
theorem ct_Goods_size_of_Goods : t_Goods_size_of.cls "Goods" = some c_Goods_size_of_Goods := by show (if ("Goods" : Str) = "Goods" then some c_Goods_size_of_Goods else none) = _; exact if_pos rfl
theorem ao_Goods_size_of_pairs {X : Cx} {j : Nat} (L : Txt X.K X.mg) (C : Cok X j) : AttrOk X t_Goods_size_of "pairs" := attr_fld cl_Goods_size_of L.k_Goods rfl (by show (if ("pairs" : Str) = "kinds" then some f_Goods_kinds else if ("pairs" : Str) = "room" then some f_Goods_room else if ("pairs" : Str) = "names" then some f_Goods_names else (none : Option FM)) = _; rw [if_neg (by decide +kernel)]; rw [if_neg (by decide +kernel)]; rw [if_neg (by decide +kernel)])
theorem is_Goods_size_of_str {X : Cx} (L : Txt X.K X.mg) : IsiB X t_Goods_size_of "str" := isiB_of cl_Goods_size_of L.k_Goods (by decide +kernel) (by decide +kernel) (by decide +kernel) (by decide +kernel) (by decide +kernel) (by decide +kernel) (by decide)
theorem wk_Goods_size_of {P : Program} {w : World} {K : PySem.W.Frag} {mg : Str → Option Value} {base : Heap} (L : Txt K mg) : Walk P w K mg base N_Goods_size_of (inClass (top 20) 6) 0 t_Goods_size_of b_Goods_size_of := by
  intro qual f cdv A outer s H hr
  have C : Cok (cxOf L2.CX0 P w K mg base N_Goods_size_of qual (defScope (inClass (top 20) 6)) f cdv A outer s H fun _ _ _ => False).nox 0 := ⟨rfl, sc_Goods_size_of.nd, hr⟩
  exact dss_cons (s_for C PassesOwn.never (g_tup C (gs_cons (g_nm C 2) (gs_cons (g_nm C 3) (gs_nil)))) (i_of (e_attr (ao_Goods_size_of_pairs L C) (e_v 0))) (dss_cons (ds_if (t_bool (w_and (t_val (e_isiB L.blt (is_Goods_size_of_str L) L.blt.str (e_v 1))) (w_and1 (t_cmp C .eq (e_v 1) (e_v 2))))) (dss_cons (ds_rt (e_v 3))
    (dss_nil)) (dss_nil))
    (dss_nil)))
    (dss_cons (ds_stuck)
    (dss_nil))
theorem ok_Goods_size_of {P : Program} {w : World} {K : PySem.W.Frag} {mg : Str → Option Value} {base : Heap} (L : Txt K mg) : Metho P w K mg base "Goods" "size_of" 1 f_Goods_size_of [(1, [], [.arg 0]), (0, ["name"], [.arg 0])] :=
  metho_of L.m_Goods_size_of sc_Goods_size_of rfl (wk_Goods_size_of L) (fun qual kV doc pm an cdv ct => List.forall_mem_cons.mpr ⟨BindG.args [0, 1] rfl fun us ws h1 h2 => match us, ws, h1, h2 with | [a0, a1], [], _, _ => rfl, List.forall_mem_cons.mpr ⟨BindG.args [0, 1] rfl fun us ws h1 h2 => match us, ws, h1, h2 with | [a0], [b0], _, _ => rfl, fun _ h => nomatch h⟩⟩)
/-! sizes -/
abbrev N_Goods_sizes : List Str := ["self", "size", "name"]
theorem sc_Goods_sizes : FnScope N_Goods_sizes ["self"] (defScope (inClass (top 20) 5)) := ⟨rfl, rfl, rfl, by decide +kernel, rfl, by decide +kernel, by decide +kernel⟩
theorem cl_Goods_sizes {c : Str} {ct : ClsT} (h : t_Goods_sizes.cls c = some ct) : c = "Goods" ∧ ct = c_Goods_sizes_Goods := cls1 h
theorem ct_Goods_sizes_Goods : t_Goods_sizes.cls "Goods" = some c_Goods_sizes_Goods := by show (if ("Goods" : Str) = "Goods" then some c_Goods_sizes_Goods else none) = _; exact if_pos rfl
theorem ao_Goods_sizes_pairs {X : Cx} {j : Nat} (L : Txt X.K X.mg) (C : Cok X j) : AttrOk X t_Goods_sizes "pairs" := attr_fld cl_Goods_sizes L.k_Goods rfl (by show (if ("pairs" : Str) = "kinds" then some f_Goods_kinds else if ("pairs" : Str) = "room" then some f_Goods_room else if ("pairs" : Str) = "names" then some f_Goods_names else (none : Option FM)) = _; rw [if_neg (by decide +kernel)]; rw [if_neg (by decide +kernel)]; rw [if_neg (by decide +kernel)])
theorem wk_Goods_sizes {P : Program} {w : World} {K : PySem.W.Frag} {mg : Str → Option Value} {base : Heap} (L : Txt K mg) : Walk P w K mg base N_Goods_sizes (inClass (top 20) 5) 0 t_Goods_sizes b_Goods_sizes := by
  intro qual f cdv A outer s H hr
  have C : Cok (cxOf L2.CX0 P w K mg base N_Goods_sizes qual (defScope (inClass (top 20) 5)) f cdv A outer s H fun _ _ _ => False).nox 0 := ⟨rfl, sc_Goods_sizes.nd, hr⟩
  exact dss_cons (ds_rt (e_tuplec C L.blt (as_cons (e_comp [("name", 2), ("size", 1)] C (i_of (e_attr (ao_Goods_sizes_pairs L C) (e_v 0))) (blkOk_by (N := N_Goods_sizes) (sc := defScope (inClass (top 20) 5)) (by decide +kernel)) (fun _ _ _ _ _ => g_tup (C).blk (gs_cons (g_nm (C).blk 2) (gs_cons (g_nm (C).blk 1) (gs_nil)))) (fun _ _ _ _ _ => dts_nil) (fun _ _ _ _ _ => e_v 1)) (as_nil))))
    (dss_nil)
theorem ok_Goods_sizes {P : Program} {w : World} {K : PySem.W.Frag} {mg : Str → Option Value} {base : Heap} (L : Txt K mg) : Propo P w K mg base "Goods" "sizes" 1 f_Goods_sizes [(0, [], [])] :=
  propo_of L.m_Goods_sizes sc_Goods_sizes rfl (wk_Goods_sizes L) (fun qual kV doc pm an cdv ct => List.forall_mem_cons.mpr ⟨BindG.args [0] rfl fun us ws h1 h2 => match us, ws, h1, h2 with | [a0], [], _, _ => rfl, fun _ h => nomatch h⟩)
/-! _law_words -/
abbrev N_w_words : List Str := ["_law_wide", "_law_pairs", "_law_tag", "_law_bulk"]
theorem sc_w_words : FnScope N_w_words ["_law_wide", "_law_pairs"] (defScope (top 28)) := ⟨rfl, rfl, rfl, by decide +kernel, rfl, by decide +kernel, by decide +kernel⟩
theorem cl_w_words {c : Str} {ct : ClsT} (h : t_w_words.cls c = some ct) : c = "Goods" ∧ ct = c_w_words_Goods := cls1 h
theorem ct_w_words_Goods : t_w_words.cls "Goods" = some c_w_words_Goods := by show (if ("Goods" : Str) = "Goods" then some c_w_words_Goods else none) = _; exact if_pos rfl
theorem wk_w_words {P : Program} {w : World} {K : PySem.W.Frag} {mg : Str → Option Value} {base : Heap} (L : Txt K mg) : Walk P w K mg base N_w_words (top 28) 0 t_w_words b_w_words := by
  intro qual f cdv A outer s H hr
  have C : Cok (cxOf L2.CX0 P w K mg base N_w_words qual (defScope (top 28)) f cdv A outer s H fun _ _ _ => False).nox 0 := ⟨rfl, sc_w_words.nd, hr⟩
  exact dss_cons (ds_rt (e_bin .add (e_bin .add (e_bin .add (e_str) (e_strc C L.blt (as_cons (e_v 0) (as_nil)))) (e_str)) (e_join (e_str) (as_cons (e_comp [("_law_tag", 2), ("_law_bulk", 3)] C (i_of (e_v 1)) (blkOk_by (N := N_w_words) (sc := defScope (top 28)) (by decide +kernel)) (fun _ _ _ _ _ => g_tup (C).blk (gs_cons (g_nm (C).blk 2) (gs_cons (g_nm (C).blk 3) (gs_nil)))) (fun _ _ _ _ _ => dts_nil) (fun _ _ _ _ _ => e_bin .add (e_bin .add (e_v 2) (e_str)) (e_strc (C).blk L.blt (as_cons (e_v 3) (as_nil))))) (as_nil)))))
    (dss_nil)
theorem ok_w_words {P : Program} {w : World} {K : PySem.W.Frag} {mg : Str → Option Value} {base : Heap} (L : Txt K mg) : Callee P w K mg base "_law_words" 1 f_w_words [(2, [], [.arg 0, .arg 1])] :=
  callee_of L.f_w_words sc_w_words rfl (wk_w_words L) (fun qual kV doc pm an cdv ct => List.forall_mem_cons.mpr ⟨BindG.args [0, 1] rfl fun us ws h1 h2 => match us, ws, h1, h2 with | [a0, a1], [], _, _ => rfl, fun _ h => nomatch h⟩)
/-! _law_seen_right -/
abbrev N_w_seen_right : List Str := ["_law_mine", "_law_wide", "_law_pairs", "_law_tags_here", "_law_bulks", "_law_told", "_law_tag", "_law_bulk", "_law_pair"]
theorem sc_w_seen_right : FnScope N_w_seen_right ["_law_mine", "_law_wide", "_law_pairs"] (defScope (top 29)) := ⟨rfl, rfl, rfl, by decide +kernel, rfl, by decide +kernel, by decide +kernel⟩
theorem cl_w_seen_right {c : Str} {ct : ClsT} (h : t_w_seen_right.cls c = some ct) : c = "Goods" ∧ ct = c_w_seen_right_Goods := cls1 h
theorem ct_w_seen_right_Goods : t_w_seen_right.cls "Goods" = some c_w_seen_right_Goods := by show (if ("Goods" : Str) = "Goods" then some c_w_seen_right_Goods else none) = _; exact if_pos rfl
theorem ao_w_seen_right_kinds {X : Cx} {j : Nat} (L : Txt X.K X.mg) (C : Cok X j) (hj : 2 ≤ j := by decide) : AttrOk X t_w_seen_right "kinds" := attr_prop cl_w_seen_right L.k_Goods (ok_Goods_kinds (P := X.prog) (w := X.w) (base := X.base) L) (.head _) (by show (if ("kinds" : Str) = "kinds" then some f_Goods_kinds else if ("kinds" : Str) = "room" then some f_Goods_room else if ("kinds" : Str) = "names" then some f_Goods_names else if ("kinds" : Str) = "sizes" then some f_Goods_sizes else (none : Option FM)) = _; rw [if_pos rfl]) (C.sur.mono hj)
theorem ao_w_seen_right_names {X : Cx} {j : Nat} (L : Txt X.K X.mg) (C : Cok X j) (hj : 2 ≤ j := by decide) : AttrOk X t_w_seen_right "names" := attr_prop cl_w_seen_right L.k_Goods (ok_Goods_names (P := X.prog) (w := X.w) (base := X.base) L) (.head _) (by show (if ("names" : Str) = "kinds" then some f_Goods_kinds else if ("names" : Str) = "room" then some f_Goods_room else if ("names" : Str) = "names" then some f_Goods_names else if ("names" : Str) = "sizes" then some f_Goods_sizes else (none : Option FM)) = _; rw [if_neg (by decide +kernel)]; rw [if_neg (by decide +kernel)]; rw [if_pos rfl]) (C.sur.mono hj)
theorem ao_w_seen_right_room {X : Cx} {j : Nat} (L : Txt X.K X.mg) (C : Cok X j) (hj : 2 ≤ j := by decide) : AttrOk X t_w_seen_right "room" := attr_prop cl_w_seen_right L.k_Goods (ok_Goods_room (P := X.prog) (w := X.w) (base := X.base) L) (.head _) (by show (if ("room" : Str) = "kinds" then some f_Goods_kinds else if ("room" : Str) = "room" then some f_Goods_room else if ("room" : Str) = "names" then some f_Goods_names else if ("room" : Str) = "sizes" then some f_Goods_sizes else (none : Option FM)) = _; rw [if_neg (by decide +kernel)]; rw [if_pos rfl]) (C.sur.mono hj)
theorem ao_w_seen_right_sizes {X : Cx} {j : Nat} (L : Txt X.K X.mg) (C : Cok X j) (hj : 2 ≤ j := by decide) : AttrOk X t_w_seen_right "sizes" := attr_prop cl_w_seen_right L.k_Goods (ok_Goods_sizes (P := X.prog) (w := X.w) (base := X.base) L) (.head _) (by show (if ("sizes" : Str) = "kinds" then some f_Goods_kinds else if ("sizes" : Str) = "room" then some f_Goods_room else if ("sizes" : Str) = "names" then some f_Goods_names else if ("sizes" : Str) = "sizes" then some f_Goods_sizes else (none : Option FM)) = _; rw [if_neg (by decide +kernel)]; rw [if_neg (by decide +kernel)]; rw [if_neg (by decide +kernel)]; rw [if_pos rfl]) (C.sur.mono hj)
theorem mt_w_seen_right_Goods_ddlendd : methOf t_w_seen_right "Goods" "__len__" = some f_Goods_ddlendd := meth_of ct_w_seen_right_Goods (by show (if ("__len__" : Str) = "__str__" then some f_Goods_ddstrdd else if ("__len__" : Str) = "__len__" then some f_Goods_ddlendd else if ("__len__" : Str) = "size_of" then some f_Goods_size_of else (none : Option FM)) = _; rw [if_neg (by decide +kernel)]; rw [if_pos rfl])
theorem mt_w_seen_right_Goods_ddstrdd : methOf t_w_seen_right "Goods" "__str__" = some f_Goods_ddstrdd := meth_of ct_w_seen_right_Goods (by show (if ("__str__" : Str) = "__str__" then some f_Goods_ddstrdd else if ("__str__" : Str) = "__len__" then some f_Goods_ddlendd else if ("__str__" : Str) = "size_of" then some f_Goods_size_of else (none : Option FM)) = _; rw [if_pos rfl])
theorem mt_w_seen_right_Goods_size_of : methOf t_w_seen_right "Goods" "size_of" = some f_Goods_size_of := meth_of ct_w_seen_right_Goods (by show (if ("size_of" : Str) = "__str__" then some f_Goods_ddstrdd else if ("size_of" : Str) = "__len__" then some f_Goods_ddlendd else if ("size_of" : Str) = "size_of" then some f_Goods_size_of else (none : Option FM)) = _; rw [if_neg (by decide +kernel)]; rw [if_neg (by decide +kernel)]; rw [if_pos rfl])
theorem du_w_seen_right_Goods_ddlendd {X : Cx} (L : Txt X.K X.mg) : DundG X t_w_seen_right "Goods" "__len__" 1 := dund_of (ok_Goods_ddlendd (P := X.prog) (w := X.w) (base := X.base) L) (.head _) mt_w_seen_right_Goods_ddlendd
theorem du_w_seen_right_Goods_ddstrdd {X : Cx} (L : Txt X.K X.mg) : DundG X t_w_seen_right "Goods" "__str__" 1 := dund_of (ok_Goods_ddstrdd (P := X.prog) (w := X.w) (base := X.base) L) (.head _) mt_w_seen_right_Goods_ddstrdd
theorem wk_w_seen_right {P : Program} {w : World} {K : PySem.W.Frag} {mg : Str → Option Value} {base : Heap} (L : Txt K mg) : Walk P w K mg base N_w_seen_right (top 29) 4 t_w_seen_right b_w_seen_right := by
  intro qual f cdv A outer s H hr
  have C : Cok (cxOf L2.CX0 P w K mg base N_w_seen_right qual (defScope (top 29)) f cdv A outer s H fun _ _ _ => False).nox 4 := ⟨rfl, sc_w_seen_right.nd, hr⟩
  exact dss_cons (s_par C 3 4 (as_cons (e_tuplec C L.blt (as_cons (e_comp [("_law_pair", 8)] C (i_of (e_v 2)) (blkOk_by (N := N_w_seen_right) (sc := defScope (top 29)) (by decide +kernel)) (fun _ _ _ _ _ => g_nm (C).blk 8) (fun _ _ _ _ _ => dts_nil) (fun _ _ _ _ _ => e_ix (e_v 8) (e_int))) (as_nil))) (as_cons (e_tuplec C L.blt (as_cons (e_comp [("_law_pair", 8)] C (i_of (e_v 2)) (blkOk_by (N := N_w_seen_right) (sc := defScope (top 29)) (by decide +kernel)) (fun _ _ _ _ _ => g_nm (C).blk 8) (fun _ _ _ _ _ => dts_nil) (fun _ _ _ _ _ => e_ix (e_v 8) (e_int))) (as_nil))) (as_nil))))
    (dss_cons (s_asg (g_nm C 5) (e_lst (as_cons (e_attr (ao_w_seen_right_room L C) (e_v 0)) (as_cons (e_attr (ao_w_seen_right_kinds L C) (e_v 0)) (as_cons (e_attr (ao_w_seen_right_names L C) (e_v 0)) (as_cons (e_attr (ao_w_seen_right_sizes L C) (e_v 0)) (as_cons (e_lenO L.blt (du_w_seen_right_Goods_ddlendd L) (Cok.mono C (by decide)) (e_v 0)) (as_cons (e_strO L.blt (du_w_seen_right_Goods_ddstrdd L) (Cok.mono C (by decide)) (e_v 0)) (as_cons (e_boolO L.blt (du_w_seen_right_Goods_ddlendd L) (fun C h => (L.isi_Goods C h).2.2.2.2.2) (Cok.mono C (by decide)) (e_v 0)) (as_nil))))))))))
    (dss_cons (ds_if (t_cmp C .ne (e_repr C L.blt (as_cons (e_v 5) (as_nil))) (e_repr C L.blt (as_cons (e_lst (as_cons (e_v 1) (as_cons (e_v 2) (as_cons (e_v 3) (as_cons (e_v 4) (as_cons (e_len C L.blt (as_cons (e_v 2) (as_nil))) (as_cons (e_own 12 (ok_w_words L) (.head _) C (as_cons (e_v 1) (as_cons (e_v 2) (as_nil))) (k_nil)) (as_cons (e_bl) (as_nil))))))))) (as_nil)))) (dss_cons (ds_rt (e_bl))
    (dss_nil)) (dss_nil))
    (dss_cons (s_for C PassesOwn.never (g_tup C (gs_cons (g_nm C 6) (gs_cons (g_nm C 7) (gs_nil)))) (i_of (e_v 2)) (dss_cons (ds_if (t_cmp C .ne (e_repr C L.blt (as_cons (e_lst (as_cons (e_meth (ok_Goods_size_of L) (.head _) C (e_v 0) (as_cons (e_v 6) (as_nil)) (k_nil) mt_w_seen_right_Goods_size_of) (as_cons (e_meth (ok_Goods_size_of L) (.tail _ (.head _)) C (e_v 0) (as_nil) (k_cons (e_v 6) (k_nil)) mt_w_seen_right_Goods_size_of) (as_nil)))) (as_nil))) (e_repr C L.blt (as_cons (e_lst (as_cons (e_v 7) (as_cons (e_v 7) (as_nil)))) (as_nil)))) (dss_cons (ds_rt (e_bl))
    (dss_nil)) (dss_nil))
    (dss_nil)))
    (dss_cons (ds_rt (e_bl))
    (dss_nil)))))
theorem ok_w_seen_right {P : Program} {w : World} {K : PySem.W.Frag} {mg : Str → Option Value} {base : Heap} (L : Txt K mg) : Callee P w K mg base "_law_seen_right" 5 f_w_seen_right [(3, [], [.arg 0, .arg 1, .arg 2])] :=
  callee_of L.f_w_seen_right sc_w_seen_right rfl (wk_w_seen_right L) (fun qual kV doc pm an cdv ct => List.forall_mem_cons.mpr ⟨BindG.args [0, 1, 2] rfl fun us ws h1 h2 => match us, ws, h1, h2 with | [a0, a1, a2], [], _, _ => rfl, fun _ h => nomatch h⟩)
/-! _law_word -/
abbrev N_w_word : List Str := ["_law_pool_here", "_law_some", "_law_signs", "_law_word_here", "_law_k"]
theorem sc_w_word : FnScope N_w_word ["_law_pool_here"] (defScope (top 25)) := ⟨rfl, rfl, rfl, by decide +kernel, rfl, by decide +kernel, by decide +kernel⟩
theorem cl_w_word {c : Str} {ct : ClsT} (h : t_w_word.cls c = some ct) : c = "Goods" ∧ ct = c_w_word_Goods := cls1 h
theorem ct_w_word_Goods : t_w_word.cls "Goods" = some c_w_word_Goods := by show (if ("Goods" : Str) = "Goods" then some c_w_word_Goods else none) = _; exact if_pos rfl
theorem wk_w_word {P : Program} {w : World} {K : PySem.W.Frag} {mg : Str → Option Value} {base : Heap} (L : Txt K mg) : Walk P w K mg base N_w_word (top 25) 1 t_w_word b_w_word := by
  intro qual f cdv A outer s H hr
  have C : Cok (cxOf L2.CX0 P w K mg base N_w_word qual (defScope (top 25)) f cdv A outer s H fun _ _ _ => False).nox 1 := ⟨rfl, sc_w_word.nd, hr⟩
  exact dss_cons (s_asg (g_nm C 1) (e_lst (as_cons (e_str) (as_cons (e_str) (as_cons (e_str) (as_cons (e_str) (as_cons (e_str) (as_cons (e_str) (as_cons (e_str) (as_cons (e_str) (as_cons (e_str) (as_cons (e_str) (as_nil)))))))))))))
    (dss_cons (ds_if (t_cmp C .eq (e_own 8 (ok_w_draw L) (.head _) C (as_cons (e_v 0) (as_cons (e_int) (as_nil))) (k_nil)) (e_int)) (dss_cons (ds_rt (e_ix (e_v 1) (e_own 8 (ok_w_draw L) (.head _) C (as_cons (e_v 0) (as_cons (e_int) (as_nil))) (k_nil))))
    (dss_nil)) (dss_nil))
    (dss_cons (s_asg (g_nm C 2) (e_str))
    (dss_cons (s_asg (g_nm C 3) (e_ix (e_v 2) (e_own 8 (ok_w_draw L) (.head _) C (as_cons (e_v 0) (as_cons (e_int) (as_nil))) (k_nil))))
    (dss_cons (s_for C PassesOwn.never (g_nm C 4) (i_rng L.blt (e_own 8 (ok_w_draw L) (.head _) C (as_cons (e_v 0) (as_cons (e_int) (as_nil))) (k_nil))) (dss_cons (s_asg (g_nm C 3) (e_bin .add (e_v 3) (e_ix (e_v 2) (e_own 8 (ok_w_draw L) (.head _) C (as_cons (e_v 0) (as_cons (e_int) (as_nil))) (k_nil)))))
    (dss_nil)))
    (dss_cons (ds_rt (e_v 3))
    (dss_nil))))))
theorem ok_w_word {P : Program} {w : World} {K : PySem.W.Frag} {mg : Str → Option Value} {base : Heap} (L : Txt K mg) : Callee P w K mg base "_law_word" 2 f_w_word [(1, [], [.arg 0])] :=
  callee_of L.f_w_word sc_w_word rfl (wk_w_word L) (fun qual kV doc pm an cdv ct => List.forall_mem_cons.mpr ⟨BindG.args [0] rfl fun us ws h1 h2 => match us, ws, h1, h2 with | [a0], [], _, _ => rfl, fun _ h => nomatch h⟩)
/-! _law_tags -/
abbrev N_w_tags : List Str := ["_law_pool_here", "_law_many", "_law_found", "_law_k", "_law_word_here", "_law_sign"]
theorem sc_w_tags : FnScope N_w_tags ["_law_pool_here", "_law_many"] (defScope (top 26)) := ⟨rfl, rfl, rfl, by decide +kernel, rfl, by decide +kernel, by decide +kernel⟩
theorem cl_w_tags {c : Str} {ct : ClsT} (h : t_w_tags.cls c = some ct) : c = "Goods" ∧ ct = c_w_tags_Goods := cls1 h
theorem ct_w_tags_Goods : t_w_tags.cls "Goods" = some c_w_tags_Goods := by show (if ("Goods" : Str) = "Goods" then some c_w_tags_Goods else none) = _; exact if_pos rfl
theorem wk_w_tags {P : Program} {w : World} {K : PySem.W.Frag} {mg : Str → Option Value} {base : Heap} (L : Txt K mg) : Walk P w K mg base N_w_tags (top 26) 2 t_w_tags b_w_tags := by
  intro qual f cdv A outer s H hr
  have C : Cok (cxOf L2.CX0 P w K mg base N_w_tags qual (defScope (top 26)) f cdv A outer s H fun _ _ _ => False).nox 2 := ⟨rfl, sc_w_tags.nd, hr⟩
  exact dss_cons (s_asg (g_nm C 2) (e_lst (as_nil)))
    (dss_cons (s_for C PassesOwn.never (g_nm C 3) (i_rng L.blt (e_v 1)) (dss_cons (s_asg (g_nm C 4) (e_own 9 (ok_w_word L) (.head _) C (as_cons (e_v 0) (as_nil)) (k_nil)))
    (dss_cons (s_for C PassesOwn.never (g_nm C 5) (i_of (e_str)) (dss_cons (ds_if (t_cmp C .inO (e_v 4) (e_v 2)) (dss_cons (s_asg (g_nm C 4) (e_bin .add (e_slice (e_v 4) (o_no) (o_yes (e_int))) (e_v 5)))
    (dss_nil)) (dss_nil))
    (dss_nil)))
    (dss_cons (s_ex (e_append (e_v 2) (as_cons (e_v 4) (as_nil))))
    (dss_nil)))))
    (dss_cons (ds_rt (e_sorted C L.blt (as_cons (e_v 2) (as_nil))))
    (dss_nil)))
theorem ok_w_tags {P : Program} {w : World} {K : PySem.W.Frag} {mg : Str → Option Value} {base : Heap} (L : Txt K mg) : Callee P w K mg base "_law_tags" 3 f_w_tags [(2, [], [.arg 0, .arg 1])] :=
  callee_of L.f_w_tags sc_w_tags rfl (wk_w_tags L) (fun qual kV doc pm an cdv ct => List.forall_mem_cons.mpr ⟨BindG.args [0, 1] rfl fun us ws h1 h2 => match us, ws, h1, h2 with | [a0, a1], [], _, _ => rfl, fun _ h => nomatch h⟩)
/-! _law_shape -/
abbrev N_w_shape : List Str := ["_law_pool_here", "_law_wide", "_law_tags_here", "_law_top", "_law_tag"]
theorem sc_w_shape : FnScope N_w_shape ["_law_pool_here"] (defScope (top 27)) := ⟨rfl, rfl, rfl, by decide +kernel, rfl, by decide +kernel, by decide +kernel⟩
theorem cl_w_shape {c : Str} {ct : ClsT} (h : t_w_shape.cls c = some ct) : c = "Goods" ∧ ct = c_w_shape_Goods := cls1 h
theorem ct_w_shape_Goods : t_w_shape.cls "Goods" = some c_w_shape_Goods := by show (if ("Goods" : Str) = "Goods" then some c_w_shape_Goods else none) = _; exact if_pos rfl
theorem wk_w_shape {P : Program} {w : World} {K : PySem.W.Frag} {mg : Str → Option Value} {base : Heap} (L : Txt K mg) : Walk P w K mg base N_w_shape (top 27) 3 t_w_shape b_w_shape := by
  intro qual f cdv A outer s H hr
  have C : Cok (cxOf L2.CX0 P w K mg base N_w_shape qual (defScope (top 27)) f cdv A outer s H fun _ _ _ => False).nox 3 := ⟨rfl, sc_w_shape.nd, hr⟩
  exact dss_cons (s_asg (g_nm C 1) (e_bin .add (e_int) (e_own 8 (ok_w_draw L) (.head _) C (as_cons (e_v 0) (as_cons (e_int) (as_nil))) (k_nil))))
    (dss_cons (s_asg (g_nm C 2) (e_own 10 (ok_w_tags L) (.head _) C (as_cons (e_v 0) (as_cons (e_bin .add (e_int) (e_own 8 (ok_w_draw L) (.head _) C (as_cons (e_v 0) (as_cons (e_int) (as_nil))) (k_nil))) (as_nil))) (k_nil)))
    (dss_cons (s_asg (g_nm C 3) (e_ix (e_lst (as_cons (e_v 1) (as_cons (e_bin .add (e_int) (e_bin .fdiv (e_v 1) (e_int))) (as_cons (e_int) (as_nil))))) (e_own 8 (ok_w_draw L) (.head _) C (as_cons (e_v 0) (as_cons (e_int) (as_nil))) (k_nil))))
    (dss_cons (ds_rt (e_tup (as_cons (e_v 1) (as_cons (e_tuplec C L.blt (as_cons (e_comp [("_law_tag", 4)] C (i_of (e_v 2)) (blkOk_by (N := N_w_shape) (sc := defScope (top 27)) (by decide +kernel)) (fun _ _ _ _ _ => g_nm (C).blk 4) (fun _ _ _ _ _ => dts_nil) (fun _ _ _ _ _ => e_tup (as_cons (e_v 4) (as_cons (e_bin .add (e_int) (e_own 8 (ok_w_draw L) (.head _) (C).blk (as_cons (e_v 0) (as_cons (e_v 3) (as_nil))) (k_nil))) (as_nil))))) (as_nil))) (as_nil)))))
    (dss_nil))))
theorem ok_w_shape {P : Program} {w : World} {K : PySem.W.Frag} {mg : Str → Option Value} {base : Heap} (L : Txt K mg) : Callee P w K mg base "_law_shape" 4 f_w_shape [(1, [], [.arg 0])] :=
  callee_of L.f_w_shape sc_w_shape rfl (wk_w_shape L) (fun qual kV doc pm an cdv ct => List.forall_mem_cons.mpr ⟨BindG.args [0] rfl fun us ws h1 h2 => match us, ws, h1, h2 with | [a0], [], _, _ => rfl, fun _ h => nomatch h⟩)
/-! _law_right -/
abbrev N_w_right : List Str := ["_law_pool_here", "_law_wide", "_law_pairs", "_law_mine", "_law_twin", "_law_back", "_law_some", "_law_far", "_law_others_here", "_law_thing"]
theorem sc_w_right : FnScope N_w_right ["_law_pool_here"] (defScope (top 31)) := ⟨rfl, rfl, rfl, by decide +kernel, rfl, by decide +kernel, by decide +kernel⟩
theorem cl_w_right {c : Str} {ct : ClsT} (h : t_w_right.cls c = some ct) : c = "Goods" ∧ ct = c_w_right_Goods := cls1 h
theorem ct_w_right_Goods : t_w_right.cls "Goods" = some c_w_right_Goods := by show (if ("Goods" : Str) = "Goods" then some c_w_right_Goods else none) = _; exact if_pos rfl
theorem ao_w_right_kinds {X : Cx} {j : Nat} (L : Txt X.K X.mg) (C : Cok X j) (hj : 2 ≤ j := by decide) : AttrOk X t_w_right "kinds" := attr_prop cl_w_right L.k_Goods (ok_Goods_kinds (P := X.prog) (w := X.w) (base := X.base) L) (.head _) (by show (if ("kinds" : Str) = "kinds" then some f_Goods_kinds else if ("kinds" : Str) = "room" then some f_Goods_room else if ("kinds" : Str) = "names" then some f_Goods_names else if ("kinds" : Str) = "sizes" then some f_Goods_sizes else (none : Option FM)) = _; rw [if_pos rfl]) (C.sur.mono hj)
theorem ao_w_right_room {X : Cx} {j : Nat} (L : Txt X.K X.mg) (C : Cok X j) (hj : 2 ≤ j := by decide) : AttrOk X t_w_right "room" := attr_prop cl_w_right L.k_Goods (ok_Goods_room (P := X.prog) (w := X.w) (base := X.base) L) (.head _) (by show (if ("room" : Str) = "kinds" then some f_Goods_kinds else if ("room" : Str) = "room" then some f_Goods_room else if ("room" : Str) = "names" then some f_Goods_names else if ("room" : Str) = "sizes" then some f_Goods_sizes else (none : Option FM)) = _; rw [if_neg (by decide +kernel)]; rw [if_pos rfl]) (C.sur.mono hj)
theorem eq_w_right_Goods {X : Cx} {j : Nat} (L : Txt X.K X.mg) (C : Cok X j) : EqG X t_w_right "Goods" 1 := eq_of cl_w_right ct_w_right_Goods L.k_Goods L.isi_Goods (ok_Goods_ddeqdd (P := X.prog) (w := X.w) (base := X.base) L) (.head _) rfl
theorem mt_w_right_Goods_ddstrdd : methOf t_w_right "Goods" "__str__" = some f_Goods_ddstrdd := meth_of ct_w_right_Goods (by show (if ("__str__" : Str) = "__str__" then some f_Goods_ddstrdd else if ("__str__" : Str) = "__len__" then some f_Goods_ddlendd else if ("__str__" : Str) = "size_of" then some f_Goods_size_of else (none : Option FM)) = _; rw [if_pos rfl])
theorem cm_w_right_Goods_read : ∃ ct, t_w_right.cls "Goods" = some ct ∧ ct.cmet "read" = some f_Goods_read := ⟨_, ct_w_right_Goods, (by show (if ("read" : Str) = "read" then some f_Goods_read else (none : Option FM)) = _; rw [if_pos rfl])⟩
theorem du_w_right_Goods_ddstrdd {X : Cx} (L : Txt X.K X.mg) : DundG X t_w_right "Goods" "__str__" 1 := dund_of (ok_Goods_ddstrdd (P := X.prog) (w := X.w) (base := X.base) L) (.head _) mt_w_right_Goods_ddstrdd
theorem wk_w_right {P : Program} {w : World} {K : PySem.W.Frag} {mg : Str → Option Value} {base : Heap} (L : Txt K mg) : Walk P w K mg base N_w_right (top 31) 6 t_w_right b_w_right := by
  intro qual f cdv A outer s H hr
  have C : Cok (cxOf L2.CX0 P w K mg base N_w_right qual (defScope (top 31)) f cdv A outer s H fun _ _ _ => False).nox 6 := ⟨rfl, sc_w_right.nd, hr⟩
  exact dss_cons (s_asg (g_tup C (gs_cons (g_nm C 1) (gs_cons (g_nm C 2) (gs_nil)))) (e_own 11 (ok_w_shape L) (.head _) C (as_cons (e_v 0) (as_nil)) (k_nil)))
    (dss_cons (s_asg (g_tup C (gs_cons (g_nm C 3) (gs_cons (g_nm C 4) (gs_cons (g_nm C 5) (gs_nil))))) (e_tup (as_cons (e_make (ok_Goods_ddinitdd L) (.head _) C (as_cons (e_v 1) (as_cons (e_v 2) (as_nil))) (k_nil) ct_w_right_Goods rfl) (as_cons (e_make (ok_Goods_ddinitdd L) (.tail _ (.head _)) C (as_nil) (k_cons (e_v 2) (k_cons (e_v 1) (k_nil))) ct_w_right_Goods rfl) (as_cons (e_cmeth (ok_Goods_read L) (.head _) C (as_cons (e_own 12 (ok_w_words L) (.head _) C (as_cons (e_v 1) (as_cons (e_v 2) (as_nil))) (k_nil)) (as_nil)) (k_nil) cm_w_right_Goods_read) (as_nil))))))
    (dss_cons (s_for C PassesOwn.never (g_nm C 6) (i_of (e_lst (as_cons (e_v 3) (as_cons (e_v 4) (as_cons (e_v 5) (as_cons (e_cmeth (ok_Goods_read L) (.tail _ (.head _)) C (as_nil) (k_cons (e_strO L.blt (du_w_right_Goods_ddstrdd L) (Cok.mono C (by decide)) (e_v 4)) (k_nil)) cm_w_right_Goods_read) (as_cons (e_make (ok_Goods_ddinitdd L) (.head _) C (as_cons (e_attr (ao_w_right_room L C) (e_v 5)) (as_cons (e_attr (ao_w_right_kinds L C) (e_v 5)) (as_nil))) (k_nil) ct_w_right_Goods rfl) (as_nil)))))))) (dss_cons (ds_if (t_bool (w_or (t_not (t_val (e_own 13 (ok_w_seen_right L) (.head _) C (as_cons (e_v 6) (as_cons (e_v 1) (as_cons (e_v 2) (as_nil)))) (k_nil)))) (w_or (t_cmp C .isNot (e_eqO false rfl (eq_w_right_Goods L C) (Cok.mono C (by decide)) (e_v 6) (e_v 3)) (e_bl)) (w_or1 (t_cmp C .isNot (e_eqO true rfl (eq_w_right_Goods L C) (Cok.mono C (by decide)) (e_v 3) (e_v 6)) (e_bl)))))) (dss_cons (ds_rt (e_bl))
    (dss_nil)) (dss_nil))
    (dss_nil)))
    (dss_cons (s_for C PassesOwn.never (g_tup C (gs_cons (g_nm C 7) (gs_cons (g_nm C 8) (gs_nil)))) (i_of (e_own 14 (ok_w_others L) (.head _) C (as_cons (e_v 0) (as_cons (e_v 1) (as_cons (e_v 2) (as_nil)))) (k_nil))) (dss_cons (s_asg (g_nm C 6) (e_make (ok_Goods_ddinitdd L) (.head _) C (as_cons (e_v 7) (as_cons (e_v 8) (as_nil))) (k_nil) ct_w_right_Goods rfl))
    (dss_cons (ds_if (t_bool (w_or (t_cmp C .isNot (e_eqO false rfl (eq_w_right_Goods L C) (Cok.mono C (by decide)) (e_v 6) (e_v 3)) (e_bl)) (w_or (t_cmp C .isNot (e_eqO true rfl (eq_w_right_Goods L C) (Cok.mono C (by decide)) (e_v 3) (e_v 6)) (e_bl)) (w_or1 (t_not (t_val (e_own 13 (ok_w_seen_right L) (.head _) C (as_cons (e_v 6) (as_cons (e_v 7) (as_cons (e_v 8) (as_nil)))) (k_nil)))))))) (dss_cons (ds_rt (e_bl))
    (dss_nil)) (dss_nil))
    (dss_nil))))
    (dss_cons (s_asg (g_nm C 6) (e_lst (as_cons (e_non) (as_cons (e_v 1) (as_cons (e_strO L.blt (du_w_right_Goods_ddstrdd L) (Cok.mono C (by decide)) (e_v 3)) (as_cons (e_v 2) (as_cons (e_tup (as_cons (e_v 1) (as_cons (e_v 2) (as_nil)))) (as_cons (e_lst (as_cons (e_v 1) (as_cons (e_v 2) (as_nil)))) (as_nil)))))))))
    (dss_cons (ds_rt (e_and (e_cmp C .eq (e_comp [("_law_thing", 9)] C (i_of (e_v 6)) (blkOk_by (N := N_w_right) (sc := defScope (top 31)) (by decide +kernel)) (fun _ _ _ _ _ => g_nm (C).blk 9) (fun _ _ _ _ _ => dts_nil) (fun _ _ _ _ _ => e_eqO false rfl (eq_w_right_Goods L (C).blk) (Cok.mono (C).blk (by decide)) (e_v 3) (e_v 9))) (e_bin .mul (e_lst (as_cons (e_bl) (as_nil))) (e_int))) (e_and1 (e_cmp C .eq (e_comp [("_law_thing", 9)] C (i_of (e_v 6)) (blkOk_by (N := N_w_right) (sc := defScope (top 31)) (by decide +kernel)) (fun _ _ _ _ _ => g_nm (C).blk 9) (fun _ _ _ _ _ => dts_nil) (fun _ _ _ _ _ => e_eqO true rfl (eq_w_right_Goods L (C).blk) (Cok.mono (C).blk (by decide)) (e_v 3) (e_v 9))) (e_bin .mul (e_lst (as_cons (e_bl) (as_nil))) (e_int))))))
    (dss_nil))))))
theorem ok_w_right {P : Program} {w : World} {K : PySem.W.Frag} {mg : Str → Option Value} {base : Heap} (L : Txt K mg) : Callee P w K mg base "_law_right" 7 f_w_right [(1, [], [.arg 0])] :=
  callee_of L.f_w_right sc_w_right rfl (wk_w_right L) (fun qual kV doc pm an cdv ct => List.forall_mem_cons.mpr ⟨BindG.args [0] rfl fun us ws h1 h2 => match us, ws, h1, h2 with | [a0], [], _, _ => rfl, fun _ h => nomatch h⟩)
/-! law -/
abbrev N_law : List Str := ["_law_cells", "_law_k"]
theorem sc_law : FnScope N_law ["_law_cells"] (defScope (top 32)) := ⟨rfl, rfl, rfl, by decide +kernel, rfl, by decide +kernel, by decide +kernel⟩
theorem cl_law {c : Str} {ct : ClsT} (h : t_law.cls c = some ct) : c = "Goods" ∧ ct = c_law_Goods := cls1 h
theorem ct_law_Goods : t_law.cls "Goods" = some c_law_Goods := by show (if ("Goods" : Str) = "Goods" then some c_law_Goods else none) = _; exact if_pos rfl
theorem wk_law {P : Program} {w : World} {K : PySem.W.Frag} {mg : Str → Option Value} {base : Heap} (L : Txt K mg) : Walk P w K mg base N_law (top 32) 7 t_law b_law := by
  intro qual f cdv A outer s H hr
  have C : Cok (cxOf L2.CX0 P w K mg base N_law qual (defScope (top 32)) f cdv A outer s H fun _ _ _ => False).nox 7 := ⟨rfl, sc_law.nd, hr⟩
  exact dss_cons (s_for C PassesOwn.never (g_nm C 1) (i_rng L.blt (e_max C L.blt (as_cons (e_int) (as_cons (e_min C L.blt (as_cons (e_len C L.blt (as_cons (e_v 0) (as_nil))) (as_cons (e_int) (as_nil)))) (as_nil))))) (dss_cons (ds_if (t_not (t_val (e_own 15 (ok_w_right L) (.head _) C (as_cons (e_own 7 (ok_w_pool L) (.head _) C (as_cons (e_own 6 (ok_w_cell L) (.head _) C (as_cons (e_v 0) (as_cons (e_v 1) (as_nil))) (k_nil)) (as_nil)) (k_nil)) (as_nil)) (k_nil)))) (dss_cons (ds_rt (e_bl))
    (dss_nil)) (dss_nil))
    (dss_nil)))
    (dss_cons (ds_rt (e_bl))
    (dss_nil))
theorem ok_law {P : Program} {w : World} {K : PySem.W.Frag} {mg : Str → Option Value} {base : Heap} (L : Txt K mg) : Callee P w K mg base "law" 8 f_law [(1, [], [.arg 0])] :=
  callee_of L.f_law sc_law rfl (wk_law L) (fun qual kV doc pm an cdv ct => List.forall_mem_cons.mpr ⟨BindG.args [0] rfl fun us ws h1 h2 => match us, ws, h1, h2 with | [a0], [], _, _ => rfl, fun _ h => nomatch h⟩)
end K
end
section
set_option Elab.async false
set_option linter.all false
set_option maxRecDepth 100000
set_option maxHeartbeats 0
namespace K
open PySem PySem.Spec PyProof.Rows L2 DL
theorem mk_txt {K : PySem.W.Frag} {h : Heap} {mg : Str → Option Value} (X : K.In h) (G : h.Ns mainGlobals mg)
  {t1 : Tok}
  {t2 : Tok}
  {t3 : Tok}
  {t4 : Tok}
  {t5 : Tok}
  {f6 : Addr} {oc6 kV6 doc6 pm6 cd6 ct6 : Value} {od6 an6 : Option Addr} {sl6 : Array (Option Value)}
  {f7 : Addr} {oc7 kV7 doc7 pm7 cd7 ct7 : Value} {od7 an7 : Option Addr} {sl7 : Array (Option Value)}
  {f8 : Addr} {oc8 kV8 doc8 pm8 cd8 ct8 : Value} {od8 an8 : Option Addr} {sl8 : Array (Option Value)}
  {f9 : Addr} {oc9 kV9 doc9 pm9 cd9 ct9 : Value} {od9 an9 : Option Addr} {sl9 : Array (Option Value)}
  {f10 : Addr} {oc10 kV10 doc10 pm10 cd10 ct10 : Value} {od10 an10 : Option Addr} {sl10 : Array (Option Value)}
  {f11 : Addr} {oc11 kV11 doc11 pm11 cd11 ct11 : Value} {od11 an11 : Option Addr} {sl11 : Array (Option Value)}
  {f12 : Addr} {oc12 kV12 doc12 pm12 cd12 ct12 : Value} {od12 an12 : Option Addr} {sl12 : Array (Option Value)}
  {f13 : Addr} {oc13 kV13 doc13 pm13 cd13 ct13 : Value} {od13 an13 : Option Addr} {sl13 : Array (Option Value)}
  {f14 : Addr} {oc14 kV14 doc14 pm14 cd14 ct14 : Value} {od14 an14 : Option Addr} {sl14 : Array (Option Value)}
  {f15 : Addr} {oc15 kV15 doc15 pm15 cd15 ct15 : Value} {od15 an15 : Option Addr} {sl15 : Array (Option Value)}
  {f16 : Addr} {oc16 kV16 doc16 pm16 cd16 ct16 : Value} {od16 an16 : Option Addr} {sl16 : Array (Option Value)}
  {f17 : Addr} {oc17 kV17 doc17 pm17 cd17 ct17 : Value} {od17 an17 : Option Addr} {sl17 : Array (Option Value)}
  {f18 : Addr} {oc18 kV18 doc18 pm18 cd18 ct18 : Value} {od18 an18 : Option Addr} {sl18 : Array (Option Value)}
  {f19 : Addr} {oc19 kV19 doc19 pm19 cd19 ct19 : Value} {od19 an19 : Option Addr} {sl19 : Array (Option Value)}
  {f20 : Addr} {oc20 kV20 doc20 pm20 cd20 ct20 : Value} {od20 an20 : Option Addr} {sl20 : Array (Option Value)}
  {f21 : Addr} {oc21 kV21 doc21 pm21 cd21 ct21 : Value} {od21 an21 : Option Addr} {sl21 : Array (Option Value)}
  {f22 : Addr} {oc22 kV22 doc22 pm22 cd22 ct22 : Value} {od22 an22 : Option Addr} {sl22 : Array (Option Value)}
  {C_Goods : Addr}
  {f23 : Addr} {oc23 kV23 doc23 pm23 cd23 ct23 : Value} {od23 an23 : Option Addr} {sl23 : Array (Option Value)}
  {f24 : Addr} {oc24 kV24 doc24 pm24 cd24 ct24 : Value} {od24 an24 : Option Addr} {sl24 : Array (Option Value)}
  {f25 : Addr} {oc25 kV25 doc25 pm25 cd25 ct25 : Value} {od25 an25 : Option Addr} {sl25 : Array (Option Value)}
  {f26 : Addr} {oc26 kV26 doc26 pm26 cd26 ct26 : Value} {od26 an26 : Option Addr} {sl26 : Array (Option Value)}
  {pr26 : Addr} {rs26 : List Value}
  {f27 : Addr} {oc27 kV27 doc27 pm27 cd27 ct27 : Value} {od27 an27 : Option Addr} {sl27 : Array (Option Value)}
  {pr27 : Addr} {rs27 : List Value}
  {f28 : Addr} {oc28 kV28 doc28 pm28 cd28 ct28 : Value} {od28 an28 : Option Addr} {sl28 : Array (Option Value)}
  {pr28 : Addr} {rs28 : List Value}
  {f29 : Addr} {oc29 kV29 doc29 pm29 cd29 ct29 : Value} {od29 an29 : Option Addr} {sl29 : Array (Option Value)}
  {f30 : Addr} {oc30 kV30 doc30 pm30 cd30 ct30 : Value} {od30 an30 : Option Addr} {sl30 : Array (Option Value)}
  {pr30 : Addr} {rs30 : List Value}
  {f31 : Addr} {oc31 kV31 doc31 pm31 cd31 ct31 : Value} {od31 an31 : Option Addr} {sl31 : Array (Option Value)}
  {f32 : Addr} {oc32 kV32 doc32 pm32 cd32 ct32 : Value} {od32 an32 : Option Addr} {sl32 : Array (Option Value)}
  {pr32 : Addr} {rs32 : List Value}
  (z_len : PySem.W.nsIn K mainGlobals "len" = some none)
  (z_abs : PySem.W.nsIn K mainGlobals "abs" = some none)
  (z_max : PySem.W.nsIn K mainGlobals "max" = some none)
  (z_min : PySem.W.nsIn K mainGlobals "min" = some none)
  (z_sum : PySem.W.nsIn K mainGlobals "sum" = some none)
  (z_any : PySem.W.nsIn K mainGlobals "any" = some none)
  (z_all : PySem.W.nsIn K mainGlobals "all" = some none)
  (z_sorted : PySem.W.nsIn K mainGlobals "sorted" = some none)
  (z_repr : PySem.W.nsIn K mainGlobals "repr" = some none)
  (z_int : PySem.W.nsIn K mainGlobals "int" = some none)
  (z_str : PySem.W.nsIn K mainGlobals "str" = some none)
  (z_list : PySem.W.nsIn K mainGlobals "list" = some none)
  (z_tuple : PySem.W.nsIn K mainGlobals "tuple" = some none)
  (z_bool : PySem.W.nsIn K mainGlobals "bool" = some none)
  (z_isinstance : PySem.W.nsIn K mainGlobals "isinstance" = some none)
  (z_enumerate : PySem.W.nsIn K mainGlobals "enumerate" = some none)
  (z_zip : PySem.W.nsIn K mainGlobals "zip" = some none)
  (z_range : PySem.W.nsIn K mainGlobals "range" = some none)
  (g_MOST_ROOM : PySem.W.nsIn K mainGlobals "MOST_ROOM" = some (some (.int 60 t1)))
  (g_MOST_KINDS : PySem.W.nsIn K mainGlobals "MOST_KINDS" = some (some (.int 6 t2)))
  (g_LETTERS : PySem.W.nsIn K mainGlobals "LETTERS" = some (some (.str "abcdefghijklmnopqrstuvwxyz" t3)))
  (g_DIGITS : PySem.W.nsIn K mainGlobals "DIGITS" = some (some (.str "0123456789" t4)))
  (g_MOST_SIGNS : PySem.W.nsIn K mainGlobals "MOST_SIGNS" = some (some (.int 8 t5)))
  (a6 : PySem.W.nsIn K mainGlobals "_law_cell" = some (some (.ref f6)))
  (l6 : K.lookup f6 = some ⟨oc6, od6, .func (PySem.W.fnOf "_law_cell" "_law_cell" (defArgs (top 22)) (defBody (top 22)) (defScope (top 22)) .none kV6 doc6 pm6 an6 cd6 ct6), sl6⟩)
  (c6 : PySem.W.codeIn K cd6 "_law_cell" = true)
  (p6 : PySem.W.keepIn K (.ref f6) = true)
  (a7 : PySem.W.nsIn K mainGlobals "_law_pool" = some (some (.ref f7)))
  (l7 : K.lookup f7 = some ⟨oc7, od7, .func (PySem.W.fnOf "_law_pool" "_law_pool" (defArgs (top 23)) (defBody (top 23)) (defScope (top 23)) .none kV7 doc7 pm7 an7 cd7 ct7), sl7⟩)
  (c7 : PySem.W.codeIn K cd7 "_law_pool" = true)
  (p7 : PySem.W.keepIn K (.ref f7) = true)
  (a8 : PySem.W.nsIn K mainGlobals "is_integer" = some (some (.ref f8)))
  (l8 : K.lookup f8 = some ⟨oc8, od8, .func (PySem.W.fnOf "is_integer" "is_integer" (defArgs (top 13)) (defBody (top 13)) (defScope (top 13)) .none kV8 doc8 pm8 an8 cd8 ct8), sl8⟩)
  (c8 : PySem.W.codeIn K cd8 "is_integer" = true)
  (p8 : PySem.W.keepIn K (.ref f8) = true)
  (a9 : PySem.W.nsIn K mainGlobals "is_name" = some (some (.ref f9)))
  (l9 : K.lookup f9 = some ⟨oc9, od9, .func (PySem.W.fnOf "is_name" "is_name" (defArgs (top 14)) (defBody (top 14)) (defScope (top 14)) .none kV9 doc9 pm9 an9 cd9 ct9), sl9⟩)
  (c9 : PySem.W.codeIn K cd9 "is_name" = true)
  (p9 : PySem.W.keepIn K (.ref f9) = true)
  (a10 : PySem.W.nsIn K mainGlobals "is_kind" = some (some (.ref f10)))
  (l10 : K.lookup f10 = some ⟨oc10, od10, .func (PySem.W.fnOf "is_kind" "is_kind" (defArgs (top 17)) (defBody (top 17)) (defScope (top 17)) .none kV10 doc10 pm10 an10 cd10 ct10), sl10⟩)
  (c10 : PySem.W.codeIn K cd10 "is_kind" = true)
  (p10 : PySem.W.keepIn K (.ref f10) = true)
  (a11 : PySem.W.nsIn K mainGlobals "check_kinds" = some (some (.ref f11)))
  (l11 : K.lookup f11 = some ⟨oc11, od11, .func (PySem.W.fnOf "check_kinds" "check_kinds" (defArgs (top 18)) (defBody (top 18)) (defScope (top 18)) .none kV11 doc11 pm11 an11 cd11 ct11), sl11⟩)
  (c11 : PySem.W.codeIn K cd11 "check_kinds" = true)
  (p11 : PySem.W.keepIn K (.ref f11) = true)
  (a12 : PySem.W.nsIn K mainGlobals "number_in" = some (some (.ref f12)))
  (l12 : K.lookup f12 = some ⟨oc12, od12, .func (PySem.W.fnOf "number_in" "number_in" (defArgs (top 15)) (defBody (top 15)) (defScope (top 15)) .none kV12 doc12 pm12 an12 cd12 ct12), sl12⟩)
  (c12 : PySem.W.codeIn K cd12 "number_in" = true)
  (p12 : PySem.W.keepIn K (.ref f12) = true)
  (a13 : PySem.W.nsIn K mainGlobals "pair_in" = some (some (.ref f13)))
  (l13 : K.lookup f13 = some ⟨oc13, od13, .func (PySem.W.fnOf "pair_in" "pair_in" (defArgs (top 19)) (defBody (top 19)) (defScope (top 19)) .none kV13 doc13 pm13 an13 cd13 ct13), sl13⟩)
  (c13 : PySem.W.codeIn K cd13 "pair_in" = true)
  (p13 : PySem.W.keepIn K (.ref f13) = true)
  (a14 : PySem.W.nsIn K mainGlobals "_law_draw" = some (some (.ref f14)))
  (l14 : K.lookup f14 = some ⟨oc14, od14, .func (PySem.W.fnOf "_law_draw" "_law_draw" (defArgs (top 24)) (defBody (top 24)) (defScope (top 24)) .none kV14 doc14 pm14 an14 cd14 ct14), sl14⟩)
  (c14 : PySem.W.codeIn K cd14 "_law_draw" = true)
  (p14 : PySem.W.keepIn K (.ref f14) = true)
  (a15 : PySem.W.nsIn K mainGlobals "_law_others" = some (some (.ref f15)))
  (l15 : K.lookup f15 = some ⟨oc15, od15, .func (PySem.W.fnOf "_law_others" "_law_others" (defArgs (top 30)) (defBody (top 30)) (defScope (top 30)) .none kV15 doc15 pm15 an15 cd15 ct15), sl15⟩)
  (c15 : PySem.W.codeIn K cd15 "_law_others" = true)
  (p15 : PySem.W.keepIn K (.ref f15) = true)
  (a16 : PySem.W.nsIn K mainGlobals "_law_words" = some (some (.ref f16)))
  (l16 : K.lookup f16 = some ⟨oc16, od16, .func (PySem.W.fnOf "_law_words" "_law_words" (defArgs (top 28)) (defBody (top 28)) (defScope (top 28)) .none kV16 doc16 pm16 an16 cd16 ct16), sl16⟩)
  (c16 : PySem.W.codeIn K cd16 "_law_words" = true)
  (p16 : PySem.W.keepIn K (.ref f16) = true)
  (a17 : PySem.W.nsIn K mainGlobals "_law_seen_right" = some (some (.ref f17)))
  (l17 : K.lookup f17 = some ⟨oc17, od17, .func (PySem.W.fnOf "_law_seen_right" "_law_seen_right" (defArgs (top 29)) (defBody (top 29)) (defScope (top 29)) .none kV17 doc17 pm17 an17 cd17 ct17), sl17⟩)
  (c17 : PySem.W.codeIn K cd17 "_law_seen_right" = true)
  (p17 : PySem.W.keepIn K (.ref f17) = true)
  (a18 : PySem.W.nsIn K mainGlobals "_law_word" = some (some (.ref f18)))
  (l18 : K.lookup f18 = some ⟨oc18, od18, .func (PySem.W.fnOf "_law_word" "_law_word" (defArgs (top 25)) (defBody (top 25)) (defScope (top 25)) .none kV18 doc18 pm18 an18 cd18 ct18), sl18⟩)
  (c18 : PySem.W.codeIn K cd18 "_law_word" = true)
  (p18 : PySem.W.keepIn K (.ref f18) = true)
  (a19 : PySem.W.nsIn K mainGlobals "_law_tags" = some (some (.ref f19)))
  (l19 : K.lookup f19 = some ⟨oc19, od19, .func (PySem.W.fnOf "_law_tags" "_law_tags" (defArgs (top 26)) (defBody (top 26)) (defScope (top 26)) .none kV19 doc19 pm19 an19 cd19 ct19), sl19⟩)
  (c19 : PySem.W.codeIn K cd19 "_law_tags" = true)
  (p19 : PySem.W.keepIn K (.ref f19) = true)
  (a20 : PySem.W.nsIn K mainGlobals "_law_shape" = some (some (.ref f20)))
  (l20 : K.lookup f20 = some ⟨oc20, od20, .func (PySem.W.fnOf "_law_shape" "_law_shape" (defArgs (top 27)) (defBody (top 27)) (defScope (top 27)) .none kV20 doc20 pm20 an20 cd20 ct20), sl20⟩)
  (c20 : PySem.W.codeIn K cd20 "_law_shape" = true)
  (p20 : PySem.W.keepIn K (.ref f20) = true)
  (a21 : PySem.W.nsIn K mainGlobals "_law_right" = some (some (.ref f21)))
  (l21 : K.lookup f21 = some ⟨oc21, od21, .func (PySem.W.fnOf "_law_right" "_law_right" (defArgs (top 31)) (defBody (top 31)) (defScope (top 31)) .none kV21 doc21 pm21 an21 cd21 ct21), sl21⟩)
  (c21 : PySem.W.codeIn K cd21 "_law_right" = true)
  (p21 : PySem.W.keepIn K (.ref f21) = true)
  (a22 : PySem.W.nsIn K mainGlobals "law" = some (some (.ref f22)))
  (l22 : K.lookup f22 = some ⟨oc22, od22, .func (PySem.W.fnOf "law" "law" (defArgs (top 32)) (defBody (top 32)) (defScope (top 32)) .none kV22 doc22 pm22 an22 cd22 ct22), sl22⟩)
  (c22 : PySem.W.codeIn K cd22 "law" = true)
  (p22 : PySem.W.keepIn K (.ref f22) = true)
  (A_Goods : PySem.W.nsIn K mainGlobals "Goods" = some (some (.ref C_Goods)))
  (x0_Goods : PySem.W.plainGet K C_Goods Str.empty = true)
  (x1_Goods : PySem.W.hasDictIn K C_Goods = true)
  (x2_Goods : PySem.W.plainOver K C_Goods = true)
  (x3_Goods : PySem.W.findIn K (.ref C_Goods) "__setattr__" = some (some (.builtin "object.__setattr__")))
  (x4_Goods : PySem.W.findIn K (.ref C_Goods) "__class__" = some (some (.builtin "object.__class__")))
  (x5_Goods : PySem.W.specialIn K (.builtin "object.__class__") "__get__" = some (some (.builtin "getset_descriptor.__get__")))
  (x6_Goods : PySem.W.takesIn K (.builtin "object.__class__") = some true)
  (x7_Goods : PySem.W.mroIn K C_Goods (.type "object") = some true)
  (n_Goods_space : PySem.W.findIn K (.ref C_Goods) "space" = some none)
  (n_Goods_pairs : PySem.W.findIn K (.ref C_Goods) "pairs" = some none)
  (k_Goods_bool : PySem.W.subIn K (.ref C_Goods) (.type "bool") = some false)
  (k_Goods_int : PySem.W.subIn K (.ref C_Goods) (.type "int") = some false)
  (k_Goods_str : PySem.W.subIn K (.ref C_Goods) (.type "str") = some false)
  (k_Goods_tuple : PySem.W.subIn K (.ref C_Goods) (.type "tuple") = some false)
  (u0_Goods : PySem.W.isClsIn K C_Goods = true)
  (u1_Goods : PySem.W.typeIn K (.ref C_Goods) = some (.type "type"))
  (q_Goods_NoneType : PySem.W.subIn K (.type "NoneType") (.ref C_Goods) = some false)
  (q_Goods_bool : PySem.W.subIn K (.type "bool") (.ref C_Goods) = some false)
  (q_Goods_int : PySem.W.subIn K (.type "int") (.ref C_Goods) = some false)
  (q_Goods_str : PySem.W.subIn K (.type "str") (.ref C_Goods) = some false)
  (q_Goods_tuple : PySem.W.subIn K (.type "tuple") (.ref C_Goods) = some false)
  (q_Goods_list : PySem.W.subIn K (.type "list") (.ref C_Goods) = some false)
  (r_Goods_NoneType : PySem.W.notFirst K C_Goods (.type "NoneType") = true)
  (r_Goods_bool : PySem.W.notFirst K C_Goods (.type "bool") = true)
  (r_Goods_int : PySem.W.notFirst K C_Goods (.type "int") = true)
  (r_Goods_str : PySem.W.notFirst K C_Goods (.type "str") = true)
  (r_Goods_tuple : PySem.W.notFirst K C_Goods (.type "tuple") = true)
  (r_Goods_list : PySem.W.notFirst K C_Goods (.type "list") = true)
  (s1_Goods : PySem.W.notFirst K C_Goods (.ref C_Goods) = true)
  (s2_Goods : PySem.W.findIn K (.ref C_Goods) "__ne__" = some (some (.builtin "object.__ne__")))
  (s3_Goods : PySem.W.findIn K (.ref C_Goods) "__bool__" = some none)
  (a23 : PySem.W.findIn K (.ref C_Goods) "__eq__" = some (some (.ref f23)))
  (l23 : K.lookup f23 = some ⟨oc23, od23, .func (PySem.W.fnOf "__eq__" "Goods.__eq__" (defArgs (inClass (top 20) 7)) (defBody (inClass (top 20) 7)) (defScope (inClass (top 20) 7)) .none kV23 doc23 pm23 an23 cd23 ct23), sl23⟩)
  (c23 : PySem.W.codeIn K cd23 "Goods.__eq__" = true)
  (p23 : PySem.W.keepIn K (.ref f23) = true)
  (i23 : PySem.W.isFn K (.ref f23) = true)
  (a24 : PySem.W.findIn K (.ref C_Goods) "__init__" = some (some (.ref f24)))
  (l24 : K.lookup f24 = some ⟨oc24, od24, .func (PySem.W.fnOf "__init__" "Goods.__init__" (defArgs (inClass (top 20) 0)) (defBody (inClass (top 20) 0)) (defScope (inClass (top 20) 0)) .none kV24 doc24 pm24 an24 cd24 ct24), sl24⟩)
  (c24 : PySem.W.codeIn K cd24 "Goods.__init__" = true)
  (p24 : PySem.W.keepIn K (.ref f24) = true)
  (i24 : PySem.W.isFn K (.ref f24) = true)
  (m24 : PySem.W.makesIn K C_Goods = true)
  (y24 : PySem.W.keepIn K (.ref C_Goods) = true)
  (a25 : PySem.W.findIn K (.ref C_Goods) "__str__" = some (some (.ref f25)))
  (l25 : K.lookup f25 = some ⟨oc25, od25, .func (PySem.W.fnOf "__str__" "Goods.__str__" (defArgs (inClass (top 20) 8)) (defBody (inClass (top 20) 8)) (defScope (inClass (top 20) 8)) .none kV25 doc25 pm25 an25 cd25 ct25), sl25⟩)
  (c25 : PySem.W.codeIn K cd25 "Goods.__str__" = true)
  (p25 : PySem.W.keepIn K (.ref f25) = true)
  (i25 : PySem.W.isFn K (.ref f25) = true)
  (a26 : PySem.W.findIn K (.ref C_Goods) "kinds" = some (some (.ref pr26)))
  (b26 : PySem.W.specialIn K (.ref pr26) "__get__" = some (some (.builtin "property.__get__")))
  (d26 : PySem.W.takesIn K (.ref pr26) = some true)
  (e26 : PySem.W.recIn K pr26 "property" = some (.ref f26 :: rs26))
  (l26 : K.lookup f26 = some ⟨oc26, od26, .func (PySem.W.fnOf "kinds" "Goods.kinds" (defArgs (inClass (top 20) 3)) (defBody (inClass (top 20) 3)) (defScope (inClass (top 20) 3)) .none kV26 doc26 pm26 an26 cd26 ct26), sl26⟩)
  (c26 : PySem.W.codeIn K cd26 "Goods.kinds" = true)
  (p26 : PySem.W.keepIn K (.ref f26) = true)
  (a27 : PySem.W.readsIn K C_Goods (.type "type") = true)
  (b27 : PySem.W.specialIn K (.ref C_Goods) "__getattribute__" = some (some (.builtin "type.__getattribute__")))
  (d27 : PySem.W.findCls K (.ref C_Goods) (.type "type") "read" = some (.get (.builtin "classmethod.__get__") (.ref pr27) .none (.ref C_Goods)))
  (e27 : PySem.W.recIn K pr27 "classmethod" = some (.ref f27 :: rs27))
  (h27 : PySem.W.fnIn K f27 = true)
  (l27 : K.lookup f27 = some ⟨oc27, od27, .func (PySem.W.fnOf "read" "Goods.read" (defArgs (inClass (top 20) 1)) (defBody (inClass (top 20) 1)) (defScope (inClass (top 20) 1)) .none kV27 doc27 pm27 an27 cd27 ct27), sl27⟩)
  (c27 : PySem.W.codeIn K cd27 "Goods.read" = true)
  (p27 : PySem.W.keepIn K (.ref f27) = true)
  (a28 : PySem.W.findIn K (.ref C_Goods) "room" = some (some (.ref pr28)))
  (b28 : PySem.W.specialIn K (.ref pr28) "__get__" = some (some (.builtin "property.__get__")))
  (d28 : PySem.W.takesIn K (.ref pr28) = some true)
  (e28 : PySem.W.recIn K pr28 "property" = some (.ref f28 :: rs28))
  (l28 : K.lookup f28 = some ⟨oc28, od28, .func (PySem.W.fnOf "room" "Goods.room" (defArgs (inClass (top 20) 2)) (defBody (inClass (top 20) 2)) (defScope (inClass (top 20) 2)) .none kV28 doc28 pm28 an28 cd28 ct28), sl28⟩)
  (c28 : PySem.W.codeIn K cd28 "Goods.room" = true)
  (p28 : PySem.W.keepIn K (.ref f28) = true)
  (a29 : PySem.W.findIn K (.ref C_Goods) "__len__" = some (some (.ref f29)))
  (l29 : K.lookup f29 = some ⟨oc29, od29, .func (PySem.W.fnOf "__len__" "Goods.__len__" (defArgs (inClass (top 20) 9)) (defBody (inClass (top 20) 9)) (defScope (inClass (top 20) 9)) .none kV29 doc29 pm29 an29 cd29 ct29), sl29⟩)
  (c29 : PySem.W.codeIn K cd29 "Goods.__len__" = true)
  (p29 : PySem.W.keepIn K (.ref f29) = true)
  (i29 : PySem.W.isFn K (.ref f29) = true)
  (a30 : PySem.W.findIn K (.ref C_Goods) "names" = some (some (.ref pr30)))
  (b30 : PySem.W.specialIn K (.ref pr30) "__get__" = some (some (.builtin "property.__get__")))
  (d30 : PySem.W.takesIn K (.ref pr30) = some true)
  (e30 : PySem.W.recIn K pr30 "property" = some (.ref f30 :: rs30))
  (l30 : K.lookup f30 = some ⟨oc30, od30, .func (PySem.W.fnOf "names" "Goods.names" (defArgs (inClass (top 20) 4)) (defBody (inClass (top 20) 4)) (defScope (inClass (top 20) 4)) .none kV30 doc30 pm30 an30 cd30 ct30), sl30⟩)
  (c30 : PySem.W.codeIn K cd30 "Goods.names" = true)
  (p30 : PySem.W.keepIn K (.ref f30) = true)
  (a31 : PySem.W.findIn K (.ref C_Goods) "size_of" = some (some (.ref f31)))
  (l31 : K.lookup f31 = some ⟨oc31, od31, .func (PySem.W.fnOf "size_of" "Goods.size_of" (defArgs (inClass (top 20) 6)) (defBody (inClass (top 20) 6)) (defScope (inClass (top 20) 6)) .none kV31 doc31 pm31 an31 cd31 ct31), sl31⟩)
  (c31 : PySem.W.codeIn K cd31 "Goods.size_of" = true)
  (p31 : PySem.W.keepIn K (.ref f31) = true)
  (i31 : PySem.W.isFn K (.ref f31) = true)
  (a32 : PySem.W.findIn K (.ref C_Goods) "sizes" = some (some (.ref pr32)))
  (b32 : PySem.W.specialIn K (.ref pr32) "__get__" = some (some (.builtin "property.__get__")))
  (d32 : PySem.W.takesIn K (.ref pr32) = some true)
  (e32 : PySem.W.recIn K pr32 "property" = some (.ref f32 :: rs32))
  (l32 : K.lookup f32 = some ⟨oc32, od32, .func (PySem.W.fnOf "sizes" "Goods.sizes" (defArgs (inClass (top 20) 5)) (defBody (inClass (top 20) 5)) (defScope (inClass (top 20) 5)) .none kV32 doc32 pm32 an32 cd32 ct32), sl32⟩)
  (c32 : PySem.W.codeIn K cd32 "Goods.sizes" = true)
  (p32 : PySem.W.keepIn K (.ref f32) = true) : Txt K mg :=
  ⟨⟨PySem.W.mg_none_of X G z_len, PySem.W.mg_none_of X G z_abs, PySem.W.mg_none_of X G z_max, PySem.W.mg_none_of X G z_min, PySem.W.mg_none_of X G z_sum, PySem.W.mg_none_of X G z_any, PySem.W.mg_none_of X G z_all, PySem.W.mg_none_of X G z_sorted, PySem.W.mg_none_of X G z_repr, PySem.W.mg_none_of X G z_int, PySem.W.mg_none_of X G z_str, PySem.W.mg_none_of X G z_list, PySem.W.mg_none_of X G z_tuple, PySem.W.mg_none_of X G z_bool, PySem.W.mg_none_of X G z_isinstance, PySem.W.mg_none_of X G z_enumerate, PySem.W.mg_none_of X G z_zip, PySem.W.mg_none_of X G z_range⟩,
  ⟨_, PySem.W.mg_of X G g_MOST_ROOM⟩,
  ⟨_, PySem.W.mg_of X G g_MOST_KINDS⟩,
  ⟨_, PySem.W.mg_of X G g_LETTERS⟩,
  ⟨_, PySem.W.mg_of X G g_DIGITS⟩,
  ⟨_, PySem.W.mg_of X G g_MOST_SIGNS⟩,
  ⟨_, _, PySem.W.mg_of X G a6, fun_mk (st := (top 22)) l6 c6 p6⟩,
  ⟨_, _, PySem.W.mg_of X G a7, fun_mk (st := (top 23)) l7 c7 p7⟩,
  ⟨_, _, PySem.W.mg_of X G a8, fun_mk (st := (top 13)) l8 c8 p8⟩,
  ⟨_, _, PySem.W.mg_of X G a9, fun_mk (st := (top 14)) l9 c9 p9⟩,
  ⟨_, _, PySem.W.mg_of X G a10, fun_mk (st := (top 17)) l10 c10 p10⟩,
  ⟨_, _, PySem.W.mg_of X G a11, fun_mk (st := (top 18)) l11 c11 p11⟩,
  ⟨_, _, PySem.W.mg_of X G a12, fun_mk (st := (top 15)) l12 c12 p12⟩,
  ⟨_, _, PySem.W.mg_of X G a13, fun_mk (st := (top 19)) l13 c13 p13⟩,
  ⟨_, _, PySem.W.mg_of X G a14, fun_mk (st := (top 24)) l14 c14 p14⟩,
  ⟨_, _, PySem.W.mg_of X G a15, fun_mk (st := (top 30)) l15 c15 p15⟩,
  ⟨_, _, PySem.W.mg_of X G a16, fun_mk (st := (top 28)) l16 c16 p16⟩,
  ⟨_, _, PySem.W.mg_of X G a17, fun_mk (st := (top 29)) l17 c17 p17⟩,
  ⟨_, _, PySem.W.mg_of X G a18, fun_mk (st := (top 25)) l18 c18 p18⟩,
  ⟨_, _, PySem.W.mg_of X G a19, fun_mk (st := (top 26)) l19 c19 p19⟩,
  ⟨_, _, PySem.W.mg_of X G a20, fun_mk (st := (top 27)) l20 c20 p20⟩,
  ⟨_, _, PySem.W.mg_of X G a21, fun_mk (st := (top 31)) l21 c21 p21⟩,
  ⟨_, _, PySem.W.mg_of X G a22, fun_mk (st := (top 32)) l22 c22 p22⟩,
  ⟨_, PySem.W.mg_of X G A_Goods, ⟨⟨x0_Goods, x1_Goods, x2_Goods, x3_Goods⟩, x4_Goods, x5_Goods, x6_Goods, x7_Goods⟩, List.forall_mem_cons.mpr ⟨n_Goods_space, List.forall_mem_cons.mpr ⟨n_Goods_pairs, fun _ h => nomatch h⟩⟩, List.forall_mem_cons.mpr ⟨kit_cb k_Goods_bool (by decide +kernel), List.forall_mem_cons.mpr ⟨kit_cb k_Goods_int (by decide +kernel), List.forall_mem_cons.mpr ⟨kit_cb k_Goods_str (by decide +kernel), List.forall_mem_cons.mpr ⟨kit_cb k_Goods_tuple (by decide +kernel), fun _ h => nomatch h⟩⟩⟩⟩⟩,
  (fun C h => by
    have e := h.symm.trans (PySem.W.mg_of X G A_Goods)
    cases e
    exact ⟨List.forall_mem_cons.mpr ⟨kit_bc u0_Goods u1_Goods q_Goods_NoneType, List.forall_mem_cons.mpr ⟨kit_bc u0_Goods u1_Goods q_Goods_bool, List.forall_mem_cons.mpr ⟨kit_bc u0_Goods u1_Goods q_Goods_int, List.forall_mem_cons.mpr ⟨kit_bc u0_Goods u1_Goods q_Goods_str, List.forall_mem_cons.mpr ⟨kit_bc u0_Goods u1_Goods q_Goods_tuple, List.forall_mem_cons.mpr ⟨kit_bc u0_Goods u1_Goods q_Goods_list, fun _ h => nomatch h⟩⟩⟩⟩⟩⟩, List.forall_mem_cons.mpr ⟨r_Goods_NoneType, List.forall_mem_cons.mpr ⟨r_Goods_bool, List.forall_mem_cons.mpr ⟨r_Goods_int, List.forall_mem_cons.mpr ⟨r_Goods_str, List.forall_mem_cons.mpr ⟨r_Goods_tuple, List.forall_mem_cons.mpr ⟨r_Goods_list, fun _ h => nomatch h⟩⟩⟩⟩⟩⟩, kit_self, s1_Goods, s2_Goods, s3_Goods⟩),
  ⟨_, _, _, PySem.W.mg_of X G A_Goods, ⟨x0_Goods, x1_Goods, x2_Goods, x3_Goods⟩, ⟨a23, i23, p23⟩, fun_mk (st := (inClass (top 20) 7)) l23 c23 p23⟩,
  ⟨_, _, _, PySem.W.mg_of X G A_Goods, y24, ⟨m24, a24, i24, y24⟩, fun_mk (st := (inClass (top 20) 0)) l24 c24 p24⟩,
  ⟨_, _, _, PySem.W.mg_of X G A_Goods, ⟨x0_Goods, x1_Goods, x2_Goods, x3_Goods⟩, ⟨a25, i25, p25⟩, fun_mk (st := (inClass (top 20) 8)) l25 c25 p25⟩,
  ⟨_, _, _, _, PySem.W.mg_of X G A_Goods, ⟨a26, b26, d26, ⟨_, e26⟩⟩, fun_mk (st := (inClass (top 20) 3)) l26 c26 p26⟩,
  ⟨_, _, _, _, _, PySem.W.mg_of X G A_Goods, ⟨a27, b27⟩, ⟨d27, ⟨_, e27⟩, h27⟩, fun_mk (st := (inClass (top 20) 1)) l27 c27 p27⟩,
  ⟨_, _, _, _, PySem.W.mg_of X G A_Goods, ⟨a28, b28, d28, ⟨_, e28⟩⟩, fun_mk (st := (inClass (top 20) 2)) l28 c28 p28⟩,
  ⟨_, _, _, PySem.W.mg_of X G A_Goods, ⟨x0_Goods, x1_Goods, x2_Goods, x3_Goods⟩, ⟨a29, i29, p29⟩, fun_mk (st := (inClass (top 20) 9)) l29 c29 p29⟩,
  ⟨_, _, _, _, PySem.W.mg_of X G A_Goods, ⟨a30, b30, d30, ⟨_, e30⟩⟩, fun_mk (st := (inClass (top 20) 4)) l30 c30 p30⟩,
  ⟨_, _, _, PySem.W.mg_of X G A_Goods, ⟨x0_Goods, x1_Goods, x2_Goods, x3_Goods⟩, ⟨a31, i31, p31⟩, fun_mk (st := (inClass (top 20) 6)) l31 c31 p31⟩,
  ⟨_, _, _, _, PySem.W.mg_of X G A_Goods, ⟨a32, b32, d32, ⟨_, e32⟩⟩, fun_mk (st := (inClass (top 20) 5)) l32 c32 p32⟩⟩
theorem told_walk {l : PySem.W.OpenLaw} {q : Program} {loose : List Str} {XP : (Str → Option Value) → Heap → Prop} {YP : World → Heap → Prop} {d : DefRec} {K : Params → PySem.W.Frag} (hn : l.most = some 63) (hdf : d.params.defaults = []) (hd : d.name = "law")
    (hY : ∀ (w : World) (h : Heap), YP w h → (K w.params).In h) (F : ∀ (w : World) (mg : Str → Option Value) (h : Heap), (K w.params).In h → h.Ns mainGlobals mg → Txt (K w.params) mg)
    (told : ∀ ns : List Int, ns.length ≤ 63 → ∃ M', f_law [.fl (ns.map D.int)] [] = some (.ok (.bl true), M')) : PySem.W.WalkO q loose XP YP l.row.toRowW d [] (fun f vs => PySem.call f vs) := by
  refine walk_ofG (x := "_law_cells") (k := 8) (n := 63) hn (by decide) hdf ⟨⟨rfl, by decide, by decide⟩, rfl⟩ hY (fun w mg fa h KX G hmg => ?_) told
  have L := F w mg h KX G
  rw [hd] at hmg
  exact law_fd L.f_law hmg sc_law rfl (fun base => wk_law L) fun _ _ _ _ _ _ _ u => rfl
end K
end
section
set_option Elab.async false
set_option linter.all false
set_option maxRecDepth 100000
set_option maxHeartbeats 4000000
namespace K
open PySem DL
theorem is_integer_int (M : Mem) (i : Int) : f_is_integer [.int i] M = some (.ok (.bl true), M) := by
  simp [f_is_integer, runDef_eq, b_is_integer, isiD, insOk, isAny, isInst, bnd_at]
def drawA (a c : Int) : Int := ((a * 48271 + (c + 1) * 104729 + 7) % 2147483587 * ((a * 48271 + (c + 1) * 104729 + 7) % 2147483587) + 30011 * (c + 1)) % 2147483549
theorem draw_eq (M : Mem) (n : Nat) (a b c : Int) (k : Int) (h : M[n]? = some (.lst [.int a, .int b, .int c])) (hk : 1 ≤ k) (hk2 : k ≤ 1000) :
    f_w_draw [.ref n, .int k] M = some (.ok (.int (if 0 < b then b % k else drawA a c / 64 % k)), M.set n (.lst [.int (drawA a c), .int (if 0 < b then b / k else b), .int (c + 1)])) := by
  have h1 := get_set h
  have k1 : 0 < k := by omega
  have k2 : k < 1073741824 := by omega
  have s1 : ∀ z : Int, -18446744073709551616 < z % 2147483587 := fun z => by omega
  have s2 : ∀ z : Int, z % 2147483587 < 18446744073709551616 := fun z => by omega
  by_cases hb : 0 < b
  · simp [f_w_draw, runDef_eq, b_w_draw, bnd_at, ix_ref, setIx_ref, h, h1, L2.atI, L2.ixN, small, hb, k1, k2, s1, s2, drawA]
  · simp [f_w_draw, runDef_eq, b_w_draw, bnd_at, ix_ref, setIx_ref, h, h1, L2.atI, L2.ixN, small, hb, k1, k2, s1, s2, drawA]
theorem draw_spec {M : Mem} {n : Nat} {k : Int} (h : ∃ o, M[n]? = some o ∧ isPool o) (hk : 1 ≤ k) (hk2 : k ≤ 1000) : ∃ d M', f_w_draw [.ref n, .int k] M = some (.ok (.int d), M') ∧ 0 ≤ d ∧ d < k ∧ Grow n M M' ∧ M'.length = M.length := by
  obtain ⟨o, h, a, b, c, rfl⟩ := h
  have k1 : 0 < k := by omega
  refine ⟨_, _, draw_eq M n a b c k h hk hk2, ?_, ?_, ⟨⟨_, get_set h _, _, _, _, rfl⟩, fun i o hi e => by rw [List.getElem?_set_ne (Ne.symm hi)]; exact e, by simp⟩, by simp⟩
  · split
    · exact Int.emod_nonneg _ (by omega)
    · exact Int.emod_nonneg _ (by omega)
  · split
    · exact Int.emod_lt_of_pos _ k1
    · exact Int.emod_lt_of_pos _ k1
theorem pool_spec (M : Mem) (c : Int) : ∃ M', f_w_pool [.int c] M = some (.ok (.ref M.length), M') ∧ ∃ o, M' = M ++ [o] ∧ isPool o := by
  refine ⟨M ++ [.lst [.int (c % 2147483629), .int (if c < 0 ∨ 1000000000000000000 ≤ c then (if c < 0 then -c else c) else 0), .int 0]], ?_, _, rfl, _, _, _, rfl⟩
  by_cases h1 : c < 0
  · simp [f_w_pool, runDef_eq, b_w_pool, bnd_at, lstD_eq, sizeLine_eq, h1]
  · by_cases h2 : 1000000000000000000 ≤ c
    · simp [f_w_pool, runDef_eq, b_w_pool, bnd_at, lstD_eq, sizeLine_eq, h1, h2]
    · simp [f_w_pool, runDef_eq, b_w_pool, bnd_at, lstD_eq, sizeLine_eq, h1, h2]
end K
end
section
set_option Elab.async false
set_option linter.all false
set_option maxRecDepth 100000
set_option maxHeartbeats 4000000
namespace K
open PySem DL
abbrev LET : List Nat := ("abcdefghijklmnopqrstuvwxyz" : Str).cps.toList
abbrev DIG : List Nat := ("0123456789" : Str).cps.toList
structure GoodW (w : Str) : Prop where
  lo : 1 ≤ w.cps.toList.length
  hi : w.cps.toList.length ≤ 8
  hd : ∃ c r, w.cps.toList = c :: r ∧ c ∈ LET
  al : ∀ c ∈ w.cps.toList, c ∈ LET ∨ c ∈ DIG
instance (w : Str) : Decidable (GoodW w) :=
  match h : w.cps.toList with
  | [] => isFalse fun g => by obtain ⟨c, r, e, _⟩ := g.hd; rw [h] at e; cases e
  | c :: r => if p : (c :: r).length ≤ 8 ∧ c ∈ LET ∧ ∀ x ∈ c :: r, x ∈ LET ∨ x ∈ DIG then isTrue ⟨by rw [h]; simp, by rw [h]; exact p.1, ⟨c, r, h, p.2.1⟩, by rw [h]; exact p.2.2⟩
    else isFalse fun g => p ⟨by rw [← h]; exact g.hi, by obtain ⟨c', r', e, q⟩ := g.hd; rw [h] at e; cases e; exact q, by rw [← h]; exact g.al⟩
abbrev SOME : List Str := ["room", "lane", "in", "take", "shut", "mark", "first", "last", "fullest", "emptiest"]
theorem some_good : ∀ w ∈ SOME, GoodW w := by decide +kernel
abbrev SIGNS : List Nat := ("abcdefghijklmnopqrstuvwxyz0123456789" : Str).cps.toList
theorem signs_let : ∀ i : Nat, i < 26 → ∃ c, SIGNS[i]? = some c ∧ c ∈ LET := by decide +kernel
theorem signs_all : ∀ i : Nat, i < 36 → ∃ c, SIGNS[i]? = some c ∧ (c ∈ LET ∨ c ∈ DIG) := by decide +kernel
end K
end
section
set_option Elab.async false
set_option linter.all false
set_option maxRecDepth 100000
set_option maxHeartbeats 4000000
namespace K
open PySem DL
abbrev someL : List D := [.str "room", .str "lane", .str "in", .str "take", .str "shut", .str "mark", .str "first", .str "last", .str "fullest", .str "emptiest"]
theorem some_at (k : Int) (h0 : 0 ≤ k) (h1 : k < 10) : ∃ w, L2.atI someL k = some (.str w) ∧ GoodW w := by
  rw [at_pos h0 (by simpa using h1)]
  have : ∀ i : Nat, i < 10 → ∃ w, w ∈ SOME ∧ someL[i]? = some (.str w) := by
    intro i hi
    match i, hi with
    | 0, _ => exact ⟨_, by decide +kernel, rfl⟩
    | 1, _ => exact ⟨_, by decide +kernel, rfl⟩
    | 2, _ => exact ⟨_, by decide +kernel, rfl⟩
    | 3, _ => exact ⟨_, by decide +kernel, rfl⟩
    | 4, _ => exact ⟨_, by decide +kernel, rfl⟩
    | 5, _ => exact ⟨_, by decide +kernel, rfl⟩
    | 6, _ => exact ⟨_, by decide +kernel, rfl⟩
    | 7, _ => exact ⟨_, by decide +kernel, rfl⟩
    | 8, _ => exact ⟨_, by decide +kernel, rfl⟩
    | 9, _ => exact ⟨_, by decide +kernel, rfl⟩
    | n + 10, h => omega
  obtain ⟨w, hw, e⟩ := this k.toNat (by omega)
  exact ⟨w, e, some_good w hw⟩
theorem sign_at (k : Int) (h0 : 0 ≤ k) (h1 : k < 36) : ∃ c, L2.atI SIGNS k = some c ∧ (c ∈ LET ∨ c ∈ DIG) ∧ (k < 26 → c ∈ LET) := by
  have hl : SIGNS.length = 36 := by decide +kernel
  rw [at_pos h0 (by rw [hl]; exact h1)]
  obtain ⟨c, e, q⟩ := signs_all k.toNat (by omega)
  refine ⟨c, e, q, fun h => ?_⟩
  obtain ⟨c', e', q'⟩ := signs_let k.toNat (by omega)
  rw [e] at e'
  cases e'
  exact q'
abbrev S36 : Str := "abcdefghijklmnopqrstuvwxyz0123456789"
theorem len36' : S36.length ≤ 16777216 := by decide +kernel
theorem len36 : S36.length ≤ sizeLine := by rw [sizeLine_eq]; decide +kernel
theorem word_loop {M : Mem} {n : Nat} {m : D} (k : Nat) (hk : k < 8) (h : ∃ o, M[n]? = some o ∧ isPool o) (w : Str) (h1 : w.cps.toList.length = 1) (hd : ∃ c r, w.cps.toList = c :: r ∧ c ∈ LET) (al : ∀ c ∈ w.cps.toList, c ∈ LET ∨ c ∈ DIG) :
    ∃ v w' M', forL none (bodyF t_w_word (.nm 4) l_w_word_1) (rangeD 0 k) [some (.ref n), some m, some (.str S36), some (.str w), none] M = some (.ok (.nx [some (.ref n), some m, some (.str S36), some (.str w'), v]), M') ∧ GoodW w' ∧ Grow n M M' := by
  obtain ⟨env', M', e, w', v, rfl, hl, hd', al', G⟩ := forL_0 (g := none) (turn := bodyF t_w_word (.nm 4) l_w_word_1) (ds := rangeD 0 k) (M := M) (env := [some (.ref n), some m, some (.str S36), some (.str w), none])
    (fun i env M' => ∃ w' v, env = [some (.ref n), some m, some (.str S36), some (.str w'), v] ∧ w'.cps.toList.length = i + 1 ∧ (∃ c r, w'.cps.toList = c :: r ∧ c ∈ LET) ∧ (∀ c ∈ w'.cps.toList, c ∈ LET ∨ c ∈ DIG) ∧ Grow n M M')
    (fun _ _ _ _ => rfl) ⟨w, none, rfl, h1, hd, al, .refl h⟩ (by
      rintro i d env M1 hi ⟨w', v, rfl, hl, ⟨c0, r0, e0, hc0⟩, al', G⟩
      have hik : i < k := by
        have := (List.getElem?_eq_some_iff.mp hi).1
        rwa [rangeD_len] at this
      obtain ⟨d1, M2, e1, d10, d16, G1, _⟩ := draw_spec (M := M1) (n := n) (k := 36) G.pool (by decide) (by decide)
      obtain ⟨c, ec, hc, _⟩ := sign_at d1 d10 d16
      have eq : (w' ++ (⟨#[c]⟩ : Str)).cps.toList = w'.cps.toList ++ [c] := TL.tl_append _ _
      refine ⟨_, M2, ?_, w' ++ ⟨#[c]⟩, some d, rfl, ?_, ?_, ?_, G.trans G1⟩
      · have hs : w'.length + (⟨#[c]⟩ : Str).length ≤ sizeLine := by
          rw [sizeLine_eq]
          have : w'.length = w'.cps.toList.length := by simp [Str.length]
          have : (⟨#[c]⟩ : Str).length = 1 := rfl
          omega
        simp [bodyF, l_w_word_1, bnd_at, e1, ix_str, len36, ec, hs]
      · rw [eq]; simp [hl]
      · rw [eq]; exact ⟨c0, r0 ++ [c], by simp [e0], hc0⟩
      · rw [eq]
        intro x hx
        rcases List.mem_append.mp hx with q | q
        · exact al' x q
        · have : x = c := by simpa using q
          rw [this]; exact hc)
  rw [rangeD_len] at hl
  exact ⟨v, w', M', e, ⟨by omega, by omega, hd', al'⟩, G⟩
theorem word_spec {M : Mem} {n : Nat} (h : ∃ o, M[n]? = some o ∧ isPool o) : ∃ w M', f_w_word [.ref n] M = some (.ok (.str w), M') ∧ GoodW w ∧ Grow n M M' := by
  have p1 : ∃ o, (M ++ [O.lst someL])[n]? = some o ∧ isPool o := let ⟨o, e, p⟩ := h; ⟨o, get_app e _, p⟩
  have G0 : Grow n M (M ++ [O.lst someL]) := (Grow.refl h).app _
  have hn : n < M.length := let ⟨o, e, _⟩ := h; (List.getElem?_eq_some_iff.mp e).1
  obtain ⟨d1, M2, e1, d10, d16, G1, l1⟩ := draw_spec (k := 6) p1 (by decide) (by decide)
  have x2 : M2[M.length]? = some (O.lst someL) := G1.keep _ _ (Nat.ne_of_gt hn) get_new
  obtain ⟨d2, M3, e2, d20, d26, G2, l2⟩ := draw_spec (k := 10) G1.pool (by decide) (by decide)
  have x3 : M3[M.length]? = some (O.lst someL) := G2.keep _ _ (Nat.ne_of_gt hn) x2
  by_cases hz : d1 = 0
  · obtain ⟨w, ew, gw⟩ := some_at d2 d20 d26
    refine ⟨w, M3, ?_, gw, (G0.trans G1).trans G2⟩
    subst hz
    simp [f_w_word, runDef_eq, b_w_word, bnd_at, lstD_eq, sizeLine_eq, e1, e2, ix_ref, x3, ew]
  · obtain ⟨d3, M4, e3, d30, d36, G3, l3⟩ := draw_spec (k := 26) G1.pool (by decide) (by decide)
    obtain ⟨d4, M5, e4, d40, d46, G4, l4⟩ := draw_spec (k := 8) G3.pool (by decide) (by decide)
    obtain ⟨c, ec, _, hc⟩ := sign_at d3 d30 (by omega)
    obtain ⟨v, w, M6, e5, gw, G5⟩ := word_loop (m := .ref M.length) d4.toNat (by omega) G4.pool ⟨#[c]⟩ rfl ⟨c, [], rfl, hc d36⟩ (fun x hx => .inl (by
      have : x = c := by simpa using hx
      rw [this]
      exact hc d36))
    refine ⟨w, M6, ?_, gw, (((G0.trans G1).trans G3).trans G4).trans G5⟩
    have hr : inR d4 = true := by unfold inR; simp; omega
    simp [f_w_word, runDef_eq, b_w_word, bnd_at, lstD_eq, sizeLine_eq, e1, e3, e4, ix_str, hz, ec, hr, e5, len36']
end K
end
section
set_option Elab.async false
set_option linter.all false
set_option maxRecDepth 100000
set_option maxHeartbeats 4000000
namespace K
open PySem DL
theorem nodup_sub {α : Type} [DecidableEq α] : ∀ {l m : List α}, l.Nodup → (∀ x ∈ l, x ∈ m) → l.length ≤ m.length
  | [], _, _, _ => Nat.zero_le _
  | a :: l, m, h, s => by
    have ha := s a List.mem_cons_self
    have h2 := List.nodup_cons.mp h
    have := nodup_sub (l := l) (m := m.erase a) h2.2 fun x hx => by
      have hne : x ≠ a := fun e => h2.1 (by rw [← e]; exact hx)
      exact (List.mem_erase_of_ne hne).mpr (s x (List.mem_cons_of_mem _ hx))
    rw [List.length_erase_of_mem ha] at this
    have hp : 0 < m.length := List.length_pos_of_mem ha
    simp only [List.length_cons]
    omega
/-- one repair of a name that is taken -/
def fixW (fs : List Str) (w : Str) (c : Nat) : Str := if fs.any (fun f => f == w) = true then L2.cutS w none (some 7) ++ ⟨#[c]⟩ else w
def fixAll (fs : List Str) (w : Str) : List Nat → Str
  | [] => w
  | c :: cs => fixAll fs (fixW fs w c) cs
theorem any_mem {fs : List Str} {w : Str} : fs.any (fun f => f == w) = true ↔ w ∈ fs := by
  rw [List.any_eq_true]
  constructor
  · rintro ⟨x, hx, e⟩
    have : x = w := by simpa using e
    rw [← this]; exact hx
  · exact fun h => ⟨w, h, by simp⟩
theorem cut7 (w : Str) : (L2.cutS w none (some 7)).cps.toList = w.cps.toList.take 7 := by
  have e : (L2.cutS w none (some 7)).cps.toList = (w.cps.toList.drop (HT.sIx w.length 0 none)).take (HT.sIx w.length w.length (some 7) - HT.sIx w.length 0 none) := by
    unfold L2.cutS
    simp
  rw [e]
  have a : HT.sIx w.length 0 none = 0 := rfl
  have b : HT.sIx w.length w.length (some 7) = min 7 w.length := by unfold HT.sIx; simp
  have c : w.length = w.cps.toList.length := by simp [Str.length]
  rw [a, b, c, List.drop_zero, Nat.sub_zero]
  rcases Nat.le_total 7 w.cps.toList.length with h | h
  · rw [Nat.min_eq_left h]
  · rw [Nat.min_eq_right h, List.take_length, List.take_of_length_le h]
theorem fix_list (w : Str) (c : Nat) : (L2.cutS w none (some 7) ++ (⟨#[c]⟩ : Str)).cps.toList = w.cps.toList.take 7 ++ [c] := by
  have := TL.tl_append (L2.cutS w none (some 7)) ⟨#[c]⟩
  show TL.tl _ = _
  rw [this]
  show (L2.cutS w none (some 7)).cps.toList ++ [c] = _
  rw [cut7]
theorem fix_good {fs : List Str} {w : Str} {c : Nat} (g : GoodW w) (hc : c ∈ LET) : GoodW (fixW fs w c) := by
  unfold fixW
  split
  · obtain ⟨c0, r, e, h0⟩ := g.hd
    refine ⟨by rw [fix_list]; simp, by rw [fix_list]; simp; omega, ⟨c0, (r.take 6) ++ [c], by rw [fix_list, e]; rfl, h0⟩, ?_⟩
    rw [fix_list]
    intro x hx
    rcases List.mem_append.mp hx with q | q
    · exact g.al x (List.mem_of_mem_take q)
    · have : x = c := by simpa using q
      rw [this]; exact .inl hc
  · exact g
theorem fixAll_good {fs : List Str} : ∀ {cs : List Nat} {w : Str}, GoodW w → (∀ c ∈ cs, c ∈ LET) → GoodW (fixAll fs w cs)
  | [], w, g, _ => g
  | c :: cs, w, g, h => by
    show GoodW (fixAll fs (fixW fs w c) cs)
    exact fixAll_good (fix_good g (h c List.mem_cons_self)) fun x hx => h x (List.mem_cons_of_mem _ hx)
theorem fixAll_stay {fs : List Str} : ∀ {cs : List Nat} {w : Str}, w ∉ fs → fixAll fs w cs = w
  | [], _, _ => rfl
  | c :: cs, w, h => by
    have e : fixW fs w c = w := by unfold fixW; rw [if_neg (fun z => h (any_mem.mp z))]
    show fixAll fs (fixW fs w c) cs = w
    rw [e]; exact fixAll_stay h
theorem fixAll_in {fs : List Str} : ∀ {cs : List Nat} {w : Str}, fixAll fs w cs ∈ fs → w ∈ fs ∧ ∀ c ∈ cs, c ∈ fs.map fun f => f.cps.toList.getLastD 0
  | [], w, h => ⟨h, fun _ z => by cases z⟩
  | c :: cs, w, h => by
    obtain ⟨h1, h2⟩ := fixAll_in (cs := cs) (w := fixW fs w c) h
    by_cases hw : w ∈ fs
    · refine ⟨hw, fun x hx => ?_⟩
      rcases List.mem_cons.mp hx with e | hx
      · subst e
        have e : fixW fs w x = L2.cutS w none (some 7) ++ ⟨#[x]⟩ := by unfold fixW; rw [if_pos (any_mem.mpr hw)]
        rw [e] at h1
        exact List.mem_map.mpr ⟨_, h1, by rw [fix_list]; simp⟩
      · exact h2 x hx
    · have e : fixW fs w c = w := by unfold fixW; rw [if_neg (fun z => hw (any_mem.mp z))]
      rw [e] at h1
      exact absurd h1 hw
abbrev AG : List Nat := ("abcdefg" : Str).cps.toList
theorem fixAll_free {fs : List Str} {w : Str} (h : fs.length ≤ 5) : fixAll fs w AG ∉ fs := fun z => by
  obtain ⟨_, h2⟩ := fixAll_in z
  have := nodup_sub (by decide +kernel : AG.Nodup) h2
  have e : AG.length = 7 := by decide +kernel
  rw [List.length_map, e] at this
  omega
end K
end
section
set_option Elab.async false
set_option linter.all false
set_option maxRecDepth 100000
set_option maxHeartbeats 4000000
namespace K
open PySem DL
theorem in_strs {M : Mem} {m : Nat} {fs : List Str} {w : Str} (h : M[m]? = some (.lst (fs.map .str))) : cmpD .inO (.str w) (.ref m) M = some (.ok (.bl (fs.any fun f => f == w)), M) := by
  have e : inD (.str w) (.ref m) M = some (.ok (fs.any fun f => f == w), M) := by
    show (match (match M[m]? with | some (.lst ds) => some ds | _ => none : Option (List D)) with | some ys => if (D.str w).flat && ys.all D.flat then some (Except.ok (inSeq (.str w) ys), M) else none | none => none) = _
    rw [h]
    dsimp only
    have a : (fs.map D.str).all D.flat = true := by simp [D.flat]
    rw [a, if_pos (by rfl)]
    unfold inSeq
    rw [List.any_map]
    rfl
  show bnd (inD _ _) _ M = _
  rw [bnd_ok e]
theorem len_of (w : Str) : w.length = w.cps.toList.length := by simp [Str.length]
/-- the inner loop -/
theorem tag_inner {M : Mem} {m : Nat} {fs : List Str} (h : M[m]? = some (.lst (fs.map .str))) (p q r : Option D) : ∀ (cs : List Nat) (w : Str) (v : Option D), GoodW w → (∀ c ∈ cs, c ∈ LET) →
    ∃ v', forL none (bodyF t_w_tags (.nm 5) l_w_tags_1) (cs.map fun c => .str ⟨#[c]⟩) [p, q, some (.ref m), r, some (.str w), v] M = some (.ok (.nx [p, q, some (.ref m), r, some (.str (fixAll fs w cs)), v']), M)
  | [], w, v, _, _ => ⟨v, by simp [fixAll]⟩
  | c :: cs, w, v, g, hc => by
    obtain ⟨v', e⟩ := tag_inner h p q r cs (fixW fs w c) (some (.str ⟨#[c]⟩)) (fix_good g (hc c List.mem_cons_self)) fun x hx => hc x (List.mem_cons_of_mem _ hx)
    refine ⟨v', ?_⟩
    have body : bodyF t_w_tags (.nm 5) l_w_tags_1 (.str ⟨#[c]⟩) [p, q, some (.ref m), r, some (.str w), v] M = some (.ok (.nx [p, q, some (.ref m), r, some (.str (fixW fs w c)), some (.str ⟨#[c]⟩)]), M) := by
      have hl : w.length ≤ 8 := by rw [len_of]; exact g.hi
      by_cases hw : fs.any (fun f => f == w) = true
      · have hs : (L2.cutS w none (some 7)).length + (⟨#[c]⟩ : Str).length ≤ sizeLine := by
          have a := L2.cutS_length w none (some 7)
          have b : (⟨#[c]⟩ : Str).length = 1 := rfl
          rw [sizeLine_eq]
          omega
        have hl' : w.length ≤ sizeLine := by rw [sizeLine_eq]; omega
        have es : getSl (.str w) none (some 7) M = some (.ok (.str (L2.cutS w none (some 7))), M) := by
          show (if w.length ≤ sizeLine then _ else _) = _
          rw [if_pos hl']
        have ef : fixW fs w c = L2.cutS w none (some 7) ++ ⟨#[c]⟩ := by unfold fixW; rw [if_pos hw]
        simp [bodyF, l_w_tags_1, bnd_at, in_strs h, hw, optI, es, hs, ef]
      · have ef : fixW fs w c = w := by unfold fixW; rw [if_neg hw]
        have hw' : fs.any (fun f => f == w) = false := Bool.eq_false_iff.mpr hw
        simp [bodyF, l_w_tags_1, bnd_at, in_strs h, hw', ef]
    rw [List.map_cons, forL_step rfl body]
    exact e
theorem ag_let : ∀ c ∈ AG, c ∈ LET := by decide +kernel
/-- the outer loop -/
theorem tag_outer {M : Mem} {n m : Nat} (h : ∃ o, M[n]? = some o ∧ isPool o) (hm : M[m]? = some (.lst [])) (hn : n ≠ m) (k : Nat) (hk : k ≤ 6) (q : Option D) :
    ∃ (r s v : Option D) (M' : Mem) (fs : List Str), forL none (bodyF t_w_tags (.nm 3) l_w_tags_2) (rangeD 0 k) [some (.ref n), q, some (.ref m), none, none, none] M = some (.ok (.nx [some (.ref n), q, some (.ref m), r, s, v]), M') ∧ M'[m]? = some (.lst (fs.map .str)) ∧ fs.length = k ∧ fs.Nodup ∧ (∀ w ∈ fs, GoodW w) ∧
      (∃ o, M'[n]? = some o ∧ isPool o) ∧ (∀ i o, i ≠ n → i ≠ m → M[i]? = some o → M'[i]? = some o) ∧ M.length ≤ M'.length := by
  obtain ⟨env', M', e, r, s, v, fs, rfl, h1, h2, h3, h4, h5, h6, h7⟩ := forL_0 (g := none) (turn := bodyF t_w_tags (.nm 3) l_w_tags_2) (ds := rangeD 0 k) (M := M) (env := [some (.ref n), q, some (.ref m), none, none, none])
    (fun i env M' => ∃ (r s v : Option D) (fs : List Str), env = [some (.ref n), q, some (.ref m), r, s, v] ∧ M'[m]? = some (.lst (fs.map .str)) ∧ fs.length = i ∧ fs.Nodup ∧ (∀ w ∈ fs, GoodW w) ∧ (∃ o, M'[n]? = some o ∧ isPool o) ∧ (∀ i o, i ≠ n → i ≠ m → M[i]? = some o → M'[i]? = some o) ∧ M.length ≤ M'.length)
    (fun _ _ _ _ => rfl) ⟨none, none, none, [], rfl, hm, rfl, .nil, fun _ z => (by cases z), h, fun _ _ _ _ z => z, Nat.le_refl _⟩ (by
      rintro i d env M1 hi ⟨r, s, v, fs, rfl, h1, h2, h3, h4, h5, h6, h7⟩
      have hik : i < k := by
        have := (List.getElem?_eq_some_iff.mp hi).1
        rwa [rangeD_len] at this
      obtain ⟨w, M2, e1, gw, G⟩ := word_spec h5
      have x2 : M2[m]? = some (.lst (fs.map .str)) := G.keep m _ (Ne.symm hn) h1
      obtain ⟨v', e2⟩ := tag_inner x2 (some (.ref n)) q (some d) AG w v gw ag_let
      have hfree := fixAll_free (fs := fs) (w := w) (by omega)
      have hz : fs.length < sizeLine := by rw [sizeLine_eq]; omega
      refine ⟨_, M2.set m (.lst ((fs ++ [fixAll fs w AG]).map .str)), ?_, some d, some (.str (fixAll fs w AG)), v', fs ++ [fixAll fs w AG], rfl, get_set x2 _, by simp [h2], ?_, ?_, ?_, ?_, ?_⟩
      · simp [bodyF, l_w_tags_2, bnd_at, e1, e2, tyChk_ref, x2, append_ref, hz]
      · rw [List.nodup_append]
        refine ⟨h3, by simp, fun a ha b hb => ?_⟩
        have : b = fixAll fs w AG := by simpa using hb
        rw [this]
        rintro rfl
        exact hfree ha
      · intro x hx
        rcases List.mem_append.mp hx with z | z
        · exact h4 x z
        · have : x = fixAll fs w AG := by simpa using z
          rw [this]
          exact fixAll_good gw ag_let
      · obtain ⟨o, ho, po⟩ := G.pool
        exact ⟨o, by rw [List.getElem?_set_ne (Ne.symm hn)]; exact ho, po⟩
      · intro i o hin him hM
        rw [List.getElem?_set_ne (Ne.symm him)]
        exact G.keep i o hin (h6 i o hin him hM)
      · rw [List.length_set]
        exact Nat.le_trans h7 G.len)
  rw [rangeD_len] at h2
  exact ⟨r, s, v, M', fs, e, h1, h2, h3, h4, h5, h6, h7⟩
end K
end
section
set_option Elab.async false
set_option linter.all false
set_option maxRecDepth 100000
set_option maxHeartbeats 4000000
namespace K
open PySem DL
theorem strsOf_map : ∀ fs : List Str, strsOf (fs.map D.str) = some fs
  | [] => rfl
  | f :: fs => by
    have ih := strsOf_map fs
    unfold strsOf at ih ⊢
    rw [List.map_cons, mapO, ih]
/-- names in strictly rising order -/
abbrev Rising (l : List Str) : Prop := l.Pairwise fun a b => a.cps.toList < b.cps.toList
theorem sort_rising {fs : List Str} (h : fs.Nodup) : Rising (sortStrs fs) := by
  have s : (sortStrs fs).Pairwise (fun a b => leS a b = true) := List.pairwise_mergeSort (le := leS) (fun a b c => leS_trans a b c) (fun a b => leS_total a b) fs
  have p : (sortStrs fs).Perm fs := List.mergeSort_perm fs _
  have nd : (sortStrs fs).Nodup := p.nodup_iff.mpr h
  refine List.Pairwise.imp₂ ?_ s nd
  intro a b hab hne
  by_cases hlt : a.cps.toList < b.cps.toList
  · exact hlt
  · have : leS b a = true := by unfold leS; simp [hlt]
    exact absurd (leS_antisymm a b hab this) hne
theorem inR_small {k : Int} (h0 : 0 ≤ k) (h1 : k ≤ 1000) : inR k = true := by
  unfold inR
  exact decide_eq_true ⟨by omega, by omega⟩
theorem sorted_at {M : Mem} {m : Nat} {fs : List Str} (h : M[m]? = some (.lst (fs.map .str))) (hl : fs.length < 64) : bfun .sorted [.ref m] M = some (.ok (.ref M.length), M ++ [.lst ((sortStrs fs).map .str)]) := by
  have e : lstOf M (.ref m) = some (fs.map .str) := by
    unfold lstOf
    dsimp only
    rw [h]
  unfold bfun sortedB
  dsimp only
  rw [e]
  dsimp only
  rw [strsOf_map]
  dsimp only
  rw [if_pos hl]
  rfl
theorem tags_run {M M' : Mem} {n : Nat} {r s v : Option D} (k : Nat) (hr : inR (k : Int) = true)
    (e : forL none (bodyF t_w_tags (.nm 3) l_w_tags_2) (rangeD 0 k) [some (.ref n), some (.int k), some (.ref M.length), none, none, none] (M ++ [O.lst []]) = some (.ok (.nx [some (.ref n), some (.int k), some (.ref M.length), r, s, v]), M')) {x : D} {M2 : Mem}
    (hs : bfun .sorted [.ref M.length] M' = some (.ok x, M2)) : f_w_tags [.ref n, .int k] M = some (.ok x, M2) := by
  have z : (0 : Nat) ≤ sizeLine := Nat.zero_le _
  simp [f_w_tags, runDef_eq, b_w_tags, bnd_at, lstD_eq, hr, e, hs]
theorem tags_spec {M : Mem} {n : Nat} (h : ∃ o, M[n]? = some o ∧ isPool o) (k : Nat) (hk : k ≤ 6) : ∃ (m : Nat) (M' : Mem) (fs : List Str), f_w_tags [.ref n, .int k] M = some (.ok (.ref m), M') ∧ M'[m]? = some (.lst (fs.map .str)) ∧ fs.length = k ∧ Rising fs ∧ (∀ w ∈ fs, GoodW w) ∧ Grow n M M' ∧ M.length ≤ m := by
  have hn : n < M.length := let ⟨o, e, _⟩ := h; (List.getElem?_eq_some_iff.mp e).1
  have p1 : ∃ o, (M ++ [O.lst []])[n]? = some o ∧ isPool o := let ⟨o, e, p⟩ := h; ⟨o, get_app e _, p⟩
  obtain ⟨r, s, v, M', fs, e, h1, h2, h3, h4, h5, h6, h7⟩ := tag_outer (q := some (.int k)) p1 (m := M.length) get_new (Nat.ne_of_lt hn) k hk
  have p : (sortStrs fs).Perm fs := List.mergeSort_perm fs _
  have hlen : fs.length < 64 := by omega
  have hs := sorted_at h1 (show fs.length < 64 by omega)
  refine ⟨M'.length, M' ++ [.lst ((sortStrs fs).map .str)], sortStrs fs, ?_, get_new, by rw [p.length_eq, h2], sort_rising h3, fun w hw => h4 w (p.mem_iff.mp hw), ?_, ?_⟩
  · exact tags_run k (inR_small (by omega) (by omega)) e hs
  · refine Grow.app ⟨h5, fun i o hi hM => ?_, ?_⟩ _
    · have hlt := (List.getElem?_eq_some_iff.mp hM).1
      exact h6 i o hi (by omega) (get_app hM _)
    · rw [List.length_append] at h7
      exact Nat.le_trans (Nat.le_add_right _ _) h7
  · rw [List.length_append] at h7
    exact Nat.le_trans (Nat.le_add_right _ _) h7
/-- kinds as the law draws them -/
structure Kinds (room : Int) (ps : List (Str × Int)) : Prop where
  rlo : 2 ≤ room
  rhi : room ≤ 60
  len1 : 1 ≤ ps.length
  len6 : ps.length ≤ 6
  rise : Rising (ps.map (·.1))
  good : ∀ p ∈ ps, GoodW p.1
  size : ∀ p ∈ ps, 1 ≤ p.2 ∧ p.2 ≤ room
abbrev kd (p : Str × Int) : D := .tup [.str p.1, .int p.2]
abbrev kds (ps : List (Str × Int)) : D := .tup (ps.map kd)
end K
end
section
set_option Elab.async false
set_option linter.all false
set_option maxRecDepth 100000
set_option maxHeartbeats 4000000
namespace K
open PySem DL
theorem tags_int {M : Mem} {n : Nat} (h : ∃ o, M[n]? = some o ∧ isPool o) (j : Int) (h0 : 0 ≤ j) (hk : j ≤ 6) : ∃ (m : Nat) (M' : Mem) (fs : List Str), f_w_tags [.ref n, .int j] M = some (.ok (.ref m), M') ∧ M'[m]? = some (.lst (fs.map .str)) ∧ (fs.length : Int) = j ∧ Rising fs ∧ (∀ w ∈ fs, GoodW w) ∧ Grow n M M' ∧ M.length ≤ m := by
  obtain ⟨m, M', fs, e, h1, h2, h3⟩ := tags_spec h j.toNat (by omega)
  have ej : ((j.toNat : Nat) : Int) = j := by omega
  rw [ej] at e
  exact ⟨m, M', fs, e, h1, by omega, h3⟩
/-- one turn of the comprehension that draws the sizes -/
theorem shape_turn {M : Mem} {n m r : Nat} {x y z v : Option D} {top : Int} {w : Str} (h : ∃ o, M[n]? = some o ∧ isPool o) (h1 : 1 ≤ top) (h2 : top ≤ 1000) :
    ∃ d M', turnL t_w_shape (.nm 4) .yes e_w_shape_1 [4] [some (.ref n), y, z, some (.int top), v] (.str w) M = some (.ok (some (kd (w, d))), M') ∧ 1 ≤ d ∧ d ≤ top ∧ Grow n M M' := by
  obtain ⟨d, M', e, d0, d1, G, _⟩ := draw_spec h h1 h2
  refine ⟨1 + d, M', ?_, by omega, by omega, G⟩
  simp [turnL, wipeE, e_w_shape_1, bnd_at, e, tupD_eq, sizeLine_eq]
theorem forall_snoc {α : Type} {P : α → Prop} {l : List α} {a : α} (h : ∀ x ∈ l, P x) (ha : P a) : ∀ x ∈ l ++ [a], P x := by
  intro x hx
  rcases List.mem_append.mp hx with z | z
  · exact h x z
  · have : x = a := by simpa using z
    rw [this]; exact ha
/-- the whole comprehension -/
theorem shape_comp {n m r : Nat} {y z v : Option D} {top : Int} (h1 : 1 ≤ top) (h2 : top ≤ 1000) (hrn : r ≠ n) (hmn : m ≠ n) (hmr : m ≠ r) {all : List Str} : ∀ (fs : List Str) (ps : List (Str × Int)) (M : Mem), ps.length + fs.length ≤ 10 → (∃ o, M[n]? = some o ∧ isPool o) → M[r]? = some (.lst (ps.map kd)) → M[m]? = some (.lst (all.map .str)) →
    ∃ (qs : List (Str × Int)) (M' : Mem), compL (some (m, all.map .str)) r (turnL t_w_shape (.nm 4) .yes e_w_shape_1 [4] [some (.ref n), y, z, some (.int top), v]) (fs.map .str) M = some (.ok (), M') ∧ M'[r]? = some (.lst ((ps ++ qs).map kd)) ∧ qs.map (·.1) = fs ∧ (∀ q ∈ qs, 1 ≤ q.2 ∧ q.2 ≤ top) ∧ (∃ o, M'[n]? = some o ∧ isPool o) ∧ (∀ i o, i ≠ n → i ≠ r → M[i]? = some o → M'[i]? = some o) ∧ M.length ≤ M'.length
  | [], ps, M, _, h, hr, hm => ⟨[], M, by show chk _ M = _; exact chk_ref hm, by simpa using hr, rfl, (fun _ z => by cases z), h, (fun _ _ _ _ e => e), Nat.le_refl _⟩
  | w :: fs, ps, M, hz, h, hr, hm => by
    obtain ⟨d, M1, e1, d0, d1, G⟩ := shape_turn (M := M) (m := m) (r := r) (x := none) (y := y) (z := z) (v := v) (w := w) h h1 h2
    have hr1 := G.keep r _ hrn hr
    have hm1 := G.keep m _ hmn hm
    have hl : ps.length < 10 := by simp only [List.length_cons] at hz; omega
    have hp : push r (kd (w, d)) M1 = some (.ok (), M1.set r (.lst (ps.map kd ++ [kd (w, d)]))) := by
      unfold push
      rw [hr1]
      dsimp only
      rw [if_pos (by rw [List.length_map, sizeLine_eq]; omega)]
    have hr2 : (M1.set r (.lst ((ps ++ [(w, d)]).map kd)))[r]? = some (.lst ((ps ++ [(w, d)]).map kd)) := get_set hr1 _
    have hm2 : (M1.set r (.lst ((ps ++ [(w, d)]).map kd)))[m]? = some (.lst (all.map .str)) := by rw [List.getElem?_set_ne (Ne.symm hmr)]; exact hm1
    have hn2 : ∃ o, (M1.set r (.lst ((ps ++ [(w, d)]).map kd)))[n]? = some o ∧ isPool o := by
      obtain ⟨o, ho, p⟩ := G.pool
      exact ⟨o, by rw [List.getElem?_set_ne hrn]; exact ho, p⟩
    obtain ⟨qs, M', e, a1, a2, a3, a4, a5, a6⟩ := shape_comp h1 h2 hrn hmn hmr (all := all) (y := y) (z := z) (v := v) fs (ps ++ [(w, d)]) _ (by simp only [List.length_append, List.length_cons, List.length_nil] at hz ⊢; omega) hn2 hr2 hm2
    refine ⟨(w, d) :: qs, M', ?_, by rw [a1]; simp, by rw [List.map_cons, a2], ?_, a4, ?_, ?_⟩
    · rw [List.map_cons]
      show bnd (chk _) _ M = _
      rw [bnd_ok (chk_ref hm), bnd_ok e1]
      show bnd (push r (kd (w, d))) _ M1 = _
      rw [bnd_ok hp]
      rw [List.map_append] at e
      exact e
    · intro q hq
      rcases List.mem_cons.mp hq with z | z
      · rw [z]; exact ⟨d0, d1⟩
      · exact a3 q z
    · intro i o hi hir e
      refine a5 i o hi hir ?_
      rw [List.getElem?_set_ne (Ne.symm hir)]
      exact G.keep i o hi e
    · rw [List.length_set] at a6
      exact Nat.le_trans G.len a6
theorem top_at (wide k : Int) (h0 : 0 ≤ k) (h1 : k < 3) (hw : 2 ≤ wide ∧ wide ≤ 60) : ∃ t, L2.atI [D.int wide, .int (1 + wide / 3), .int 2] k = some (.int t) ∧ 1 ≤ t ∧ t ≤ wide := by
  rw [at_pos h0 (by simpa using h1)]
  have : k = 0 ∨ k = 1 ∨ k = 2 := by omega
  rcases this with rfl | rfl | rfl
  · exact ⟨_, rfl, by omega, by omega⟩
  · exact ⟨_, rfl, by omega, by omega⟩
  · exact ⟨_, rfl, by omega, by omega⟩
theorem shape_spec {M : Mem} {n : Nat} (h : ∃ o, M[n]? = some o ∧ isPool o) : ∃ (wide : Int) (ps : List (Str × Int)) (M' : Mem), f_w_shape [.ref n] M = some (.ok (.tup [.int wide, kds ps]), M') ∧ Kinds wide ps ∧ Grow n M M' := by
  have hn : ∀ {A : Mem}, (∃ o, A[n]? = some o ∧ isPool o) → n < A.length := fun ⟨o, e, _⟩ => (List.getElem?_eq_some_iff.mp e).1
  obtain ⟨d1, M1, e1, a0, a1, G1, l1⟩ := draw_spec h (k := 59) (by decide) (by decide)
  obtain ⟨d2, M2, e2, b0, b1, G2, l2⟩ := draw_spec G1.pool (k := 6) (by decide) (by decide)
  obtain ⟨m, M3, fs, e3, hm, hl, hr, hg, G3, hml⟩ := tags_int G2.pool (1 + d2) (by omega) (by omega)
  have hM2 := hn G2.pool
  have hM3 := hn G3.pool
  have hm3 : m < M3.length := (List.getElem?_eq_some_iff.mp hm).1
  have P4 : ∃ o, (M3 ++ [O.lst [D.int (2 + d1), .int (1 + (2 + d1) / 3), .int 2]])[n]? = some o ∧ isPool o := by
    obtain ⟨o, ho, p⟩ := G3.pool
    exact ⟨o, get_app ho _, p⟩
  obtain ⟨d4, M4, e4, c0, c1, G4, l4⟩ := draw_spec P4 (k := 3) (by decide) (by decide)
  have hlist : M4[M3.length]? = some (O.lst [D.int (2 + d1), .int (1 + (2 + d1) / 3), .int 2]) := G4.keep _ _ (by omega) get_new
  obtain ⟨t, et, t0, t1⟩ := top_at (2 + d1) d4 c0 c1 ⟨by omega, by omega⟩
  have hm4 : M4[m]? = some (.lst (fs.map .str)) := G4.keep _ _ (by omega) (get_app hm _)
  have P5 : ∃ o, (M4 ++ [O.lst []])[n]? = some o ∧ isPool o := by
    obtain ⟨o, ho, p⟩ := G4.pool
    exact ⟨o, get_app ho _, p⟩
  have hm4l : M3.length < M4.length := by rw [l4]; simp
  have hn4 := hn G4.pool
  obtain ⟨qs, M5, e5, q1, q2, q3, q4, q5, q6⟩ := shape_comp (n := n) (m := m) (r := M4.length) (y := some (.int (2 + d1))) (z := some (.ref m)) (v := none) (top := t) t0 (by omega) (by omega) (by omega) (by omega) (all := fs) fs [] (M4 ++ [O.lst []]) (by simp; omega) P5 get_new (get_app hm4 _)
  rw [List.nil_append] at q1
  have hlen : qs.length = fs.length := by rw [← q2, List.length_map]
  refine ⟨2 + d1, qs, M5, ?_, ⟨by omega, by omega, by omega, by omega, by rw [q2]; exact hr, ?_, ?_⟩, ?_⟩
  · simp [f_w_shape, runDef_eq, b_w_shape, bnd_at, lstD_eq, tupD_eq, sizeLine_eq, e1, e2, e3, e4, ix_ref, hlist, et, items_at hm4, e5, tuple_at q1]
  · intro p hp
    refine hg _ ?_
    rw [← q2]
    exact List.mem_map_of_mem hp
  · intro p hp
    have := q3 p hp
    exact ⟨this.1, by omega⟩
  · refine ((((G1.trans G2).trans G3).app _).trans G4).trans ⟨q4, fun i o hi e => ?_, ?_⟩
    · have : i < M4.length := (List.getElem?_eq_some_iff.mp e).1
      exact q5 i o hi (by omega) (get_app e _)
    · rw [List.length_append] at q6
      exact Nat.le_trans (Nat.le_add_right _ _) q6
end K
end
section
set_option Elab.async false
set_option linter.all false
set_option maxRecDepth 100000
set_option maxHeartbeats 4000000
namespace K
open PySem DL
abbrev LETS : Str := "abcdefghijklmnopqrstuvwxyz"
abbrev DIGS : Str := "0123456789"
theorem good_len {w : Str} (g : GoodW w) : 1 ≤ w.length ∧ w.length ≤ 8 := by rw [len_of]; exact ⟨g.lo, g.hi⟩
theorem map_all {α : Type} (l : List α) : ((l.map fun _ => true).all id) = true := by
  rw [List.all_eq_true]
  intro x hx
  obtain ⟨_, _, rfl⟩ := List.mem_map.mp hx
  rfl
theorem name_turn {M : Mem} {v : Option D} {w : Option D} {c : Nat} (h : c ∈ LET ∨ c ∈ DIG) : turnL t_is_name (.nm 1) .yes e_is_name_1 [1] [w, v] (.str ⟨#[c]⟩) M = some (.ok (some (.bl true)), M) := by
  by_cases h1 : c ∈ LET
  · simp [turnL, wipeE, e_is_name_1, bnd_at, in_sign, h1]
  · have h2 : c ∈ DIG := h.resolve_left h1
    simp [turnL, wipeE, e_is_name_1, bnd_at, in_sign, h1, h2]
theorem is_name_spec {w : Str} (g : GoodW w) (M : Mem) : ∃ N, f_is_name [.str w] M = some (.ok (.bl true), M ++ N) := by
  obtain ⟨c, r, ec, hc⟩ := g.hd
  have hz : w.length ≤ sizeLine := by rw [sizeLine_eq]; have := (good_len g).2; omega
  have cm := compL_map (g := none) (turn := turnL t_is_name (.nm 1) .yes e_is_name_1 [1] [some (.str w), none]) (fun _ => .bl true) M (fun _ => rfl) (ds := w.cps.toList.map fun c => D.str ⟨#[c]⟩) (by rw [List.length_map, sizeLine_eq]; have := g.hi; omega) (by
    intro d acc hd
    obtain ⟨x, hx, rfl⟩ := List.mem_map.mp hd
    exact name_turn (g.al x hx))
  have hm : (M ++ [O.lst ((w.cps.toList.map fun c => D.str ⟨#[c]⟩).map fun _ => D.bl true)])[M.length]? = some (.lst ((w.cps.toList.map fun _ => true).map D.bl)) := by
    rw [List.map_map, List.map_map]
    exact get_new
  have al := all_at hm
  rw [map_all] at al
  generalize O.lst ((w.cps.toList.map fun c => D.str ⟨#[c]⟩).map fun _ => D.bl true) = A at cm al
  have l1 : (1 : Int) ≤ w.length := by have := (good_len g).1; omega
  have l2 : (w.length : Int) ≤ 8 := by have := (good_len g).2; omega
  have e0 : L2.atI w.cps.toList 0 = some c := by
    rw [at_pos (by omega) (by rw [ec]; simp), ec]; rfl
  refine ⟨[A], ?_⟩
  simp [f_is_name, runDef_eq, b_is_name, bnd_at, isiD, insOk, isAny, isInst, hz, l1, l2, ix_str, e0, notIn_sign, hc, cm, al]
theorem is_kind_spec {room : Int} {p : Str × Int} (g : GoodW p.1) (h : 1 ≤ p.2 ∧ p.2 ≤ room) (M : Mem) : ∃ N, f_is_kind [kd p, .int room] M = some (.ok (.bl true), M ++ N) := by
  obtain ⟨N, e⟩ := is_name_spec g M
  have e2 := is_integer_int (M ++ N) p.2
  refine ⟨N, ?_⟩
  simp [f_is_kind, runDef_eq, b_is_kind, bnd_at, isiD, insOk, isAny, isInst, ix_tup, L2.atI, L2.ixN, e, e2, h.1, h.2]
theorem numbered_get : ∀ (ds : List D) (k i : Nat), (numbered k ds)[i]? = ds[i]?.map fun d => .tup [.int ((k + i : Nat) : Int), d]
  | [], _, i => by simp [DL.numbered]
  | d :: ds, k, 0 => by simp [DL.numbered]
  | d :: ds, k, i + 1 => by
    have e : k + 1 + i = k + (i + 1) := by omega
    show (numbered (k + 1) ds)[i]? = _
    rw [numbered_get ds (k + 1) i, e]
    rfl
theorem numbered_len : ∀ (ds : List D) (k : Nat), (numbered k ds).length = ds.length
  | [], _ => rfl
  | d :: ds, k => by show (numbered (k + 1) ds).length + 1 = _; rw [numbered_len ds (k + 1)]; rfl
theorem rise_at {ps : List (Str × Int)} (h : Rising (ps.map (·.1))) {j : Nat} {p q : Str × Int} (hp : ps[j]? = some p) (hq : ps[j + 1]? = some q) : p.1.cps.toList < q.1.cps.toList := by
  have := List.pairwise_iff_getElem.mp h
  obtain ⟨h1, e1⟩ := List.getElem?_eq_some_iff.mp hp
  obtain ⟨h2, e2⟩ := List.getElem?_eq_some_iff.mp hq
  have := this j (j + 1) (by rw [List.length_map]; omega) (by rw [List.length_map]; exact h2) (by omega)
  rw [List.getElem_map, List.getElem_map, e1, e2] at this
  exact this
theorem check_turn {room : Int} {ps : List (Str × Int)} (h : Kinds room ps) {i : Nat} {p : Str × Int} (hp : ps[i]? = some p) (v w : Option D) (M : Mem) : ∃ N, bodyF t_check_kinds (.tup (.cons (.nm 2) (.cons (.nm 3) .nil))) l_check_kinds_1 (.tup [.int (i : Int), kd p]) [some (kds ps), some (.int room), v, w] M = some (.ok (.nx [some (kds ps), some (.int room), some (.int (i : Int)), some (kd p)]), M ++ N) := by
  have hm : p ∈ ps := List.mem_of_getElem? hp
  have hi : i < ps.length := (List.getElem?_eq_some_iff.mp hp).1
  have hl := h.len6
  obtain ⟨N, e⟩ := is_kind_spec (h.good p hm) (h.size p hm) M
  refine ⟨N, ?_⟩
  have h6 : (i : Int) ≠ 6 := by omega
  match i, hp, h6 with
  | 0, hp, h6 => simp [bodyF, l_check_kinds_1, bnd_at, e]
  | j + 1, hp, h6 =>
    obtain ⟨q, hq⟩ : ∃ q, ps[j]? = some q := ⟨ps[j], List.getElem?_eq_getElem (by omega)⟩
    have lt := rise_at h.rise hq hp
    have ea : L2.atI (ps.map kd) ((j : Int)) = some (kd q) := by
      rw [at_pos (by omega) (by rw [List.length_map]; omega)]
      show (ps.map kd)[j]? = _
      rw [List.getElem?_map, hq]; rfl
    have e1 : ((j + 1 : Nat) : Int) - 1 = j := by omega
    have hpos : (0 : Int) < ((j + 1 : Nat) : Int) := by omega
    have h6' : (((j + 1 : Nat) : Int) == 6) = false := by simpa using h6
    generalize ((j + 1 : Nat) : Int) = z at e1 hpos h6' ⊢
    simp [bodyF, l_check_kinds_1, bnd_at, e, h6', hpos, e1, ix_tup, ea, at_0, lt]
theorem check_spec {room : Int} {ps : List (Str × Int)} (h : Kinds room ps) (M : Mem) : ∃ N, f_check_kinds [kds ps, .int room] M = some (.ok .non, M ++ N) := by
  obtain ⟨env', M', e, v, w, rfl, N, rfl⟩ := forL_0 (g := none) (turn := bodyF t_check_kinds (.tup (.cons (.nm 2) (.cons (.nm 3) .nil))) l_check_kinds_1) (ds := numbered 0 (ps.map kd)) (M := M) (env := [some (kds ps), some (.int room), none, none])
    (fun i env M' => ∃ v w, env = [some (kds ps), some (.int room), v, w] ∧ Ext M M') (fun _ _ _ _ => rfl) ⟨none, none, rfl, Ext.refl M⟩ (by
      rintro i d env M1 hi ⟨v, w, rfl, X⟩
      rw [numbered_get, List.getElem?_map] at hi
      cases hp : ps[i]? with
      | none => rw [hp] at hi; cases hi
      | some p =>
        rw [hp] at hi
        have hd : d = .tup [.int ((0 + i : Nat) : Int), kd p] := (Option.some.inj hi).symm
        rw [Nat.zero_add] at hd
        subst hd
        obtain ⟨N, e⟩ := check_turn h hp v w M1
        exact ⟨_, _, e, _, _, rfl, X.trans (Ext.add _ _)⟩)
  refine ⟨N, ?_⟩
  have l0 : (ps.length : Int) ≠ 0 := by have := h.len1; omega
  have l0' : ((ps.length : Int) == 0) = false := by simpa using l0
  have el : (ps.map kd).length = ps.length := List.length_map _
  have l1 : ps ≠ [] := by have := h.len1; intro z; rw [z] at this; simp at this
  simp [f_check_kinds, runDef_eq, b_check_kinds, bnd_at, isiD, insOk, isAny, isInst, l0', l1, e]
end K
end
section
set_option Elab.async false
set_option linter.all false
set_option maxRecDepth 100000
set_option maxHeartbeats 4000000
namespace K
open PySem DL
/-- a goods instance on the store -/
abbrev G (room : Int) (ps : List (Str × Int)) : O := .ins "Goods" [("space", .int room), ("pairs", kds ps)]
theorem kds_len {room : Int} {ps : List (Str × Int)} (h : Kinds room ps) : (ps.map kd).length = ps.length := List.length_map _
theorem init_spec {room : Int} {ps : List (Str × Int)} (h : Kinds room ps) (M : Mem) : ∃ N, f_Goods_ddinitdd [.ref M.length, .int room, kds ps] (M ++ [.ins "Goods" []]) = some (.ok .non, M ++ G room ps :: N) := by
  obtain ⟨N, e⟩ := check_spec h (M ++ [.ins "Goods" []])
  have e1 := is_integer_int (M ++ [.ins "Goods" []]) room
  have r1 := h.rlo
  have r2 := h.rhi
  have ea : M ++ [O.ins "Goods" []] ++ N = M ++ O.ins "Goods" [] :: N := by simp
  rw [ea] at e
  have s1 := setAt_at (T := t_Goods_ddinitdd) (f := "space") (d := .int room) (M := M ++ O.ins "Goods" [] :: N) (n := M.length) (c := "Goods") (fs := []) get_new tc_Goods_ddinitdd_Goods (by rfl) (by decide)
  have s2 := setAt_at (T := t_Goods_ddinitdd) (f := "pairs") (d := kds ps) (M := M ++ O.ins "Goods" [("space", .int room)] :: N) (n := M.length) (c := "Goods") (fs := [("space", .int room)]) get_new tc_Goods_ddinitdd_Goods (by rfl) (by simp)
  rw [set_mid] at s1 s2
  have p1 : putF "space" (.int room) [] = [(("space" : Str), D.int room)] := rfl
  have p2 : putF "pairs" (kds ps) [(("space" : Str), D.int room)] = [(("space" : Str), .int room), ("pairs", kds ps)] := by
    unfold putF
    rw [if_neg (by decide +kernel)]
    rfl
  rw [p1] at s1
  rw [p2] at s2
  refine ⟨N, ?_⟩
  simp [f_Goods_ddinitdd, runDef_eq, b_Goods_ddinitdd, bnd_at, e, e1, r1, r2, tupD_eq, sizeLine_eq, s1, s2]
theorem make_spec {T : Tab} {k : ClsT} (hT : T.cls "Goods" = some k) (hk : k.init = f_Goods_ddinitdd) {room : Int} {ps : List (Str × Int)} (h : Kinds room ps) (M : Mem) : ∃ N, makeI T "Goods" [.int room, kds ps] M = some (.ok (.ref M.length), M ++ G room ps :: N) := by
  obtain ⟨N, e⟩ := init_spec h M
  exact ⟨N, makeI_at hT (by rw [hk]; exact e)⟩
/-! texts -/
abbrev item (p : Str × Int) : Str := p.1 ++ " " ++ num p.2
abbrev W (room : Int) (ps : List (Str × Int)) : Str := "room " ++ num room ++ "; " ++ Txt.join ", " (ps.map item)
theorem lit_room : ("room " : Str).length = 5 := by decide +kernel
theorem lit_semi : ("; " : Str).length = 2 := by decide +kernel
theorem lit_comma : (", " : Str).length = 2 := by decide +kernel
theorem lit_sp : (" " : Str).length = 1 := by decide +kernel
theorem small_len {i : Int} (h : 0 ≤ i) (h2 : i ≤ 61) : (num i).length ≤ 2 := num_len (by decide) h (by omega)
theorem item_len {room : Int} {ps : List (Str × Int)} (h : Kinds room ps) {p : Str × Int} (hp : p ∈ ps) : (item p).length ≤ 11 := by
  have a := good_len (h.good p hp)
  have b := h.size p hp
  have c := h.rhi
  have d := small_len (i := p.2) (by omega) (by omega)
  rw [len_app, len_app, lit_sp]
  omega
theorem items_len {room : Int} {ps : List (Str × Int)} (h : Kinds room ps) : (Txt.join ", " (ps.map item)).length ≤ 78 := by
  have := joinS_len ", " 11 (ps.map item) (by
    intro x hx
    obtain ⟨p, hp, rfl⟩ := List.mem_map.mp hx
    exact item_len h hp)
  rw [List.length_map, lit_comma] at this
  have l := h.len6
  omega
theorem items_sum {room : Int} {ps : List (Str × Int)} (h : Kinds room ps) : ((ps.map item).map (·.length)).sum + (ps.map item).length * (", " : Str).length ≤ 16777216 := by
  have := join_len ", " 11 (ps.map item) (by
    intro x hx
    obtain ⟨p, hp, rfl⟩ := List.mem_map.mp hx
    exact item_len h hp)
  rw [List.length_map] at this ⊢
  rw [lit_comma]
  have l := h.len6
  omega
theorem W_len {room : Int} {ps : List (Str × Int)} (h : Kinds room ps) : (W room ps).length ≤ 87 := by
  have a := items_len h
  have r1 := h.rlo
  have r2 := h.rhi
  have d := small_len (i := room) (by omega) (by omega)
  rw [len_app, len_app, len_app, lit_room, lit_semi]
  omega
/-- what a comprehension over kinds makes -/
def onK (f : Str → Int → D) : D → D
  | .tup [.str a, .int i] => f a i
  | _ => .non
theorem onK_map (f : Str → Int → D) (ps : List (Str × Int)) : (ps.map kd).map (onK f) = ps.map fun p => f p.1 p.2 := by
  rw [List.map_map]
  rfl
theorem words_turn {room : Int} {ps : List (Str × Int)} (h : Kinds room ps) {x y v w : Option D} {p : Str × Int} (hp : p ∈ ps) (M : Mem) : turnL t_w_words (.tup (.cons (.nm 2) (.cons (.nm 3) .nil))) .yes e_w_words_1 [2, 3] [x, y, v, w] (kd p) M = some (.ok (some (.str (item p))), M) := by
  have a := good_len (h.good p hp)
  have b := h.size p hp
  have c := h.rhi
  have d := small_len (i := p.2) (by omega) (by omega)
  have z1 : p.1.length + (" " : Str).length ≤ sizeLine := by rw [lit_sp, sizeLine_eq]; omega
  have z2 : (p.1 ++ " ").length + (num p.2).length ≤ sizeLine := by rw [len_app, lit_sp, sizeLine_eq]; omega
  have z3 := str_num (i := p.2) (by omega)
  simp only [turnL, wipeE, e_w_words_1, bnd_ret, evG_tup, evG_nm, evGs_cons, evGs_nil, evT_yes, evE_bin, evE_var, evE_con, evE_bcall, evEs_cons, evEs_nil, List.set, List.length_cons, List.length_nil, len_cons, len_nil, if_true, getVar_0, getVar_s, add_str, if_pos z1, if_pos z2, z3, bnd_at, ret_at]
theorem words_spec {room : Int} {ps : List (Str × Int)} (h : Kinds room ps) (M : Mem) : ∃ N, f_w_words [.int room, kds ps] M = some (.ok (.str (W room ps)), M ++ N) := by
  have r1 := h.rlo
  have r2 := h.rhi
  have cm := compL_map (g := none) (turn := turnL t_w_words (.tup (.cons (.nm 2) (.cons (.nm 3) .nil))) .yes e_w_words_1 [2, 3] [some (.int room), some (kds ps), none, none]) (onK fun a i => .str (item (a, i))) M (fun _ => rfl) (ds := ps.map kd) (by rw [kds_len h, sizeLine_eq]; have := h.len6; omega) (by
    intro d acc hd
    obtain ⟨p, hp, rfl⟩ := List.mem_map.mp hd
    exact words_turn h hp _)
  rw [onK_map] at cm
  have hm : (M ++ [O.lst (ps.map fun p => D.str (item (p.1, p.2)))])[M.length]? = some (.lst ((ps.map item).map .str)) := by
    rw [List.map_map]
    exact get_new
  have jn := join_at hm (items_sum h)
  generalize O.lst (ps.map fun p => D.str (item (p.1, p.2))) = A at cm jn
  have il := items_len h
  have d := small_len (i := room) (by omega) (by omega)
  generalize hJ : Txt.join ", " (ps.map item) = J at jn il
  have z0 := str_num (i := room) (by omega)
  have z1 : ("room " : Str).length + (num room).length ≤ sizeLine := by rw [lit_room, sizeLine_eq]; omega
  have z2 : ("room " ++ num room : Str).length + ("; " : Str).length ≤ sizeLine := by rw [len_app, lit_room, lit_semi, sizeLine_eq]; omega
  have z3 : ("room " ++ num room ++ "; " : Str).length + J.length ≤ sizeLine := by rw [len_app, len_app, lit_room, lit_semi, sizeLine_eq]; omega
  refine ⟨[A], ?_⟩
  unfold W
  rw [hJ]
  simp only [f_w_words, runDef_eq, b_w_words, evSs_cons, evSs_nil, evS_rt, evE_bin, evE_con, evE_bcall, evE_bmeth, evEs_cons, evEs_nil, evE_var, evE_comp, evI_of, List.map, List.length_cons, List.length_nil, List.replicate, List.cons_append, List.nil_append, getVar_0, getVar_s, bnd_ret, bnd_assocS, z0, add_str, if_pos z1, if_pos z2, bmTy_j, tyChk_str, items_tup, bnd_at, new_at, ret_at, cm, jn, if_pos z3, thenS_rt, endF_rt]
end K
end
section
set_option Elab.async false
set_option linter.all false
set_option maxRecDepth 100000
set_option maxHeartbeats 4000000
namespace K
open PySem DL
section
variable {room : Int} {ps : List (Str × Int)}
theorem ne_ps : ("pairs" : Str) ≠ "space" := by decide +kernel
theorem ne_sp : ("space" : Str) ≠ "pairs" := by decide +kernel
theorem look_pairs : List.lookup ("pairs" : Str) [(("space" : Str), D.int room), ("pairs", kds ps)] = some (kds ps) := by
  rw [List.lookup_cons, List.lookup_cons, List.lookup_nil]
  have a : (("pairs" : Str) == "space") = false := by decide +kernel
  have b : (("pairs" : Str) == "pairs") = true := by decide +kernel
  rw [a, b]
theorem look_space : List.lookup ("space" : Str) [(("space" : Str), D.int room), ("pairs", kds ps)] = some (.int room) := by
  rw [List.lookup_cons]
  have b : (("space" : Str) == "space") = true := by decide +kernel
  rw [b]
theorem get_pairs {T : Tab} {k : ClsT} {M : Mem} {r : Nat} (hM : M[r]? = some (G room ps)) (hT : T.cls "Goods" = some k) (hp : k.prop "pairs" = none) (hf : k.fld = [("space" : Str), "pairs"]) : getAt T (.ref r) "pairs" M = some (.ok (kds ps), M) := getAt_fld hM hT hp (by rw [hf]; decide +kernel) look_pairs
theorem get_space {T : Tab} {k : ClsT} {M : Mem} {r : Nat} (hM : M[r]? = some (G room ps)) (hT : T.cls "Goods" = some k) (hp : k.prop "space" = none) (hf : k.fld = [("space" : Str), "pairs"]) : getAt T (.ref r) "space" M = some (.ok (.int room), M) := getAt_fld hM hT hp (by rw [hf]; decide +kernel) look_space
theorem str_turn (h : Kinds room ps) {x y v w : Option D} {p : Str × Int} (hp : p ∈ ps) (M : Mem) : turnL t_Goods_ddstrdd (.tup (.cons (.nm 3) (.cons (.nm 2) .nil))) .yes e_Goods_ddstrdd_1 [3, 2] [x, y, v, w] (kd p) M = some (.ok (some (.str (item p))), M) := by
  have a := good_len (h.good p hp)
  have b := h.size p hp
  have c := h.rhi
  have d := small_len (i := p.2) (by omega) (by omega)
  have z0 := fmt_str (y := p.1) (by rw [sizeLine_eq]; omega)
  have z1 : p.1.length ≤ sizeLine := by rw [sizeLine_eq]; omega
  have z2 : (p.1 ++ " ").length ≤ sizeLine := by rw [len_app, lit_sp, sizeLine_eq]; omega
  have z3 : (p.1 ++ " " ++ num p.2).length ≤ sizeLine := by rw [len_app, len_app, lit_sp, sizeLine_eq]; omega
  have z4 := fmt_num (i := p.2) (by omega)
  simp only [turnL, wipeE, e_Goods_ddstrdd_1, bnd_ret, evG_tup, evG_nm, evGs_cons, evGs_nil, evT_yes, evE_fstr, evE_fmt, evJ_cons, evJ_nil, evE_var, evE_con, List.set, List.length_cons, List.length_nil, len_cons, len_nil, if_true, getVar_0, getVar_s, z0, z4, glue_str, empty_app, if_pos z1, if_pos z2, if_pos z3, opt_some, bnd_at, ret_at]
theorem str_spec (h : Kinds room ps) {M : Mem} {r : Nat} (hM : M[r]? = some (G room ps)) : ∃ N, f_Goods_ddstrdd [.ref r] M = some (.ok (.str (W room ps)), M ++ N) := by
  have r1 := h.rlo
  have r2 := h.rhi
  have cm := compL_map (g := none) (turn := turnL t_Goods_ddstrdd (.tup (.cons (.nm 3) (.cons (.nm 2) .nil))) .yes e_Goods_ddstrdd_1 [3, 2] [some (.ref r), none, none, none]) (onK fun a i => .str (item (a, i))) M (fun _ => rfl) (ds := ps.map kd) (by rw [kds_len h, sizeLine_eq]; have := h.len6; omega) (by
    intro d acc hd
    obtain ⟨p, hp, rfl⟩ := List.mem_map.mp hd
    exact str_turn h hp _)
  rw [onK_map] at cm
  have hm : (M ++ [O.lst (ps.map fun p => D.str (item (p.1, p.2)))])[M.length]? = some (.lst ((ps.map item).map .str)) := by
    rw [List.map_map]
    exact get_new
  have jn := join_at hm (items_sum h)
  have gA : ∀ A : O, (M ++ [A])[r]? = some (G room ps) := fun A => get_app hM _
  generalize O.lst (ps.map fun p => D.str (item (p.1, p.2))) = A at cm jn
  have gp := get_pairs (T := t_Goods_ddstrdd) hM tc_Goods_ddstrdd_Goods rfl rfl
  have gs := get_space (T := t_Goods_ddstrdd) (gA A) tc_Goods_ddstrdd_Goods rfl rfl
  have il := items_len h
  have d := small_len (i := room) (by omega) (by omega)
  generalize hJ : Txt.join ", " (ps.map item) = J at jn il
  have z0 := fmt_num (i := room) (by omega)
  have z5 := fmt_str (y := J) (by rw [sizeLine_eq]; omega)
  have z4 : ("room " : Str).length ≤ sizeLine := by rw [lit_room, sizeLine_eq]; omega
  have z1 : ("room " ++ num room : Str).length ≤ sizeLine := by rw [len_app, lit_room, sizeLine_eq]; omega
  have z2 : ("room " ++ num room ++ "; " : Str).length ≤ sizeLine := by rw [len_app, len_app, lit_room, lit_semi, sizeLine_eq]; omega
  have z3 : ("room " ++ num room ++ "; " ++ J : Str).length ≤ sizeLine := by rw [len_app, len_app, len_app, lit_room, lit_semi, sizeLine_eq]; omega
  refine ⟨[A], ?_⟩
  unfold W
  rw [hJ]
  simp only [f_Goods_ddstrdd, runDef_eq, b_Goods_ddstrdd, evSs_cons, evSs_nil, evS_rt, evS_asg, evG_nm, evE_con, evE_bmeth, evE_attr, evE_fstr, evE_fmt, evJ_cons, evJ_nil, evEs_cons, evEs_nil, evE_var, evE_comp, evI_of, List.map, List.set, List.length_cons, List.length_nil, List.replicate, List.cons_append, List.nil_append, getVar_0, getVar_s, bnd_ret, bnd_assocS, bmTy_j, tyChk_str, items_tup, bnd_at, new_at, ret_at, gp, gs, cm, jn, z0, z5, glue_str, empty_app, if_pos z4, if_pos z1, if_pos z2, if_pos z3, opt_some, thenS_nx, thenS_rt, endF_rt]
theorem names_turn {x v w : Option D} {p : Str × Int} (M : Mem) : turnL t_Goods_names (.tup (.cons (.nm 2) (.cons (.nm 1) .nil))) .yes e_Goods_names_1 [2, 1] [x, v, w] (kd p) M = some (.ok (some (.str p.1)), M) := by
  simp [turnL, wipeE, e_Goods_names_1, bnd_at]
theorem sizes_turn {x v w : Option D} {p : Str × Int} (M : Mem) : turnL t_Goods_sizes (.tup (.cons (.nm 2) (.cons (.nm 1) .nil))) .yes e_Goods_sizes_1 [2, 1] [x, v, w] (kd p) M = some (.ok (some (.int p.2)), M) := by
  simp [turnL, wipeE, e_Goods_sizes_1, bnd_at]
theorem names_spec (h : Kinds room ps) {M : Mem} {r : Nat} (hM : M[r]? = some (G room ps)) : ∃ N, f_Goods_names [.ref r] M = some (.ok (.tup (ps.map fun p => .str p.1)), M ++ N) := by
  have cm := compL_map (g := none) (turn := turnL t_Goods_names (.tup (.cons (.nm 2) (.cons (.nm 1) .nil))) .yes e_Goods_names_1 [2, 1] [some (.ref r), none, none]) (onK fun a i => .str a) M (fun _ => rfl) (ds := ps.map kd) (by rw [kds_len h, sizeLine_eq]; have := h.len6; omega) (by
    intro d acc hd
    obtain ⟨p, hp, rfl⟩ := List.mem_map.mp hd
    exact names_turn _)
  rw [onK_map] at cm
  have tu := tuple_at (get_new (M := M) (N := []) (o := O.lst (ps.map fun p => D.str p.1)))
  generalize O.lst (ps.map fun p => D.str p.1) = A at cm tu
  have gp := get_pairs (T := t_Goods_names) hM tc_Goods_names_Goods rfl rfl
  refine ⟨[A], ?_⟩
  simp only [f_Goods_names, runDef_eq, b_Goods_names, evSs_cons, evSs_nil, evS_rt, evE_bcall, evE_attr, evEs_cons, evEs_nil, evE_var, evE_comp, evI_of, List.map, List.length_cons, List.length_nil, List.replicate, List.cons_append, List.nil_append, getVar_0, getVar_s, bnd_ret, bnd_assocS, items_tup, bnd_at, new_at, ret_at, gp, cm, tu, thenS_rt, endF_rt]
theorem sizes_spec (h : Kinds room ps) {M : Mem} {r : Nat} (hM : M[r]? = some (G room ps)) : ∃ N, f_Goods_sizes [.ref r] M = some (.ok (.tup (ps.map fun p => .int p.2)), M ++ N) := by
  have cm := compL_map (g := none) (turn := turnL t_Goods_sizes (.tup (.cons (.nm 2) (.cons (.nm 1) .nil))) .yes e_Goods_sizes_1 [2, 1] [some (.ref r), none, none]) (onK fun a i => .int i) M (fun _ => rfl) (ds := ps.map kd) (by rw [kds_len h, sizeLine_eq]; have := h.len6; omega) (by
    intro d acc hd
    obtain ⟨p, hp, rfl⟩ := List.mem_map.mp hd
    exact sizes_turn _)
  rw [onK_map] at cm
  have tu := tuple_at (get_new (M := M) (N := []) (o := O.lst (ps.map fun p => D.int p.2)))
  generalize O.lst (ps.map fun p => D.int p.2) = A at cm tu
  have gp := get_pairs (T := t_Goods_sizes) hM tc_Goods_sizes_Goods rfl rfl
  refine ⟨[A], ?_⟩
  simp only [f_Goods_sizes, runDef_eq, b_Goods_sizes, evSs_cons, evSs_nil, evS_rt, evE_bcall, evE_attr, evEs_cons, evEs_nil, evE_var, evE_comp, evI_of, List.map, List.length_cons, List.length_nil, List.replicate, List.cons_append, List.nil_append, getVar_0, getVar_s, bnd_ret, bnd_assocS, items_tup, bnd_at, new_at, ret_at, gp, cm, tu, thenS_rt, endF_rt]
theorem room_spec {M : Mem} {r : Nat} (hM : M[r]? = some (G room ps)) : f_Goods_room [.ref r] M = some (.ok (.int room), M) := by
  have gs := get_space (T := t_Goods_room) hM tc_Goods_room_Goods rfl rfl
  simp [f_Goods_room, runDef_eq, b_Goods_room, bnd_at, gs]
theorem kinds_spec {M : Mem} {r : Nat} (hM : M[r]? = some (G room ps)) : f_Goods_kinds [.ref r] M = some (.ok (kds ps), M) := by
  have gp := get_pairs (T := t_Goods_kinds) hM tc_Goods_kinds_Goods rfl rfl
  simp [f_Goods_kinds, runDef_eq, b_Goods_kinds, bnd_at, gp]
theorem len_spec {M : Mem} {r : Nat} (hM : M[r]? = some (G room ps)) : f_Goods_ddlendd [.ref r] M = some (.ok (.int ps.length), M) := by
  have gp := get_pairs (T := t_Goods_ddlendd) hM tc_Goods_ddlendd_Goods rfl rfl
  simp [f_Goods_ddlendd, runDef_eq, b_Goods_ddlendd, bnd_at, gp]
end
end K
end
section
set_option Elab.async false
set_option linter.all false
set_option maxRecDepth 100000
set_option maxHeartbeats 4000000
namespace K
open PySem DL
theorem dig_mem : ∀ k : Nat, k < 10 → 48 + k ∈ DIG := by decide +kernel
theorem dig_of {c : Nat} (h : 48 ≤ c ∧ c ≤ 57) : c ∈ DIG := by
  have := dig_mem (c - 48) (by omega)
  have e : 48 + (c - 48) = c := by omega
  rwa [e] at this
theorem let_low : ∀ c ∈ LET, c < 256 ∧ c ≠ 32 ∧ c ≠ 59 ∧ c ≠ 44 := by decide +kernel
theorem dig_low : ∀ c ∈ DIG, c < 256 ∧ c ≠ 32 ∧ c ≠ 59 ∧ c ≠ 44 := by decide +kernel
theorem good_low {w : Str} (g : GoodW w) : ∀ c ∈ w.cps.toList, c < 256 ∧ c ≠ 32 ∧ c ≠ 59 ∧ c ≠ 44 := fun c hc => (g.al c hc).elim (let_low c) (dig_low c)
theorem num_turn {c : Nat} (h : c ∈ DIG) {x v : Option D} (M : Mem) : turnL t_number_in (.nm 1) .yes e_number_in_1 [1] [x, v] (.str ⟨#[c]⟩) M = some (.ok (some (.bl true)), M) := by
  simp [turnL, wipeE, e_number_in_1, bnd_at, in_sign, h]
theorem number_spec {i : Int} (h : 0 ≤ i) (h2 : i ≤ 61) (M : Mem) : ∃ N, f_number_in [.str (num i)] M = some (.ok (.int i), M ++ N) := by
  have hl := small_len h h2
  have ec := num_tl h
  have l0 : 1 ≤ (num i).length := by
    have : (num i).length = (num i).cps.toList.length := by simp [Str.length]
    rw [this, ec]
    have := TL.numL_ne i.toNat
    cases hn : TL.numL i.toNat with
    | nil => exact absurd hn this
    | cons a b => simp
  have cm := compL_map (g := none) (turn := turnL t_number_in (.nm 1) .yes e_number_in_1 [1] [some (.str (num i)), none]) (fun _ => .bl true) M (fun _ => rfl) (ds := (num i).cps.toList.map fun c => D.str ⟨#[c]⟩) (by
      have : (num i).length = (num i).cps.toList.length := by simp [Str.length]
      rw [List.length_map, sizeLine_eq]; omega) (by
    intro d acc hd
    obtain ⟨x, hx, rfl⟩ := List.mem_map.mp hd
    rw [ec] at hx
    exact num_turn (dig_of (TL.numL_digits _ x hx)) _)
  have hm : (M ++ [O.lst (((num i).cps.toList.map fun c => D.str ⟨#[c]⟩).map fun _ => D.bl true)])[M.length]? = some (.lst (((num i).cps.toList.map fun _ => true).map D.bl)) := by
    rw [List.map_map, List.map_map]
    exact get_new
  have al := all_at hm
  rw [map_all] at al
  generalize O.lst (((num i).cps.toList.map fun c => D.str ⟨#[c]⟩).map fun _ => D.bl true) = A at cm al
  have l1 : (1 : Int) ≤ (num i).length := by omega
  have l2 : ((num i).length : Int) ≤ 2 := by omega
  have hz : (num i).length ≤ sizeLine := by rw [sizeLine_eq]; omega
  have hi := int_num (i := i) h (by omega)
  generalize num i = w at *
  refine ⟨[A], ?_⟩
  simp [f_number_in, runDef_eq, b_number_in, bnd_at, hz, l1, l2, cm, al, hi]
theorem part_item {room : Int} {ps : List (Str × Int)} (h : Kinds room ps) {p : Str × Int} (hp : p ∈ ps) : Txt.partition (item p) " " = (p.1, (" " : Str), num p.2) :=
  TL.partition_app (y := " ") (s := 32) (S := []) rfl fun hm => (good_low (h.good p hp) 32 hm).2.1 rfl
theorem pair_spec {room : Int} {ps : List (Str × Int)} (h : Kinds room ps) {p : Str × Int} (hp : p ∈ ps) (M : Mem) : ∃ N, f_pair_in [.str (item p)] M = some (.ok (kd p), M ++ N) := by
  have b := h.size p hp
  have c := h.rhi
  obtain ⟨N, e⟩ := number_spec (i := p.2) (by omega) (by omega) M
  have pa := part_at (M := M) (part_item h hp) (by decide +kernel) (by have := item_len h hp; omega)
  refine ⟨N, ?_⟩
  generalize item p = w at *
  simp [f_pair_in, runDef_eq, b_pair_in, bnd_at, pa, e, tupD_eq, sizeLine_eq]
theorem lit_low : Low "room " ∧ Low "; " ∧ Low ", " ∧ Low " " := by
  refine ⟨?_, ?_, ?_, ?_⟩ <;> (unfold Low; decide +kernel)
theorem item_low {room : Int} {ps : List (Str × Int)} (h : Kinds room ps) {p : Str × Int} (hp : p ∈ ps) : Low (item p) :=
  ((show Low p.1 from fun c hc => (good_low (h.good p hp) c hc).1).app lit_low.2.2.2).app (Low.num (by have := h.size p hp; omega))
theorem W_low {room : Int} {ps : List (Str × Int)} (h : Kinds room ps) : Low (W room ps) :=
  ((lit_low.1.app (Low.num (by have := h.rlo; omega))).app lit_low.2.1).app (Low.join lit_low.2.2.1 (by
    intro x hx
    obtain ⟨p, hp, rfl⟩ := List.mem_map.mp hx
    exact item_low h hp))
theorem room_free : 59 ∉ ("room " : Str).cps.toList := by decide +kernel
theorem part_W {room : Int} {ps : List (Str × Int)} (h : Kinds room ps) : Txt.partition (W room ps) "; " = ("room " ++ num room, ("; " : Str), Txt.join ", " (ps.map item)) := by
  refine TL.partition_app (y := "; ") (s := 59) (S := [32]) (by decide +kernel) fun hm => ?_
  rw [TL.tl_append] at hm
  rcases List.mem_append.mp hm with q | q
  · exact room_free q
  · have r := h.rlo
    have q' : 59 ∈ (num room).cps.toList := q
    rw [num_tl (by omega)] at q'
    exact TL.numL_free (by omega) q'
theorem split_W {room : Int} {ps : List (Str × Int)} (h : Kinds room ps) : Txt.split (Txt.join ", " (ps.map item)) ", " = ps.map item := by
  refine TL.split_join (y := ", ") (s := 44) (S := [32]) (by decide +kernel) (by decide +kernel) (fun e => ?_) ?_
  · have := h.len1
    rw [List.map_eq_nil_iff.mp e] at this
    simp at this
  · intro x hx hm
    obtain ⟨p, hp, rfl⟩ := List.mem_map.mp hx
    unfold item at hm
    rw [TL.tl_append, TL.tl_append] at hm
    rcases List.mem_append.mp hm with q | q
    · rcases List.mem_append.mp q with q | q
      · exact (good_low (h.good p hp) 44 q).2.2.2 rfl
      · revert q; decide +kernel
    · have r := h.size p hp
      have q' : 44 ∈ (num p.2).cps.toList := q
      rw [num_tl (by omega)] at q'
      exact TL.numL_free (by omega) q'
theorem read_spec {room : Int} {ps : List (Str × Int)} (h : Kinds room ps) (M : Mem) : ∃ r N, f_Goods_read [.glo "Goods", .str (W room ps)] M = some (.ok (.ref r), M ++ N) ∧ (M ++ N)[r]? = some (G room ps) := by
  have r1 := h.rlo
  have r2 := h.rhi
  have hd := small_len (i := room) (by omega) (by omega)
  have hW := W_len h
  have pa := part_at (M := M) (part_W h) (by decide +kernel) (by omega)
  have sl := slice_at (M := M) (a := "room " ++ num room) (lo := some 5) (hi := none) (cut_tail "room " (num room) 5 lit_room) (by rw [len_app, lit_room]; omega)
  obtain ⟨N1, e1⟩ := number_spec (i := room) (by omega) (by omega) M
  have cut := split_at (M := M ++ N1) (split_W h) (by decide +kernel) (by have := items_len h; omega)
  have hlist : (M ++ N1 ++ [O.lst ((ps.map item).map D.str)])[(M ++ N1).length]? = some (.lst ((ps.map item).map .str)) := get_new
  have it := items_at hlist
  obtain ⟨A, hA⟩ : ∃ A, A = M ++ N1 ++ [O.lst ((ps.map item).map D.str)] := ⟨_, rfl⟩
  rw [← hA] at cut hlist it
  obtain ⟨N2, e2, e3⟩ := compL_new (g := some ((M ++ N1).length, (ps.map item).map D.str)) (turn := turnL t_Goods_read (.nm 6) .yes e_Goods_read_1 [6] [some (.glo "Goods"), some (.str (W room ps)), some (.str ("room " ++ num room)), some (.str "; "), some (.str (Txt.join ", " (ps.map item))), none, none])
    (fun p => .str (item p)) kd ps A (by have := h.len6; omega) hlist (by
      intro p B hp
      obtain ⟨N, e⟩ := pair_spec h hp B
      refine ⟨N, ?_⟩
      generalize item p = w at *
      simp [turnL, wipeE, e_Goods_read_1, bnd_at, e])
  have em : ps.map (fun p => D.str (item p)) = (ps.map item).map D.str := by rw [List.map_map]; rfl
  rw [em] at e2
  have tu := tuple_at e3
  obtain ⟨N3, e4⟩ := make_spec (T := t_Goods_read) tc_Goods_read_Goods rfl h (A ++ N2)
  have hG : (A ++ N2 ++ G room ps :: N3)[(A ++ N2).length]? = some (G room ps) := get_new
  obtain ⟨N4, e5⟩ := str_spec h hG
  have du := dundO_at (T := t_Goods_read) (q := .str) hG (g := f_Goods_ddstrdd) rfl e5 (y := .str (W room ps)) rfl
  have ne := ne_str (W_low h).ok (W_low h).ok
  refine ⟨(A ++ N2).length, N1 ++ [O.lst ((ps.map item).map D.str)] ++ N2 ++ G room ps :: N3 ++ N4, ?_, ?_⟩
  · have eF : M ++ (N1 ++ [O.lst ((ps.map item).map D.str)] ++ N2 ++ G room ps :: N3 ++ N4) = A ++ N2 ++ G room ps :: N3 ++ N4 := by rw [hA]; simp
    rw [eF]
    clear hA hlist e3 eF hW hd em hG e5
    generalize A ++ N2 ++ G room ps :: N3 ++ N4 = F4 at *
    generalize A ++ N2 ++ G room ps :: N3 = F3 at *
    generalize A ++ N2 = F2 at *
    generalize M ++ N1 = F1 at *
    generalize W room ps = w at *
    generalize Txt.join ", " (ps.map item) = J at *
    generalize ("room " ++ num room : Str) = hd at *
    generalize num room = nr at *
    generalize (ps.map item).map D.str = its at *
    simp [f_Goods_read, runDef_eq, b_Goods_read, bnd_at, isiD, insOk, isAny, isInst, pa, optI, sl, e1, cut, it, e2, tu, glIs, e4, du, ne]
  · have eF : M ++ (N1 ++ [O.lst ((ps.map item).map D.str)] ++ N2 ++ G room ps :: N3 ++ N4) = A ++ N2 ++ G room ps :: N3 ++ N4 := by rw [hA]; simp
    rw [eF]
    exact get_app hG _
end K
end
section
set_option Elab.async false
set_option linter.all false
set_option maxRecDepth 100000
set_option maxHeartbeats 4000000
namespace K
open PySem DL
theorem good_ok {w : Str} (g : GoodW w) : PyData.strOk w = true := Low.ok fun c hc => (good_low g c hc).1
theorem rise_nodup {ps : List (Str × Int)} (h : Rising (ps.map (·.1))) : (ps.map (·.1)).Nodup := by
  refine List.Pairwise.imp ?_ h
  intro a b hab e
  rw [e] at hab
  exact absurd hab (List.lt_irrefl _)
theorem size_loop {p : Str × Int} {M : Mem} {r : Nat} (gp : GoodW p.1) : ∀ (l : List (Str × Int)) (v w : Option D), (∀ q ∈ l, GoodW q.1) → (l.map (·.1)).Nodup → p ∈ l →
    forL none (bodyF t_Goods_size_of (.tup (.cons (.nm 2) (.cons (.nm 3) .nil))) l_Goods_size_of_1) (l.map kd) [some (.ref r), some (.str p.1), v, w] M = some (.ok (.rt (.int p.2)), M)
  | [], v, w, _, _, hp => by cases hp
  | q :: l, v, w, hg, hn, hp => by
    have e := eq_str (good_ok gp) (good_ok (hg q List.mem_cons_self))
    rw [List.map_cons] at hn
    have hn2 := List.nodup_cons.mp hn
    rw [List.map_cons]
    by_cases hq : q = p
    · subst hq
      exact forL_rt rfl (by simp [bodyF, l_Goods_size_of_1, bnd_at, isiD, insOk, isAny, isInst, e])
    · have hp' : p ∈ l := by
        rcases List.mem_cons.mp hp with z | z
        · exact absurd z.symm hq
        · exact z
      have hne : p.1 ≠ q.1 := fun z => hn2.1 (by rw [← z]; exact List.mem_map_of_mem hp')
      have hb : (p.1 == q.1) = false := beq_false_of_ne hne
      rw [hb] at e
      rw [forL_step (e1 := [some (.ref r), some (.str p.1), some (.str q.1), some (.int q.2)]) (M1 := M) rfl (by simp [bodyF, l_Goods_size_of_1, bnd_at, isiD, insOk, isAny, isInst, e])]
      exact size_loop gp l _ _ (fun x hx => hg x (List.mem_cons_of_mem _ hx)) hn2.2 hp'
theorem size_spec {room : Int} {ps : List (Str × Int)} (h : Kinds room ps) {p : Str × Int} (hp : p ∈ ps) {M : Mem} {r : Nat} (hM : M[r]? = some (G room ps)) : f_Goods_size_of [.ref r, .str p.1] M = some (.ok (.int p.2), M) := by
  have gp := get_pairs (T := t_Goods_size_of) hM tc_Goods_size_of_Goods (by rfl) rfl
  have lo := size_loop (M := M) (r := r) (h.good p hp) ps none none h.good (rise_nodup h.rise) hp
  simp [f_Goods_size_of, runDef_eq, b_Goods_size_of, bnd_at, gp, lo]
/-! what is told, as data -/
abbrev pk (p : Str × Int) : PyData := .tuple [.str p.1, .int p.2]
abbrev Told (room : Int) (ps : List (Str × Int)) : PyData := .list [.int room, .tuple (ps.map pk), .tuple (ps.map fun p => .str p.1), .tuple (ps.map fun p => .int p.2), .int ps.length, .str (W room ps), .bool true]
abbrev toldL (room : Int) (ps : List (Str × Int)) : List D := [.int room, kds ps, .tup (ps.map fun p => .str p.1), .tup (ps.map fun p => .int p.2), .int ps.length, .str (W room ps), .bl true]
theorem told_py {room : Int} {ps : List (Str × Int)} {M : Mem} {m : Nat} (h : M[m]? = some (.lst (toldL room ps))) : toPy M 20 (.ref m) = some (Told room ps) := by
  have a : mapO (toPy M 18) (ps.map kd) = some (ps.map pk) := mapO_map kd pk ps fun p _ => rfl
  have b : mapO (toPy M 18) (ps.map fun p => D.str p.1) = some (ps.map fun p => PyData.str p.1) := mapO_map _ _ ps fun p _ => rfl
  have c : mapO (toPy M 18) (ps.map fun p => D.int p.2) = some (ps.map fun p => PyData.int p.2) := mapO_map _ _ ps fun p _ => rfl
  simp [toPy, h, mapO, a, b, c]
theorem good_okP {w : Str} (g : GoodW w) : okP (.str w) = true := by
  simp only [okP]
  exact low_iff.mpr fun c hc => (good_low g c hc).1
theorem int_okP {i : Int} (h : i.natAbs ≤ 1000) : okP (.int i) = true := by
  simp only [okP]
  exact decide_eq_true (by omega)
theorem told_ok {room : Int} {ps : List (Str × Int)} (h : Kinds room ps) : okP (Told room ps) = true ∧ (Told room ps).depth ≤ 60 ∧ (Told room ps).weight ≤ 2 ^ 20 := by
  have r1 := h.rlo
  have r2 := h.rhi
  have l := h.len6
  have hs : ∀ p ∈ ps, p.2.natAbs ≤ 1000 := fun p hp => by have := h.size p hp; omega
  have hl : ∀ p ∈ ps, p.1.length ≤ 8 := fun p hp => (good_len (h.good p hp)).2
  have o1 : okPs (ps.map pk) = true := okPs_map pk ps fun p hp => by
    have a := good_okP (h.good p hp)
    have b := int_okP (hs p hp)
    simp [okP, okPs] at a b ⊢
    exact ⟨a, b⟩
  have o2 := okPs_map (fun p : Str × Int => PyData.str p.1) ps fun p hp => good_okP (h.good p hp)
  have o3 := okPs_map (fun p : Str × Int => PyData.int p.2) ps fun p hp => int_okP (hs p hp)
  have o4 : okP (.str (W room ps)) = true := by simp only [okP]; exact low_iff.mpr (W_low h)
  have o5 := int_okP (i := room) (by omega)
  have o6 := int_okP (i := ps.length) (by omega)
  have d1 := depth_map pk 1 ps fun p hp => by simp [PyData.depth, PyData.depthAll]
  have d2 := depth_map (fun p : Str × Int => PyData.str p.1) 1 ps fun p hp => by simp [PyData.depth, PyData.depthAll]
  have d3 := depth_map (fun p : Str × Int => PyData.int p.2) 1 ps fun p hp => by simp [PyData.depth, PyData.depthAll]
  have w1 := weight_map pk 1100 ps fun p hp => by
    have a := weight_int (hs p hp)
    have b := weight_str (x := p.1)
    have c := hl p hp
    simp only [PyData.weight, PyData.weightAll] at a b ⊢
    omega
  have w2 := weight_map (fun p : Str × Int => PyData.str p.1) 1100 ps fun p hp => by
    have b := weight_str (x := p.1)
    have c := hl p hp
    omega
  have w3 := weight_map (fun p : Str × Int => PyData.int p.2) 1100 ps fun p hp => by
    have a := weight_int (hs p hp)
    omega
  have w4 := weight_str (x := W room ps)
  have w5 := W_len h
  have w6 := weight_int (i := room) (by omega)
  have w7 := weight_int (i := ps.length) (by omega)
  refine ⟨?_, ?_, ?_⟩
  · simp only [okP, okPs] at o1 o2 o3 o4 o5 o6 ⊢
    rw [o1, o2, o3, o4, o5, o6]
    rfl
  · simp only [PyData.depth, PyData.depthAll]
    omega
  · simp only [PyData.weight, PyData.weightAll] at w1 w2 w3 w4 w6 w7 ⊢
    omega
end K
end
section
set_option Elab.async false
set_option linter.all false
set_option maxRecDepth 100000
set_option maxHeartbeats 4000000
namespace K
open PySem DL
theorem m_size : methOf t_w_seen_right "Goods" "size_of" = some f_Goods_size_of := by rfl
theorem m_len : methOf t_w_seen_right "Goods" "__len__" = some f_Goods_ddlendd := by rfl
theorem m_str : methOf t_w_seen_right "Goods" "__str__" = some f_Goods_ddstrdd := by rfl
theorem p_kinds : c_w_seen_right_Goods.prop "kinds" = some f_Goods_kinds := by rfl
theorem p_room : c_w_seen_right_Goods.prop "room" = some f_Goods_room := by rfl
theorem p_names : c_w_seen_right_Goods.prop "names" = some f_Goods_names := by rfl
theorem p_sizes : c_w_seen_right_Goods.prop "sizes" = some f_Goods_sizes := by rfl
section
variable {room : Int} {ps : List (Str × Int)}
theorem look_size : (List.lookup ("size_of" : Str) [(("space" : Str), D.int room), ("pairs", kds ps)]).isNone = true := by
  rw [List.lookup_cons, List.lookup_cons, List.lookup_nil]
  have a : (("size_of" : Str) == "space") = false := by decide +kernel
  have b : (("size_of" : Str) == "pairs") = false := by decide +kernel
  rw [a, b]
  rfl
theorem two_py {M : Mem} {m : Nat} {i : Int} (h : M[m]? = some (.lst [.int i, .int i])) : toPy M 20 (.ref m) = some (.list [.int i, .int i]) := by
  simp [toPy, h, mapO]
theorem repr_two {M : Mem} {m : Nat} {i : Int} (hi : i.natAbs ≤ 1000) (h : M[m]? = some (.lst [.int i, .int i])) : bfun .repr [.ref m] M = some (.ok (.str (PyData.list [.int i, .int i]).shown), M) := by
  have a := int_okP hi
  have w := weight_int hi
  refine repr_at (two_py h) ?_ ?_ ?_
  · simp only [okP, okPs] at a ⊢
    rw [a]
    rfl
  · simp [PyData.depth, PyData.depthAll]
  · simp only [PyData.weight, PyData.weightAll] at w ⊢
    omega
theorem two_low {i : Int} (hi : i.natAbs ≤ 1000) : PyData.strOk (PyData.list [.int i, .int i]).shown = true := by
  refine Low.ok (shown_low _ ?_)
  have a := int_okP hi
  simp only [okP, okPs] at a ⊢
  rw [a]
  rfl
theorem seen_turn (h : Kinds room ps) {p : Str × Int} (hp : p ∈ ps) {M : Mem} {r : Nat} (hM : M[r]? = some (G room ps)) {x y z u v a b c : Option D} : ∃ N, bodyF t_w_seen_right (.tup (.cons (.nm 6) (.cons (.nm 7) .nil))) l_w_seen_right_3 (kd p) [some (.ref r), x, y, z, u, v, a, b, c] M = some (.ok (.nx [some (.ref r), x, y, z, u, v, some (.str p.1), some (.int p.2), c]), M ++ N) := by
  have hi : p.2.natAbs ≤ 1000 := by have := h.size p hp; have := h.rhi; omega
  have e1 := size_spec h hp hM
  have i1 := insOf_at (c := "Goods") hM
  have n1 : ∀ N : Mem, (N ++ [O.lst [.int p.2, .int p.2]])[N.length]? = some (.lst [.int p.2, .int p.2]) := fun N => get_new
  have q1 := repr_two hi (n1 M)
  have q2 := repr_two hi (n1 (M ++ [O.lst [.int p.2, .int p.2]]))
  have ne := ne_str (two_low hi) (two_low hi)
  generalize (PyData.list [.int p.2, .int p.2]).shown = s at q1 q2 ne
  refine ⟨[O.lst [.int p.2, .int p.2]] ++ [O.lst [.int p.2, .int p.2]], ?_⟩
  rw [← List.append_assoc]
  have o1 : ∀ vs, optF (some f_Goods_size_of) vs = noErr (f_Goods_size_of vs) := fun _ => rfl
  refine run_eq ?_
  try simp only [bodyF, l_w_seen_right_3, evG_tup, evG_nm, evGs_cons, evGs_nil, List.set, List.length_cons, List.length_nil, len_cons, len_nil, if_true, bnd_ret, run_bnd, run_ret, evSs_cons, evSs_nil, evS_cond, evT_bl, evE_cmp, evE_bcall, evE_lst, evEs_cons, evEs_nil, evE_ometh, evE_var, getVar_0, getVar_s]
  refine run_of i1 ?_
  try simp only [look_size, if_true, bnd_ret, run_bnd, run_ret, getVar_0, getVar_s, selD_arg, selD_nil, opt_some, List.append_nil, List.getElem?_cons_zero, m_size, o1, run_noErr]
  refine run_of e1 ?_
  refine run_of i1 ?_
  try simp only [look_size, if_true, bnd_ret, run_bnd, run_ret, getVar_0, getVar_s, selD_arg, selD_nil, opt_some, List.nil_append, List.getElem?_cons_zero, m_size, o1, run_noErr]
  refine run_of e1 ?_
  try simp only [run_ret]
  refine (run_lst (by simp)).mpr ?_
  refine run_of q1 ?_
  try simp only [getVar_0, getVar_s, run_ret, bnd_ret, run_bnd]
  refine (run_lst (by simp)).mpr ?_
  refine run_of q2 ?_
  try simp only [ne, run_ret, bnd_ret, beq_self_eq_true, Bool.not_true, asBl_bl, Bool.false_eq_true, if_false, run_bnd, evSs_nil, thenS_nx]
  exact ⟨trivial, trivial⟩
end
end K
end
section
set_option Elab.async false
set_option linter.all false
set_option maxRecDepth 100000
set_option maxHeartbeats 4000000
namespace K
open PySem DL
theorem dundD_len {i : Int} (h : 0 ≤ i ∧ i < 2 ^ 62) (M : Mem) : dundD .len (.int i) M = some (.ok (.int i), M) := by
  unfold dundD
  dsimp only
  rw [if_pos h]
  try rfl
theorem dundD_bool {i : Int} (h : 0 ≤ i ∧ i < 2 ^ 62) (h2 : i ≠ 0) (M : Mem) : dundD .bool (.int i) M = some (.ok (.bl true), M) := by
  unfold dundD
  dsimp only
  rw [if_pos h, decide_eq_true h2]
  try rfl
theorem two_le : (2 : Nat) ≤ sizeLine := by rw [sizeLine_eq]; decide
theorem seven_le : (7 : Nat) ≤ sizeLine := by rw [sizeLine_eq]; decide
section
variable {room : Int} {ps : List (Str × Int)}
theorem seen_loop (h : Kinds room ps) {M : Mem} {r : Nat} (hM : M[r]? = some (G room ps)) {x y z u v c : Option D} : ∃ a b N, forL none (bodyF t_w_seen_right (.tup (.cons (.nm 6) (.cons (.nm 7) .nil))) l_w_seen_right_3) (ps.map kd) [some (.ref r), x, y, z, u, v, none, none, c] M = some (.ok (.nx [some (.ref r), x, y, z, u, v, a, b, c]), M ++ N) := by
  obtain ⟨env', M', e, a, b, rfl, N, rfl⟩ := forL_0 (g := none) (turn := bodyF t_w_seen_right (.tup (.cons (.nm 6) (.cons (.nm 7) .nil))) l_w_seen_right_3) (ds := ps.map kd) (M := M) (env := [some (.ref r), x, y, z, u, v, none, none, c])
    (fun i env M' => ∃ a b, env = [some (.ref r), x, y, z, u, v, a, b, c] ∧ Ext M M') (fun _ _ _ _ => rfl) ⟨none, none, rfl, Ext.refl M⟩ (by
      rintro i d env M1 hi ⟨a, b, rfl, X⟩
      obtain ⟨p, hp, rfl⟩ := List.mem_map.mp (List.mem_of_getElem? hi)
      obtain ⟨N, e⟩ := seen_turn h hp (X.get hM) (x := x) (y := y) (z := z) (u := u) (v := v) (a := a) (b := b) (c := c)
      exact ⟨_, _, e, _, _, rfl, X.trans (Ext.add _ _)⟩)
  exact ⟨a, b, N, e⟩
theorem seen_spec (h : Kinds room ps) {M : Mem} {r : Nat} (hM : M[r]? = some (G room ps)) : ∃ N, f_w_seen_right [.ref r, .int room, kds ps] M = some (.ok (.bl true), M ++ N) := by
  have l6 := h.len6
  have l1 := h.len1
  have t1 : ∀ p ∈ ps, ∀ N : Mem, turnL t_w_seen_right (.nm 8) .yes e_w_seen_right_1 [8] [some (.ref r), some (.int room), some (kds ps), none, none, none, none, none, none] (kd p) N = some (.ok (some (.str p.1)), N) := by
    intro p _ N
    simp [turnL, wipeE, e_w_seen_right_1, bnd_at, ix_tup, at_0]
  have t2 : ∀ p ∈ ps, ∀ N : Mem, turnL t_w_seen_right (.nm 8) .yes e_w_seen_right_2 [8] [some (.ref r), some (.int room), some (kds ps), none, none, none, none, none, none] (kd p) N = some (.ok (some (.int p.2)), N) := by
    intro p _ N
    simp [turnL, wipeE, e_w_seen_right_2, bnd_at, ix_tup, at_1]
  obtain ⟨N1, c1, h1⟩ := compL_new (g := none) (turn := turnL t_w_seen_right (.nm 8) .yes e_w_seen_right_1 [8] [some (.ref r), some (.int room), some (kds ps), none, none, none, none, none, none]) kd (fun p => .str p.1) ps M (by omega) trivial (fun p N hp => ⟨[], by rw [t1 p hp, List.append_nil]⟩)
  have u1 := tuple_at h1
  have g1 : (M ++ N1)[r]? = some (G room ps) := get_app hM _
  obtain ⟨M1, hM1⟩ : ∃ A, A = M ++ N1 := ⟨_, rfl⟩
  rw [← hM1] at c1 u1 g1
  obtain ⟨N2, c2, h2⟩ := compL_new (g := none) (turn := turnL t_w_seen_right (.nm 8) .yes e_w_seen_right_2 [8] [some (.ref r), some (.int room), some (kds ps), none, none, none, none, none, none]) kd (fun p => .int p.2) ps M1 (by omega) trivial (fun p N hp => ⟨[], by rw [t2 p hp, List.append_nil]⟩)
  have u2 := tuple_at h2
  have g2 : (M1 ++ N2)[r]? = some (G room ps) := get_app g1 _
  obtain ⟨M2, hM2⟩ : ∃ A, A = M1 ++ N2 := ⟨_, rfl⟩
  rw [← hM2] at c2 u2 g2
  have a1 := getAt_prop (T := t_w_seen_right) g2 tc_w_seen_right_Goods p_room
  rw [noErr_at, room_spec g2] at a1
  have a2 := getAt_prop (T := t_w_seen_right) g2 tc_w_seen_right_Goods p_kinds
  rw [noErr_at, kinds_spec g2] at a2
  obtain ⟨N3, e3⟩ := names_spec h g2
  have a3 := getAt_prop (T := t_w_seen_right) g2 tc_w_seen_right_Goods p_names
  rw [noErr_at, e3] at a3
  have g3 : (M2 ++ N3)[r]? = some (G room ps) := get_app g2 _
  obtain ⟨M3, hM3⟩ : ∃ A, A = M2 ++ N3 := ⟨_, rfl⟩
  rw [← hM3] at a3 g3
  obtain ⟨N4, e4⟩ := sizes_spec h g3
  have a4 := getAt_prop (T := t_w_seen_right) g3 tc_w_seen_right_Goods p_sizes
  rw [noErr_at, e4] at a4
  have g4 : (M3 ++ N4)[r]? = some (G room ps) := get_app g3 _
  obtain ⟨M4, hM4⟩ : ∃ A, A = M3 ++ N4 := ⟨_, rfl⟩
  rw [← hM4] at a4 g4
  have b0 : (0 : Int) ≤ ps.length ∧ (ps.length : Int) < 2 ^ 62 := ⟨by omega, by omega⟩
  have a5 := dundO_at (T := t_w_seen_right) (q := .len) g4 m_len (len_spec g4) (y := .int ps.length) (M2 := M4) (dundD_len b0 M4)
  obtain ⟨N5, e5⟩ := str_spec h g4
  have a6 := dundO_at (T := t_w_seen_right) (q := .str) g4 m_str e5 (y := .str (W room ps)) rfl
  have g5 : (M4 ++ N5)[r]? = some (G room ps) := get_app g4 _
  obtain ⟨M5, hM5⟩ : ∃ A, A = M4 ++ N5 := ⟨_, rfl⟩
  rw [← hM5] at a6 g5
  have a7 := dundO_at (T := t_w_seen_right) (q := .bool) g5 m_len (len_spec g5) (y := .bl true) (M2 := M5) (dundD_bool b0 (by omega) M5)
  obtain ⟨ok, od, ow⟩ := told_ok h
  have q6 : (M5 ++ [O.lst (toldL room ps)])[M5.length]? = some (.lst (toldL room ps)) := get_new
  have r6 := repr_at (told_py q6) ok od ow
  have g6 : (M5 ++ [O.lst (toldL room ps)])[r]? = some (G room ps) := get_app g5 _
  obtain ⟨M6, hM6⟩ : ∃ A, A = M5 ++ [O.lst (toldL room ps)] := ⟨_, rfl⟩
  have n6 := hM6.symm
  rw [← hM6] at r6 g6
  obtain ⟨N7, e7⟩ := words_spec h M6
  have g7 : (M6 ++ N7)[r]? = some (G room ps) := get_app g6 _
  obtain ⟨M7, hM7⟩ : ∃ A, A = M6 ++ N7 := ⟨_, rfl⟩
  rw [← hM7] at e7 g7
  have q8 : (M7 ++ [O.lst (toldL room ps)])[M7.length]? = some (.lst (toldL room ps)) := get_new
  have r8 := repr_at (told_py q8) ok od ow
  have g8 : (M7 ++ [O.lst (toldL room ps)])[r]? = some (G room ps) := get_app g7 _
  obtain ⟨M8, hM8⟩ : ∃ A, A = M7 ++ [O.lst (toldL room ps)] := ⟨_, rfl⟩
  have n8 := hM8.symm
  rw [← hM8] at r8 g8
  have so := (shown_low _ ok).ok
  have ne := ne_str so so
  obtain ⟨av, bv, N9, e9⟩ := seen_loop h g8 (x := some (.int room)) (y := some (kds ps)) (z := some (.tup (ps.map fun p => .str p.1))) (u := some (.tup (ps.map fun p => .int p.2))) (v := some (.ref M5.length)) (c := none)
  refine ⟨N1 ++ N2 ++ N3 ++ N4 ++ N5 ++ [O.lst (toldL room ps)] ++ N7 ++ [O.lst (toldL room ps)] ++ N9, ?_⟩
  have eF : M ++ (N1 ++ N2 ++ N3 ++ N4 ++ N5 ++ [O.lst (toldL room ps)] ++ N7 ++ [O.lst (toldL room ps)] ++ N9) = M8 ++ N9 := by
    rw [hM8, hM7, hM6, hM5, hM4, hM3, hM2, hM1]
    simp
  rw [eF]
  clear eF hM8 hM7 hM6 hM5 hM4 hM3 hM2 hM1 q8 q6 t1 t2 h1 h2 ok od ow so e3 e4 e5
  generalize M8 ++ N9 = M9 at *
  generalize (Told room ps).shown = sh at *
  unfold toldL at n6 n8
  generalize W room ps = w at *
  generalize (ps.map fun p => D.str p.1) = ns at *
  generalize (ps.map fun p => D.int p.2) = ss at *
  have kl : bfun .len [kds ps] = DL.ret (.int ps.length) := by rw [len_tup, List.length_map]
  simp only [f_w_seen_right, runDef_eq, b_w_seen_right, evG_tup, evG_nm, evGs_cons, evGs_nil, List.set, List.map, List.length_cons, List.length_nil, List.replicate, len_cons, len_nil, if_true, bnd_ret, evSs_cons, evSs_nil, evS_cond, evS_asg, evS_for, evS_rt, evT_bl, evE_cmp, evE_con, evE_attr, evE_dund, evE_own, evE_tup, evE_comp, evI_of, evE_bcall, evE_lst, evEs_cons, evEs_nil, evE_var, getVar_0, getVar_s, bnd_at, items_tup, new_at, c1, c2, u1, u2, tupD_eq, if_pos two_le, if_pos seven_le, a1, a2, a3, a4, a5, a6, a7, lstD_eq, n6, n8, r6, r8, e7, e9, kl, selD_arg, selD_nil, opt_some, tf_w_seen_right_w_words, noErr_at, ne, ret_at, List.append_nil, List.nil_append, List.cons_append, List.getElem?_cons_zero, List.getElem?_cons_succ, asBl_bl, beq_self_eq_true, Bool.not_true, Nat.reduceAdd, Bool.false_eq_true, if_false, thenS_nx, thenS_rt, endF_rt, bnd_assocS]
  try rfl
end
end K
end
section
set_option Elab.async false
set_option linter.all false
set_option maxRecDepth 100000
set_option maxHeartbeats 4000000
namespace K
open PySem DL
theorem eq_data {M : Mem} {x y : D} {p q : PyData} (hx : toPy M 20 x = some p) (hy : toPy M 20 y = some q) (ox : okP p = true) (oy : okP q = true) (dx : p.depth ≤ 60) (dy : q.depth ≤ 60) : cmpD .eq x y M = some (.ok (.bl (PyData.eqv p q)), M) := by
  have sx : SeqAt.shaped p = true := by unfold SeqAt.shaped; rw [ok_lay p ox, Bool.true_and]; exact decide_eq_true (by omega)
  have sy : SeqAt.shaped q = true := by unfold SeqAt.shaped; rw [ok_lay q oy, Bool.true_and]; exact decide_eq_true (by omega)
  have e : eqD x y M = some (.ok (PyData.eqv p q), M) := by
    unfold eqD
    rw [hx, hy]
    dsimp only
    rw [sx, sy]
    rfl
  show bnd (eqD x y) _ M = _
  rw [bnd_ok e]
  try rfl
theorem eqv_pk (p q : Str × Int) : PyData.eqv (pk p) (pk q) = decide (p = q) := by
  obtain ⟨a, i⟩ := p
  obtain ⟨b, j⟩ := q
  rw [Bool.eq_iff_iff]
  simp [PyData.eqv, PyData.eqvAll]
theorem eqvs_pk : ∀ ps qs : List (Str × Int), PyData.eqvAll (ps.map pk) (qs.map pk) = decide (ps = qs)
  | [], [] => by simp [PyData.eqvAll]
  | [], q :: qs => by simp [PyData.eqvAll]
  | p :: ps, [] => by simp [PyData.eqvAll]
  | p :: ps, q :: qs => by
    rw [List.map_cons, List.map_cons]
    unfold PyData.eqvAll
    rw [eqv_pk, eqvs_pk ps qs, Bool.eq_iff_iff]
    simp
theorem kds_py (M : Mem) (ps : List (Str × Int)) : toPy M 20 (kds ps) = some (.tuple (ps.map pk)) := by
  have a : mapO (toPy M 19) (ps.map kd) = some (ps.map pk) := mapO_map kd pk ps fun p _ => rfl
  show (mapO (toPy M 19) (ps.map kd)).map PyData.tuple = _
  rw [a]
  rfl
theorem kds_ok {room : Int} {ps : List (Str × Int)} (h : Kinds room ps) : okP (.tuple (ps.map pk)) = true ∧ (PyData.tuple (ps.map pk)).depth ≤ 60 := by
  have o1 : okPs (ps.map pk) = true := okPs_map pk ps fun p hp => by
    have a := good_okP (h.good p hp)
    have b := int_okP (i := p.2) (by have := h.size p hp; have := h.rhi; omega)
    simp [okP, okPs] at a b ⊢
    exact ⟨a, b⟩
  have d1 := depth_map pk 1 ps fun p hp => by simp [PyData.depth, PyData.depthAll]
  refine ⟨by simp only [okP]; exact o1, ?_⟩
  simp only [PyData.depth]
  omega
theorem eq_kds {room far : Int} {ps qs : List (Str × Int)} (h : Kinds room ps) (g : Kinds far qs) (M : Mem) : cmpD .eq (kds ps) (kds qs) M = some (.ok (.bl (decide (ps = qs))), M) := by
  rw [eq_data (kds_py M ps) (kds_py M qs) (kds_ok h).1 (kds_ok g).1 (kds_ok h).2 (kds_ok g).2]
  have : PyData.eqv (.tuple (ps.map pk)) (.tuple (qs.map pk)) = decide (ps = qs) := by
    unfold PyData.eqv
    exact eqvs_pk ps qs
  rw [this]
theorem isi_goods {M : Mem} {r : Nat} {room : Int} {ps : List (Str × Int)} (hM : M[r]? = some (G room ps)) : isiD t_Goods_ddeqdd (.ref r) (.glo "Goods") M = some (.ok true, M) := by
  refine isi_true ?_ ?_
  · unfold insOk
    dsimp only
    rw [hM]
    dsimp only
    rw [tc_Goods_ddeqdd_Goods]
    rfl
  · show isCls M (.ref r) "Goods" = _
    unfold isCls
    dsimp only
    rw [hM]
    dsimp only
    rw [decide_eq_true rfl]
theorem own_eq {room far : Int} {ps qs : List (Str × Int)} (h : Kinds room ps) (g : Kinds far qs) {M : Mem} {r q : Nat} (hr : M[r]? = some (G room ps)) (hq : M[q]? = some (G far qs)) : f_Goods_ddeqdd [.ref r, .ref q] M = some (.ok (.bl (decide (room = far ∧ ps = qs))), M) := by
  have a1 := get_space (T := t_Goods_ddeqdd) hr tc_Goods_ddeqdd_Goods (by rfl) rfl
  have a2 := get_space (T := t_Goods_ddeqdd) hq tc_Goods_ddeqdd_Goods (by rfl) rfl
  have b1 := get_pairs (T := t_Goods_ddeqdd) hr tc_Goods_ddeqdd_Goods (by rfl) rfl
  have b2 := get_pairs (T := t_Goods_ddeqdd) hq tc_Goods_ddeqdd_Goods (by rfl) rfl
  have i1 := isi_goods hq
  have e := eq_kds h g M
  generalize kds ps = kp at *
  generalize kds qs = kq at *
  by_cases hf : room = far
  · by_cases hp : ps = qs
    · simp [f_Goods_ddeqdd, runDef_eq, b_Goods_ddeqdd, bnd_at, i1, a1, a2, b1, b2, e, hf, hp]
    · simp [f_Goods_ddeqdd, runDef_eq, b_Goods_ddeqdd, bnd_at, i1, a1, a2, b1, b2, e, hf, hp]
  · simp [f_Goods_ddeqdd, runDef_eq, b_Goods_ddeqdd, bnd_at, i1, a1, a2, b1, b2, e, hf]
theorem q_right : eqmOf t_w_right "Goods" = some f_Goods_ddeqdd := by rfl
theorem ins_right {M : Mem} {q : Nat} {far : Int} {qs : List (Str × Int)} (hq : M[q]? = some (G far qs)) : insOk t_w_right M (.ref q) = true := by
  unfold insOk
  dsimp only
  rw [hq]
  dsimp only
  rw [tc_w_right_Goods]
  rfl
theorem oeq_goods {room far : Int} {ps qs : List (Str × Int)} (h : Kinds room ps) (g : Kinds far qs) {M : Mem} {r q : Nat} (hr : M[r]? = some (G room ps)) (hq : M[q]? = some (G far qs)) (ne : Bool) : eqO t_w_right ne "Goods" (.ref r) (.ref q) M = some (.ok (.bl (if ne = true then !decide (room = far ∧ ps = qs) else decide (room = far ∧ ps = qs))), M) :=
  eqO_at (ins_right hq) rfl hr q_right (own_eq h g hr hq)
/-- == with what is no instance -/
theorem own_ne {M : Mem} {r : Nat} {y : D} (h1 : insOk t_Goods_ddeqdd M y = true) (h2 : isCls M y "Goods" = some false) : f_Goods_ddeqdd [.ref r, y] M = some (.ok (.bl false), M) := by
  have i1 : isiD t_Goods_ddeqdd y (.glo "Goods") M = some (.ok false, M) := by
    unfold isiD
    rw [if_pos h1]
    have e : isAny M y (.glo "Goods") = some false := h2
    rw [e]
  simp [f_Goods_ddeqdd, runDef_eq, b_Goods_ddeqdd, bnd_at, i1]
end K
end
section
set_option Elab.async false
set_option linter.all false
set_option maxRecDepth 100000
set_option maxHeartbeats 4000000
namespace K
open PySem DL
theorem cut_to {α : Type} (xs : List α) {k : Int} (h0 : 0 ≤ k) : cut xs none (some k) = xs.take k.toNat := by
  unfold cut
  have e : k = ((k.toNat : Nat) : Int) := by omega
  rw [e, HT.sIx_nat, HT.sIx_none, Int.toNat_natCast, List.drop_zero, Nat.sub_zero]
  rcases Nat.le_total k.toNat xs.length with h | h
  · rw [Nat.min_eq_left h]
  · rw [Nat.min_eq_right h, List.take_length, List.take_of_length_le h]
theorem cut_from {α : Type} (xs : List α) {k : Int} (h0 : 0 ≤ k) (h1 : k ≤ xs.length) : cut xs (some k) none = xs.drop k.toNat := by
  unfold cut
  have e : k = ((k.toNat : Nat) : Int) := by omega
  rw [e, HT.sIx_nat, HT.sIx_none, Int.toNat_natCast, Nat.min_eq_left (by omega)]
  exact List.take_of_length_le (by rw [List.length_drop]; omega)
theorem cut_last {α : Type} (xs : List α) (h : 1 ≤ xs.length) : cut xs none (some (-1)) = xs.take (xs.length - 1) := by
  unfold cut
  have e : HT.sIx xs.length xs.length (some (-1)) = xs.length - 1 := by
    unfold HT.sIx
    dsimp only
    rw [if_pos (by omega)]
    omega
  rw [e, HT.sIx_none, List.drop_zero, Nat.sub_zero]
variable {room : Int} {ps : List (Str × Int)}
/-- a variant: another list of the same or fewer names -/
theorem kinds_sub (h : Kinds room ps) {qs : List (Str × Int)} {far : Int} (hf : room ≤ far ∧ far ≤ 60) (hl : 1 ≤ qs.length) (hs : (qs.map (·.1)).Sublist (ps.map (·.1))) (hz : ∀ q ∈ qs, 1 ≤ q.2 ∧ q.2 ≤ far) : Kinds far qs := by
  have hlen : qs.length ≤ ps.length := by
    have := hs.length_le
    rwa [List.length_map, List.length_map] at this
  refine ⟨by have := h.rlo; omega, hf.2, hl, Nat.le_trans hlen h.len6, List.Pairwise.sublist hs h.rise, ?_, hz⟩
  intro q hq
  have : q.1 ∈ ps.map (·.1) := hs.subset (List.mem_map_of_mem hq)
  obtain ⟨p, hp, e⟩ := List.mem_map.mp this
  rw [← e]
  exact h.good p hp
theorem split_ps {a : Nat} {p : Str × Int} (hp : ps[a]? = some p) : ps = ps.take a ++ p :: ps.drop (a + 1) := by
  obtain ⟨ha, e⟩ := List.getElem?_eq_some_iff.mp hp
  have := List.take_append_drop a ps
  rw [List.drop_eq_getElem_cons ha, e] at this
  exact this.symm
theorem var1 (h : Kinds room ps) {a : Nat} {p : Str × Int} (hp : ps[a]? = some p) : Kinds room (ps.take a ++ [(p.1, p.2 % room + 1)] ++ ps.drop (a + 1)) ∧ ps.take a ++ [(p.1, p.2 % room + 1)] ++ ps.drop (a + 1) ≠ ps := by
  have hm := List.mem_of_getElem? hp
  have sp := split_ps hp
  have sz := h.size p hm
  have r := h.rlo
  constructor
  · refine kinds_sub h ⟨by omega, h.rhi⟩ (by simp; omega) ?_ ?_
    · have e : (ps.take a ++ [(p.1, p.2 % room + 1)] ++ ps.drop (a + 1)).map (·.1) = ps.map (·.1) := by
        conv => rhs; rw [sp]
        simp
      rw [e]
      exact List.Sublist.refl _
    · intro q hq
      rcases List.mem_append.mp hq with z | z
      · rcases List.mem_append.mp z with z | z
        · exact h.size q (List.mem_of_mem_take z)
        · have : q = (p.1, p.2 % room + 1) := by simpa using z
          rw [this]
          have := Int.emod_nonneg p.2 (show room ≠ 0 by omega)
          have := Int.emod_lt_of_pos p.2 (show 0 < room by omega)
          exact ⟨by show 1 ≤ p.2 % room + 1; omega, by show p.2 % room + 1 ≤ room; omega⟩
      · exact h.size q (List.mem_of_mem_drop z)
  · intro e
    have e2 : ps.take a ++ [(p.1, p.2 % room + 1)] ++ ps.drop (a + 1) = ps.take a ++ p :: ps.drop (a + 1) := e.trans sp
    rw [List.append_assoc] at e2
    have e3 := List.append_cancel_left e2
    have e4 : (p.1, p.2 % room + 1) = p := by
      have := List.cons.inj e3
      exact this.1
    have e5 : p.2 % room + 1 = p.2 := congrArg (·.2) e4
    by_cases hb : p.2 = room
    · rw [hb, Int.emod_self] at e5; omega
    · rw [Int.emod_eq_of_lt (by omega) (by omega)] at e5; omega
theorem var2 (h : Kinds room ps) (hr : room < 60) : Kinds (room + 1) ps := by
  refine kinds_sub h ⟨by omega, by omega⟩ h.len1 (List.Sublist.refl _) fun q hq => ?_
  have := h.size q hq
  omega
theorem var3 (h : Kinds room ps) (hl : 1 < ps.length) {a : Nat} {p : Str × Int} (hp : ps[a]? = some p) : Kinds room (ps.take a ++ ps.drop (a + 1)) ∧ ps.take a ++ ps.drop (a + 1) ≠ ps := by
  have sp := split_ps hp
  have hlen : (ps.take a ++ ps.drop (a + 1)).length + 1 = ps.length := by
    conv => rhs; rw [sp]
    simp
    omega
  constructor
  · refine kinds_sub h ⟨by omega, h.rhi⟩ (by omega) ?_ ?_
    · refine List.Sublist.map _ ?_
      conv => rhs; rw [sp]
      exact List.Sublist.append_left (List.sublist_cons_self _ _) _
    · intro q hq
      rcases List.mem_append.mp hq with z | z
      · exact h.size q (List.mem_of_mem_take z)
      · exact h.size q (List.mem_of_mem_drop z)
  · intro e
    rw [e] at hlen
    omega
end K
end
section
set_option Elab.async false
set_option linter.all false
set_option maxRecDepth 100000
set_option maxHeartbeats 4000000
namespace K
open PySem DL
theorem lt_app : ∀ (l : List Nat) (c : Nat), l < l ++ [c]
  | [], c => by simp
  | a :: l, c => by
    rw [List.cons_append]
    exact List.cons_lt_cons_iff.mpr (.inr ⟨rfl, lt_app l c⟩)
theorem lt_zz : ∀ (l : List Nat), (∀ c ∈ l, c ≤ 122) → l ≠ List.replicate l.length 122 → l < List.replicate l.length 122
  | [], _, h => absurd rfl h
  | a :: l, hc, h => by
    rw [List.length_cons, List.replicate_succ] at h ⊢
    by_cases ha : a = 122
    · subst ha
      exact List.cons_lt_cons_iff.mpr (.inr ⟨rfl, lt_zz l (fun c hx => hc c (List.mem_cons_of_mem _ hx)) fun e => h (by rw [← e])⟩)
    · have := hc a List.mem_cons_self
      exact List.cons_lt_cons_iff.mpr (.inl (by omega))
theorem let_z : ∀ c ∈ LET, c ≤ 122 := by decide +kernel
theorem dig_z : ∀ c ∈ DIG, c ≤ 122 := by decide +kernel
theorem zz_list : ("zzzzzzzz" : Str).cps.toList = List.replicate 8 122 := by decide +kernel
theorem zz_good : GoodW "zzzzzzzz" := by decide +kernel
abbrev farW (w : Str) : Str := if w.length = 8 then "zzzzzzzz" else w ++ "z"
theorem z_list (w : Str) : (w ++ "z").cps.toList = w.cps.toList ++ [122] := TL.tl_append w "z"
theorem far_good {w : Str} (g : GoodW w) : GoodW (farW w) := by
  unfold farW
  split
  · exact zz_good
  · rename_i h
    have hl : w.length = w.cps.toList.length := len_of w
    have := g.hi
    obtain ⟨c, r, e, hc⟩ := g.hd
    refine ⟨by rw [z_list]; simp, by rw [z_list, List.length_append, List.length_singleton]; omega, ⟨c, r ++ [122], by rw [z_list, e]; rfl, hc⟩, ?_⟩
    rw [z_list]
    intro x hx
    rcases List.mem_append.mp hx with z | z
    · exact g.al x z
    · have : x = 122 := by simpa using z
      rw [this]
      exact .inl (by decide +kernel)
theorem far_lt {w : Str} (g : GoodW w) (hne : farW w ≠ w) : w.cps.toList < (farW w).cps.toList := by
  unfold farW at hne ⊢
  split
  · rename_i h
    rw [if_pos h] at hne
    have hl : w.cps.toList.length = 8 := by rw [← len_of]; exact h
    rw [zz_list]
    have := lt_zz w.cps.toList (fun c hc => (g.al c hc).elim (let_z c) (dig_z c)) (by
      rw [hl]
      intro e
      exact hne (TL.ext_tl (by rw [show TL.tl ("zzzzzzzz" : Str) = List.replicate 8 122 from zz_list]; exact e.symm)))
    rwa [hl] at this
  · rw [z_list]
    exact lt_app _ _
theorem var4 {room : Int} {ps : List (Str × Int)} (h : Kinds room ps) {p : Str × Int} (hp : ps[ps.length - 1]? = some p) (hne : farW p.1 ≠ p.1) : Kinds room (ps.take (ps.length - 1) ++ [(farW p.1, p.2)]) ∧ ps.take (ps.length - 1) ++ [(farW p.1, p.2)] ≠ ps := by
  have l1 := h.len1
  have l6 := h.len6
  have sp := split_ps hp
  have ed : ps.drop (ps.length - 1 + 1) = [] := List.drop_eq_nil_of_le (by omega)
  rw [ed] at sp
  have hm := List.mem_of_getElem? hp
  have rise := h.rise
  rw [sp, List.map_append, List.map_cons, List.map_nil] at rise
  obtain ⟨ra, _, rc⟩ := List.pairwise_append.mp rise
  constructor
  · refine ⟨h.rlo, h.rhi, by simp, by rw [List.length_append, List.length_take]; simp; omega, ?_, ?_, ?_⟩
    · rw [List.map_append, List.map_cons, List.map_nil]
      refine List.pairwise_append.mpr ⟨ra, List.pairwise_singleton _ _, fun x hx y hy => ?_⟩
      have ey : y = farW p.1 := by simpa using hy
      rw [ey]
      exact List.lt_trans (rc x hx p.1 (by simp)) (far_lt (h.good p hm) hne)
    · intro q hq
      rcases List.mem_append.mp hq with z | z
      · exact h.good q (List.mem_of_mem_take z)
      · have : q = (farW p.1, p.2) := by simpa using z
        rw [this]
        exact far_good (h.good p hm)
    · intro q hq
      rcases List.mem_append.mp hq with z | z
      · exact h.size q (List.mem_of_mem_take z)
      · have : q = (farW p.1, p.2) := by simpa using z
        rw [this]
        exact h.size p hm
  · intro e
    have e2 := e.trans sp
    have e3 := List.append_cancel_left e2
    have e4 : (farW p.1, p.2) = p := (List.cons.inj e3).1
    exact hne (congrArg (·.1) e4)
end K
end
section
set_option Elab.async false
set_option linter.all false
set_option maxRecDepth 100000
set_option maxHeartbeats 4000000
namespace K
open PySem DL
abbrev vd (v : Int × List (Str × Int)) : D := .tup [.int v.1, kds v.2]
theorem lit_z : ("z" : Str).length = 1 := by decide +kernel
theorem far_ev {q : Str} (g : GoodW q) {a b c d e : Option D} {f w : Option D} (M : Mem) : evE t_w_others (.ite (.bl (.cmp .eq (.bcall .len (.cons (.var 5) (.nil))) (.con (.int 8)))) (.con (.str "zzzzzzzz")) (.bin .add (.var 5) (.con (.str "z")))) [a, b, c, d, e, some (.str q), f, w] M = some (.ok (.str (farW q)), M) := by
  have gl := good_len g
  have hz : q.length ≤ sizeLine := by rw [sizeLine_eq]; omega
  have hz2 : q.length + ("z" : Str).length ≤ sizeLine := by rw [sizeLine_eq, lit_z]; omega
  by_cases h8 : q.length = 8
  · have e8 : ((q.length : Int) == 8) = true := by simp [h8]
    simp [bnd_at, hz, farW, h8, sizeLine_eq]
  · have e8 : ((q.length : Int) == 8) = false := by
      have : (q.length : Int) ≠ 8 := by omega
      simpa using this
    have ef : farW q = q ++ "z" := if_neg h8
    rw [ef]
    simp only [evE_ite, evT_bl, evE_cmp, evE_bcall, evEs_cons, evEs_nil, evE_var, evE_con, evE_bin, getVar_0, getVar_s, bnd_ret, bnd_assocS, bnd_at, len_str, if_pos hz, eq_int, e8, asBl_bl, ret_at, Bool.false_eq_true, if_false, add_str, if_pos hz2]
theorem others_spec {room : Int} {ps : List (Str × Int)} (h : Kinds room ps) {M : Mem} {n : Nat} (hn : ∃ o, M[n]? = some o ∧ isPool o) : ∃ (m : Nat) (M' : Mem) (vs : List (Int × List (Str × Int))), f_w_others [.ref n, .int room, kds ps] M = some (.ok (.ref m), M') ∧ M'[m]? = some (.lst (vs.map vd)) ∧ vs.length ≤ 4 ∧ (∀ v ∈ vs, Kinds v.1 v.2 ∧ ¬ (v.1 = room ∧ v.2 = ps)) ∧ Grow n M M' ∧ M.length ≤ m := by
  have l1 := h.len1
  have l6 := h.len6
  have r1 := h.rlo
  have r2 := h.rhi
  have hlt : n < M.length := let ⟨o, e, _⟩ := hn; (List.getElem?_eq_some_iff.mp e).1
  have P0 : ∃ o, (M ++ [O.lst []])[n]? = some o ∧ isPool o := let ⟨o, e, p⟩ := hn; ⟨o, get_app e _, p⟩
  obtain ⟨d, M1, e1, d0, d1, G1, len1⟩ := draw_spec P0 (k := ps.length) (by omega) (by omega)
  have hm : M1[M.length]? = some (.lst []) := G1.keep _ _ (by omega) get_new
  have hs : ∀ x : O, (M1.set M.length x)[M.length]? = some x := fun x => get_set hm x
  obtain ⟨p, hp⟩ : ∃ p, ps[d.toNat]? = some p := ⟨ps[d.toNat]'(by omega), List.getElem?_eq_getElem (by omega)⟩
  obtain ⟨q, hq⟩ : ∃ q, ps[ps.length - 1]? = some q := ⟨ps[ps.length - 1]'(by omega), List.getElem?_eq_getElem (by omega)⟩
  have ea : L2.atI (ps.map kd) d = some (kd p) := by
    rw [at_pos d0 (by rw [List.length_map]; exact d1), List.getElem?_map, hp]
    rfl
  have eb : L2.atI (ps.map kd) (-1) = some (kd q) := by
    have e : L2.ixN (ps.map kd).length (-1) = some (ps.length - 1) := by
      unfold L2.ixN
      rw [if_neg (by omega), List.length_map, if_pos (by omega)]
      congr 1
      omega
    unfold L2.atI
    rw [e]
    show (ps.map kd)[ps.length - 1]? = _
    rw [List.getElem?_map, hq]
    rfl
  have c1 := cut_to (ps.map kd) d0
  have c2 := cut_from (ps.map kd) (k := d + 1) (by omega) (by rw [List.length_map]; omega)
  have c3 := cut_last (ps.map kd) (by rw [List.length_map]; exact l1)
  have et : (d + 1).toNat = d.toNat + 1 := by omega
  rw [← List.map_take] at c1
  rw [et, ← List.map_drop] at c2
  rw [List.length_map, ← List.map_take] at c3
  have gp := h.good q (List.mem_of_getElem? hq)
  have gl := good_len gp
  have z1 : ∀ (a b : List D), a.length ≤ 8 → b.length ≤ 8 → a.length + b.length ≤ sizeLine := fun a b ha hb => by rw [sizeLine_eq]; omega
  have lt1 : ((ps.take d.toNat).map kd).length ≤ 8 := by rw [List.length_map, List.length_take]; omega
  have ld1 : ((ps.drop (d.toNat + 1)).map kd).length ≤ 8 := by rw [List.length_map, List.length_drop]; omega
  have ll1 : ((ps.take (ps.length - 1)).map kd).length ≤ 8 := by rw [List.length_map, List.length_take]; omega
  have s1 : ∀ A : Mem, getSl (kds ps) none (some d) A = some (.ok (.tup ((ps.take d.toNat).map kd)), A) := fun A => by show some _ = _; rw [c1]
  have s2 : ∀ A : Mem, getSl (kds ps) (some (d + 1)) none A = some (.ok (.tup ((ps.drop (d.toNat + 1)).map kd)), A) := fun A => by show some _ = _; rw [c2]
  have s3 : ∀ A : Mem, getSl (kds ps) none (some (-1)) A = some (.ok (.tup ((ps.take (ps.length - 1)).map kd)), A) := fun A => by show some _ = _; rw [c3]
  have nz := ne_str (good_ok (far_good gp)) (good_ok gp)
  have v1 := var1 h hp
  have v3 := fun hl => var3 h hl hp
  have fe := fun (A : Mem) (a b c d e f w : Option D) => far_ev gp (a := a) (b := b) (c := c) (d := d) (e := e) (f := f) (w := w) A
  have ap : ∀ (xs : List D) (x : D), xs.length ≤ 8 → bmeth .append (.ref M.length) [x] (M1.set M.length (.lst xs)) = some (.ok .non, M1.set M.length (.lst (xs ++ [x]))) := by
    intro xs x hx
    rw [append_ref, hs]
    dsimp only
    rw [if_pos (by rw [sizeLine_eq]; omega), List.set_set]
  have ap0 : ∀ x : D, bmeth .append (.ref M.length) [x] M1 = some (.ok .non, M1.set M.length (.lst [x])) := by
    intro x
    rw [append_ref, hm]
    dsimp only
    rw [if_pos (by rw [sizeLine_eq]; decide)]
    rfl
  have ap1 : ∀ a x : D, bmeth .append (.ref M.length) [x] (M1.set M.length (.lst [a])) = some (.ok .non, M1.set M.length (.lst [a, x])) := fun a x => ap [a] x (Nat.le_of_ble_eq_true rfl)
  have ap2 : ∀ a b x : D, bmeth .append (.ref M.length) [x] (M1.set M.length (.lst [a, b])) = some (.ok .non, M1.set M.length (.lst [a, b, x])) := fun a b x => ap [a, b] x (Nat.le_of_ble_eq_true rfl)
  have ap3 : ∀ a b c x : D, bmeth .append (.ref M.length) [x] (M1.set M.length (.lst [a, b, c])) = some (.ok .non, M1.set M.length (.lst [a, b, c, x])) := fun a b c x => ap [a, b, c] x (Nat.le_of_ble_eq_true rfl)
  have nz' := ne_str (good_ok gp) (good_ok gp)
  have hb3 : farW q.1 ≠ q.1 → (farW q.1 == q.1) = false := fun z => beq_false_of_ne z
  have ty0 : tyChk "list" (.ref M.length) M1 = some (.ok (), M1) := by rw [tyChk_ref, hm]; rfl
  have ty1 : ∀ xs : List D, tyChk "list" (.ref M.length) (M1.set M.length (.lst xs)) = some (.ok (), M1.set M.length (.lst xs)) := fun xs => by rw [tyChk_ref, hs]; rfl
  have m1 : (ps.take d.toNat).map kd ++ [kd (p.1, p.2 % room + 1)] ++ (ps.drop (d.toNat + 1)).map kd = (ps.take d.toNat ++ [(p.1, p.2 % room + 1)] ++ ps.drop (d.toNat + 1)).map kd := by simp
  have m3 : (ps.take d.toNat).map kd ++ (ps.drop (d.toNat + 1)).map kd = (ps.take d.toNat ++ ps.drop (d.toNat + 1)).map kd := by simp
  have m4 : (ps.take (ps.length - 1)).map kd ++ [kd (farW q.1, q.2)] = (ps.take (ps.length - 1) ++ [(farW q.1, q.2)]).map kd := by simp
  have y1 : ((ps.take d.toNat).map kd).length + [kd (p.1, p.2 % room + 1)].length ≤ sizeLine := z1 _ _ lt1 (by simp)
  have y2 : ((ps.take d.toNat).map kd ++ [kd (p.1, p.2 % room + 1)]).length + ((ps.drop (d.toNat + 1)).map kd).length ≤ sizeLine := by
    rw [List.length_append, sizeLine_eq]
    have : [kd (p.1, p.2 % room + 1)].length = 1 := rfl
    omega
  have y3 : ((ps.take d.toNat).map kd).length + ((ps.drop (d.toNat + 1)).map kd).length ≤ sizeLine := z1 _ _ lt1 ld1
  have y4 : ((ps.take (ps.length - 1)).map kd).length + [kd (farW q.1, q.2)].length ≤ sizeLine := z1 _ _ ll1 (by simp)
  have add1 : binD .add (.tup ((ps.take d.toNat).map kd)) (.tup [.tup [.str p.1, .int (p.2 % room + 1)]]) = DL.ret (.tup ((ps.take d.toNat).map kd ++ [kd (p.1, p.2 % room + 1)])) := by rw [add_tup, if_pos y1]
  have add2 : binD .add (.tup ((ps.take d.toNat).map kd ++ [kd (p.1, p.2 % room + 1)])) (.tup ((ps.drop (d.toNat + 1)).map kd)) = DL.ret (kds (ps.take d.toNat ++ [(p.1, p.2 % room + 1)] ++ ps.drop (d.toNat + 1))) := by rw [add_tup, if_pos y2, m1]
  have add3 : binD .add (.tup ((ps.take d.toNat).map kd)) (.tup ((ps.drop (d.toNat + 1)).map kd)) = DL.ret (kds (ps.take d.toNat ++ ps.drop (d.toNat + 1))) := by rw [add_tup, if_pos y3, m3]
  have add4 : binD .add (.tup ((ps.take (ps.length - 1)).map kd)) (.tup [.tup [.str (farW q.1), .int q.2]]) = DL.ret (kds (ps.take (ps.length - 1) ++ [(farW q.1, q.2)])) := by rw [add_tup, if_pos y4, m4]
  have one_le : (1 : Nat) ≤ sizeLine := by rw [sizeLine_eq]; decide
  have zero_le : (0 : Nat) ≤ sizeLine := by rw [sizeLine_eq]; decide
  have kl : bfun .len [kds ps] = DL.ret (.int ps.length) := by rw [len_tup, List.length_map]
  have rp : (0 : Int) < room := by omega
  have neg1 : ∀ A : Mem, negD (.int 1) A = some (.ok (.int (-1)), A) := fun _ => rfl
  refine ⟨M.length, _, [(room, ps.take d.toNat ++ [(p.1, p.2 % room + 1)] ++ ps.drop (d.toNat + 1))] ++ (if room < 60 then [(room + 1, ps)] else []) ++ (if 1 < ps.length then [(room, ps.take d.toNat ++ ps.drop (d.toNat + 1))] else []) ++ (if farW q.1 = q.1 then [] else [(room, ps.take (ps.length - 1) ++ [(farW q.1, q.2)])]), ?_, get_set hm _, ?_, ?_, ?_, Nat.le_refl _⟩
  · have ec1 : ∀ (t : Tab), True := fun _ => trivial
    by_cases b1 : room < 60 <;> by_cases b2 : 1 < ps.length <;> by_cases b3 : farW q.1 = q.1
    all_goals
      have b2' : ((1 : Int) < (ps.length : Int)) = (1 < ps.length) := by rw [eq_iff_iff]; omega
      simp only [f_w_others, runDef_eq, b_w_others, evG_tup, evG_nm, evGs_cons, evGs_nil, List.set, List.map_cons, List.map_nil, List.length_cons, List.length_nil, List.replicate, len_cons, len_nil, if_true, bnd_ret, evSs_cons, evSs_nil, evS_cond, evS_asg, evS_ex, evS_rt, evT_bl, evE_cmp, evE_con, evE_own, evE_tup, evE_bcall, evE_bmeth, evE_lst, evE_bin, evE_ix, evE_slice, evE_neg, evO_no, evO_yes, evEs_cons, evEs_nil, evE_var, getVar_0, getVar_s, bnd_at, new_at, bmTy_a, tupD_eq, if_pos two_le, if_pos one_le, if_pos zero_le, kl, selD_arg, selD_nil, opt_some, tf_w_others_w_draw, noErr_at, e1, ret_at, lstD_eq, List.cons_append, List.nil_append, List.append_nil, List.getElem?_cons_zero, List.getElem?_cons_succ, bnd_assocS, ix_tup, ea, eb, s1, s2, s3, optI, fe, neg1, int_int, mod_int, if_pos rp, add_int, add1, add2, add3, add4, ty0, ty1, ap0, lt_int, gt_int, nz, asBl_bl, thenS_nx, thenS_rt, endF_rt, b1, b2, b3, b2', decide_true, decide_false, Bool.false_eq_true, if_false, beq_self_eq_true, Bool.not_true, ap1, ap2, ap3, nz', hb3, Bool.not_false, ne_eq, not_false_eq_true]
  · split <;> split <;> split <;> simp
  · intro v hv
    rcases List.mem_append.mp hv with hv | hv
    · rcases List.mem_append.mp hv with hv | hv
      · rcases List.mem_append.mp hv with hv | hv
        · have : v = _ := List.mem_singleton.mp hv
          rw [this]
          exact ⟨v1.1, fun e => v1.2 e.2⟩
        · by_cases c : room < 60
          · rw [if_pos c] at hv
            have : v = _ := List.mem_singleton.mp hv
            rw [this]
            exact ⟨var2 h c, fun e => by have := e.1; omega⟩
          · rw [if_neg c] at hv; cases hv
      · by_cases c : 1 < ps.length
        · rw [if_pos c] at hv
          have : v = _ := List.mem_singleton.mp hv
          rw [this]
          exact ⟨(v3 c).1, fun e => (v3 c).2 e.2⟩
        · rw [if_neg c] at hv; cases hv
    · by_cases c : farW q.1 = q.1
      · rw [if_pos c] at hv; cases hv
      · rw [if_neg c] at hv
        have : v = _ := List.mem_singleton.mp hv
        rw [this]
        exact ⟨(var4 h hq c).1, fun e => (var4 h hq c).2 e.2⟩
  · refine ⟨?_, fun i o hi e => ?_, ?_⟩
    · obtain ⟨o, ho, po⟩ := G1.pool
      exact ⟨o, by rw [List.getElem?_set_ne (by omega)]; exact ho, po⟩
    · have : i < M.length := (List.getElem?_eq_some_iff.mp e).1
      rw [List.getElem?_set_ne (by omega)]
      exact G1.keep i o hi (get_app e _)
    · rw [List.length_set, len1, List.length_append]
      omega
end K
end
section
set_option Elab.async false
set_option linter.all false
set_option maxRecDepth 100000
set_option maxHeartbeats 4000000
namespace K
open PySem DL
variable {room : Int} {ps : List (Str × Int)}
theorem mr_str : methOf t_w_right "Goods" "__str__" = some f_Goods_ddstrdd := by rfl
theorem pr_kinds : c_w_right_Goods.prop "kinds" = some f_Goods_kinds := by rfl
theorem pr_room : c_w_right_Goods.prop "room" = some f_Goods_room := by rfl
theorem cr_read : c_w_right_Goods.cmet "read" = some f_Goods_read := by rfl
/-- the loop over goods that are the same -/
theorem same_turn (h : Kinds room ps) {M : Mem} {r q : Nat} (hr : M[r]? = some (G room ps)) (hq : M[q]? = some (G room ps)) {p0 x4 x5 x6 x7 x8 x9 : Option D} : ∃ N, bodyF t_w_right (.nm 6) l_w_right_1 (.ref q) [p0, some (.int room), some (kds ps), some (.ref r), x4, x5, x6, x7, x8, x9] M =
    some (.ok (.nx [p0, some (.int room), some (kds ps), some (.ref r), x4, x5, some (.ref q), x7, x8, x9]), M ++ N) := by
  obtain ⟨N, e⟩ := seen_spec h hq
  have hr1 : (M ++ N)[r]? = some (G room ps) := get_app hr _
  have hq1 : (M ++ N)[q]? = some (G room ps) := get_app hq _
  have e1 := oeq_goods h h hq1 hr1 false
  have e2 := oeq_goods h h hr1 hq1 true
  simp only [and_self, decide_true, Bool.false_eq_true, if_false, if_true, Bool.not_true] at e1 e2
  refine ⟨N, ?_⟩
  generalize kds ps = kp at *
  simp only [bodyF, l_w_right_1, evG_nm, bnd_ret, List.set, evSs_cons, evSs_nil, evS_cond, evT_or, evT_nt, evT_val, evT_bl, evE_own, evE_cmp, evE_oeq, evE_con, evEs_cons, evEs_nil, evE_var, getVar_0, getVar_s, bnd_at, selD_arg, selD_nil, opt_some, tf_w_right_w_seen_right, noErr_at, e, e1, e2, ret_at, List.append_nil, List.nil_append, List.cons_append, List.getElem?_cons_zero, List.getElem?_cons_succ, tru_bl, isNot_bl, beq_self_eq_true, Bool.not_true, Bool.not_false, Bool.false_eq_true, if_false, if_true, asBl_bl, thenS_nx, bnd_assocS]
  try rfl
theorem same_loop (h : Kinds room ps) {M : Mem} {r L : Nat} {rs : List Nat} (hr : M[r]? = some (G room ps)) (hq : ∀ q ∈ rs, M[q]? = some (G room ps)) (hL : M[L]? = some (.lst (rs.map .ref))) {p0 x4 x5 x6 x7 x8 x9 : Option D} : ∃ y N, forL (some (L, rs.map .ref)) (bodyF t_w_right (.nm 6) l_w_right_1) (rs.map .ref) [p0, some (.int room), some (kds ps), some (.ref r), x4, x5, x6, x7, x8, x9] M =
    some (.ok (.nx [p0, some (.int room), some (kds ps), some (.ref r), x4, x5, y, x7, x8, x9]), M ++ N) := by
  obtain ⟨env', M', e, y, rfl, N, rfl⟩ := forL_0 (g := some (L, rs.map .ref)) (turn := bodyF t_w_right (.nm 6) l_w_right_1) (ds := rs.map .ref) (M := M) (env := [p0, some (.int room), some (kds ps), some (.ref r), x4, x5, x6, x7, x8, x9])
    (fun i env M' => ∃ y, env = [p0, some (.int room), some (kds ps), some (.ref r), x4, x5, y, x7, x8, x9] ∧ Ext M M') (fun i env M' ⟨_, _, X⟩ => chk_ref (X.get hL)) ⟨x6, rfl, Ext.refl M⟩ (by
      rintro i d env M1 hi ⟨y, rfl, X⟩
      obtain ⟨q, hqm, rfl⟩ := List.mem_map.mp (List.mem_of_getElem? hi)
      obtain ⟨N, e⟩ := same_turn h (X.get hr) (X.get (hq q hqm)) (p0 := p0) (x4 := x4) (x5 := x5) (x6 := y) (x7 := x7) (x8 := x8) (x9 := x9)
      exact ⟨_, _, e, _, rfl, X.trans (Ext.add _ _)⟩)
  exact ⟨y, N, e⟩
theorem other_turn (h : Kinds room ps) {v : Int × List (Str × Int)} (g : Kinds v.1 v.2) (hne : ¬ (v.1 = room ∧ v.2 = ps)) {M : Mem} {r : Nat} (hr : M[r]? = some (G room ps)) {p0 x4 x5 x6 x7 x8 x9 : Option D} : ∃ q N, bodyF t_w_right (.tup (.cons (.nm 7) (.cons (.nm 8) .nil))) l_w_right_2 (vd v) [p0, some (.int room), some (kds ps), some (.ref r), x4, x5, x6, x7, x8, x9] M =
    some (.ok (.nx [p0, some (.int room), some (kds ps), some (.ref r), x4, x5, some (.ref q), some (.int v.1), some (kds v.2), x9]), M ++ N) := by
  obtain ⟨N1, e0⟩ := make_spec (T := t_w_right) tc_w_right_Goods rfl g M
  have hq0 : (M ++ G v.1 v.2 :: N1)[M.length]? = some (G v.1 v.2) := get_new
  have hr0 : (M ++ G v.1 v.2 :: N1)[r]? = some (G room ps) := get_app hr _
  obtain ⟨A, hA⟩ : ∃ A, A = M ++ G v.1 v.2 :: N1 := ⟨_, rfl⟩
  rw [← hA] at e0 hq0 hr0
  have e1 := oeq_goods g h hq0 hr0 false
  have e2 := oeq_goods h g hr0 hq0 true
  have d1 : decide (v.1 = room ∧ v.2 = ps) = false := decide_eq_false hne
  have d2 : decide (room = v.1 ∧ ps = v.2) = false := decide_eq_false fun z => hne ⟨z.1.symm, z.2.symm⟩
  rw [d1] at e1
  rw [d2] at e2
  simp only [Bool.false_eq_true, if_false, if_true, Bool.not_false] at e1 e2
  obtain ⟨N2, e3⟩ := seen_spec g hq0
  refine ⟨M.length, G v.1 v.2 :: N1 ++ N2, ?_⟩
  rw [← List.append_assoc, ← hA]
  clear hA
  unfold vd
  generalize kds ps = kp at *
  generalize kds v.2 = kq at *
  simp only [bodyF, l_w_right_2, evG_nm, evG_tup, evGs_cons, evGs_nil, bnd_ret, List.set, List.length_cons, List.length_nil, len_cons, len_nil, evSs_cons, evSs_nil, evS_cond, evS_asg, evT_or, evT_nt, evT_val, evT_bl, evE_own, evE_make, evE_cmp, evE_oeq, evE_con, evEs_cons, evEs_nil, evE_var, getVar_0, getVar_s, bnd_at, selD_arg, selD_nil, opt_some, tf_w_right_w_seen_right, noErr_at, e0, e1, e2, e3, ret_at, List.append_nil, List.nil_append, List.cons_append, List.getElem?_cons_zero, List.getElem?_cons_succ, tru_bl, isNot_bl, beq_self_eq_true, Bool.not_true, Bool.not_false, Bool.false_eq_true, if_false, if_true, asBl_bl, thenS_nx, bnd_assocS]
  try rfl
theorem other_loop (h : Kinds room ps) {M : Mem} {r L : Nat} {vs : List (Int × List (Str × Int))} (hr : M[r]? = some (G room ps)) (hq : ∀ v ∈ vs, Kinds v.1 v.2 ∧ ¬ (v.1 = room ∧ v.2 = ps)) (hL : M[L]? = some (.lst (vs.map vd))) {p0 x4 x5 x6 x7 x8 x9 : Option D} : ∃ y6 y7 y8 N, forL (some (L, vs.map vd)) (bodyF t_w_right (.tup (.cons (.nm 7) (.cons (.nm 8) .nil))) l_w_right_2) (vs.map vd) [p0, some (.int room), some (kds ps), some (.ref r), x4, x5, x6, x7, x8, x9] M =
    some (.ok (.nx [p0, some (.int room), some (kds ps), some (.ref r), x4, x5, y6, y7, y8, x9]), M ++ N) := by
  obtain ⟨env', M', e, y6, y7, y8, rfl, N, rfl⟩ := forL_0 (g := some (L, vs.map vd)) (turn := bodyF t_w_right (.tup (.cons (.nm 7) (.cons (.nm 8) .nil))) l_w_right_2) (ds := vs.map vd) (M := M) (env := [p0, some (.int room), some (kds ps), some (.ref r), x4, x5, x6, x7, x8, x9])
    (fun i env M' => ∃ y6 y7 y8, env = [p0, some (.int room), some (kds ps), some (.ref r), x4, x5, y6, y7, y8, x9] ∧ Ext M M') (fun i env M' ⟨_, _, _, _, X⟩ => chk_ref (X.get hL)) ⟨x6, x7, x8, rfl, Ext.refl M⟩ (by
      rintro i d env M1 hi ⟨y6, y7, y8, rfl, X⟩
      obtain ⟨v, hv, rfl⟩ := List.mem_map.mp (List.mem_of_getElem? hi)
      obtain ⟨q, N, e⟩ := other_turn h (hq v hv).1 (hq v hv).2 (X.get hr) (p0 := p0) (x4 := x4) (x5 := x5) (x6 := y6) (x7 := y7) (x8 := y8) (x9 := x9)
      exact ⟨_, _, e, _, _, _, rfl, X.trans (Ext.add _ _)⟩)
  exact ⟨y6, y7, y8, N, e⟩
/-- values that are no goods -/
theorem oeq_ne {M : Mem} {r : Nat} {y : D} (hr : M[r]? = some (G room ps)) (h1 : insOk t_w_right M y = true) (h1' : insOk t_Goods_ddeqdd M y = true) (h2 : isCls M y "Goods" = some false) (h3 : plainR y = true) (ne : Bool) : eqO t_w_right ne "Goods" (.ref r) y M = some (.ok (.bl ne), M) := by
  have := eqO_at (T := t_w_right) (ne := ne) h1 h3 hr q_right (own_ne (r := r) h1' h2)
  rw [this]
  cases ne <;> rfl
end K
end
section
set_option Elab.async false
set_option linter.all false
set_option maxRecDepth 100000
set_option maxHeartbeats 4000000
namespace K
open PySem DL
variable {room : Int} {ps : List (Str × Int)}
theorem le16 {n : Nat} (h : n ≤ 1000) : n ≤ sizeLine := by rw [sizeLine_eq]; omega
theorem read_spec' (h : Kinds room ps) (M : Mem) : ∃ r N, optF (c_w_right_Goods.cmet "read") [.glo "Goods", .str (W room ps)] M = some (.ok (.ref r), M ++ N) ∧ (M ++ N)[r]? = some (G room ps) := by
  obtain ⟨r, N, e, g⟩ := read_spec h M
  refine ⟨r, N, ?_, g⟩
  rw [cr_read]
  show noErr _ M = _
  rw [noErr_at, e]
/-- a comparison of goods with values that are none -/
theorem comp_ne {M : Mem} {r m : Nat} {xs : List D} (ne : Bool) (e : CE) (he : e = .oeq ne "Goods" (.var 3) (.var 9)) (hr : M[r]? = some (G room ps)) (hm : M[m]? = some (.lst xs)) (hx : ∀ x ∈ xs, ∀ N, insOk t_w_right (M ++ N) x = true ∧ insOk t_Goods_ddeqdd (M ++ N) x = true ∧ isCls (M ++ N) x "Goods" = some false ∧ plainR x = true) (hl : xs.length ≤ 10)
    {p0 x1 x2 x4 x5 x6 x7 x8 x9 : Option D} : compL (some (m, xs)) M.length (turnL t_w_right (.nm 9) .yes e [9] [p0, x1, x2, some (.ref r), x4, x5, x6, x7, x8, x9]) xs (M ++ [.lst []]) = some (.ok (), M ++ [.lst (xs.map fun _ => .bl ne)]) := by
  refine compL_map (g := some (m, xs)) (fun _ => .bl ne) M (fun acc => chk_ref (get_app hm _)) (le16 (by omega)) fun d acc hd => ?_
  obtain ⟨a, b, c, f⟩ := hx d hd [.lst acc]
  have z := oeq_ne (get_app hr [O.lst acc]) a b c f ne
  subst he
  simp only [turnL, wipeE, List.set, evG_nm, bnd_ret, evT_yes, if_true, evE_oeq, evE_var, getVar_0, getVar_s, bnd_at, z, ret_at]
theorem mul_six {M : Mem} {m : Nat} {d : D} (h : M[m]? = some (.lst [d])) : binD .mul (.ref m) (.int 6) M = some (.ok (.ref M.length), M ++ [.lst [d, d, d, d, d, d]]) := by
  show (match M[m]? with | some (.lst xs) => if -(2 ^ 63) ≤ (6 : Int) ∧ (6 : Int) < 2 ^ 63 ∧ xs.length * (6 : Int).toNat ≤ sizeLine then new (.lst (List.replicate (6 : Int).toNat xs).flatten) M else none | _ => none) = _
  rw [h]
  dsimp only
  rw [if_pos ⟨by decide, by decide, le16 (by show 1 * 6 ≤ 1000; decide)⟩]
  rfl
theorem eq_six {M : Mem} {a b : Nat} (t : Bool) (ha : M[a]? = some (.lst [.bl t, .bl t, .bl t, .bl t, .bl t, .bl t])) (hb : M[b]? = some (.lst [.bl t, .bl t, .bl t, .bl t, .bl t, .bl t])) : cmpD .eq (.ref a) (.ref b) M = some (.ok (.bl true), M) := by
  have p : ∀ {n : Nat}, M[n]? = some (.lst [.bl t, .bl t, .bl t, .bl t, .bl t, .bl t]) → toPy M 20 (.ref n) = some (.list [.bool t, .bool t, .bool t, .bool t, .bool t, .bool t]) := fun h => by simp [toPy, h, mapO]
  rw [eq_data (p ha) (p hb) (by cases t <;> decide +kernel) (by cases t <;> decide +kernel) (by cases t <;> decide +kernel) (by cases t <;> decide +kernel)]
  cases t <;> rfl
abbrev six (t : Bool) : List D := [.bl t, .bl t, .bl t, .bl t, .bl t, .bl t]
local macro_rules
  | `(tactic| trivial) => `(tactic| try simp only [evG_tup, evG_nm, evG_sub, evG_att, evGs_cons, evGs_nil, List.set, List.map, List.length_cons, List.length_nil, List.replicate, len_cons, len_nil, if_true, if_false, Bool.false_eq_true, bnd_ret, run_bnd, run_ret, run_noErr, evSs_cons, evSs_nil, evS_asg, evS_ex, evS_rt, evS_rtN, evS_cond, evS_for, evS_pass, evS_cont, evS_brk, evS_try, evI_of, evI_rng, evI_rng2, evI_enum, evE_bin, evE_neg, evE_cmp, evE_chain, evE_ite, evE_bcall, evE_bmeth, evE_isi, evE_own, evE_make, evE_makeV, evE_ometh, evE_cmeth, evE_oeq, evE_dund, evE_attr, evE_ix, evE_slice, evE_tup, evE_lst, evE_comp, evE_fstr, evE_fmt, evE_andV, evE_orV, evE_notV, evE_tst, evT_val, evT_bl, evT_nt, evT_an, evT_or, evT_yes, evO_no, evO_yes, evEs_cons, evEs_nil, evE_var, evE_con, getVar_0, getVar_s, bnd_assocS, selD_arg, selD_nil, opt_some, List.getElem?_cons_zero, List.getElem?_cons_succ, List.cons_append, List.nil_append, List.append_nil, asBl_bl, tru_bl, tru_non, tru_int, thenS_nx, thenS_rt, thenS_bk, thenS_ct, endF_rt, endF_nx, Nat.reduceAdd, Nat.reduceSub, isNot_bl, isO_bl, tf_w_right_w_shape, tf_w_right_w_words, tf_w_right_w_others, tf_w_right_w_seen_right, tc_w_right_Goods])
theorem right_spec {M : Mem} {n : Nat} (hn : ∃ o, M[n]? = some o ∧ isPool o) : ∃ M', f_w_right [.ref n] M = some (.ok (.bl true), M') := by
  obtain ⟨wide, ps, M1, e1, h, G1⟩ := shape_spec hn
  have hw : wide.natAbs ≤ 1000 := by have := h.rlo; have := h.rhi; omega
  obtain ⟨N2, e2⟩ := make_spec (T := t_w_right) tc_w_right_Goods rfl h M1
  have r1 : (M1 ++ G wide ps :: N2)[M1.length]? = some (G wide ps) := get_new
  have X2 : Ext M1 (M1 ++ G wide ps :: N2) := Ext.add _ _
  generalize M1 ++ G wide ps :: N2 = M2 at *
  generalize M1.length = q1 at *
  obtain ⟨N3, e3⟩ := make_spec (T := t_w_right) tc_w_right_Goods rfl h M2
  have r2 : (M2 ++ G wide ps :: N3)[M2.length]? = some (G wide ps) := get_new
  have X3 : Ext M2 (M2 ++ G wide ps :: N3) := Ext.add _ _
  generalize M2 ++ G wide ps :: N3 = M3 at *
  generalize M2.length = q2 at *
  obtain ⟨N4, e4⟩ := words_spec h M3
  have X4 : Ext M3 (M3 ++ N4) := Ext.add _ _
  generalize M3 ++ N4 = M4 at *
  obtain ⟨q3, N5, e5, r3⟩ := read_spec' h M4
  have X5 : Ext M4 (M4 ++ N5) := Ext.add _ _
  generalize M4 ++ N5 = M5 at *
  have r2 := X5.get (X4.get r2)
  have r1 := X5.get (X4.get (X3.get r1))
  obtain ⟨N6, s6⟩ := str_spec h r2
  have e6 := dundO_at (T := t_w_right) (q := .str) r2 mr_str s6 (y := .str (W wide ps)) rfl
  have X6 : Ext M5 (M5 ++ N6) := Ext.add _ _
  generalize M5 ++ N6 = M6 at *
  obtain ⟨q4, N7, e7, r4⟩ := read_spec' h M6
  have X7 : Ext M6 (M6 ++ N7) := Ext.add _ _
  generalize M6 ++ N7 = M7 at *
  have r1 := X7.get (X6.get r1)
  have r2 := X7.get (X6.get r2)
  have r3 := X7.get (X6.get r3)
  have a1 := getAt_prop (T := t_w_right) r3 tc_w_right_Goods pr_room
  rw [noErr_at, room_spec r3] at a1
  have a2 := getAt_prop (T := t_w_right) r3 tc_w_right_Goods pr_kinds
  rw [noErr_at, kinds_spec r3] at a2
  obtain ⟨N8, e8⟩ := make_spec (T := t_w_right) tc_w_right_Goods rfl h M7
  have r5 : (M7 ++ G wide ps :: N8)[M7.length]? = some (G wide ps) := get_new
  have X8 : Ext M7 (M7 ++ G wide ps :: N8) := Ext.add _ _
  generalize M7 ++ G wide ps :: N8 = M8 at *
  generalize M7.length = q5 at *
  have X9 : Ext M8 (M8 ++ [.lst [.ref q1, .ref q2, .ref q3, .ref q4, .ref q5]]) := Ext.add _ _
  have hL : (M8 ++ [O.lst [.ref q1, .ref q2, .ref q3, .ref q4, .ref q5]])[M8.length]? = some (.lst ([q1, q2, q3, q4, q5].map .ref)) := get_new
  have e9 : lstD [.ref q1, .ref q2, .ref q3, .ref q4, .ref q5] M8 = some (.ok (.ref M8.length), M8 ++ [.lst [.ref q1, .ref q2, .ref q3, .ref q4, .ref q5]]) := by
    rw [lstD_eq, if_pos (le16 (by simp))]
    rfl
  generalize M8 ++ [O.lst [.ref q1, .ref q2, .ref q3, .ref q4, .ref q5]] = M9 at *
  generalize M8.length = L at *
  have i9 := items_at hL
  have r1 := X9.get (X8.get r1)
  have XX : Ext M1 M9 := X2.trans (X3.trans (X4.trans (X5.trans (X6.trans (X7.trans (X8.trans X9))))))
  obtain ⟨y6, N10, e10⟩ := same_loop h r1 (rs := [q1, q2, q3, q4, q5]) (by
    intro q hq
    simp only [List.mem_cons, List.not_mem_nil, or_false] at hq
    rcases hq with rfl | rfl | rfl | rfl | rfl
    · exact r1
    · exact X9.get (X8.get r2)
    · exact X9.get (X8.get r3)
    · exact X9.get (X8.get r4)
    · exact X9.get r5) hL (p0 := some (.ref n)) (x4 := some (.ref q2)) (x5 := some (.ref q3)) (x6 := none) (x7 := none) (x8 := none) (x9 := none)
  have X10 : Ext M9 (M9 ++ N10) := Ext.add _ _
  have hn9 : ∃ o, (M9 ++ N10)[n]? = some o ∧ isPool o := let ⟨o, ho, po⟩ := G1.pool; ⟨o, X10.get (XX.get ho), po⟩
  have r1 := X10.get r1
  generalize M9 ++ N10 = M10 at *
  obtain ⟨L2, M11, vs, e11, hL2, hv4, hv, G11, hle⟩ := others_spec h hn9
  have hnq : q1 ≠ n := by
    rintro rfl
    obtain ⟨o, ho, po⟩ := hn9
    rw [r1] at ho
    cases ho
    obtain ⟨_, _, _, z⟩ := po
    cases z
  have r1 := G11.keep _ _ hnq r1
  have i11 := items_at hL2
  obtain ⟨z6, z7, z8, N12, e12⟩ := other_loop h r1 hv hL2 (p0 := some (.ref n)) (x4 := some (.ref q2)) (x5 := some (.ref q3)) (x6 := y6) (x7 := none) (x8 := none) (x9 := none)
  have X12 : Ext M11 (M11 ++ N12) := Ext.add _ _
  have r1 := X12.get r1
  generalize M11 ++ N12 = M12 at *
  obtain ⟨N13, s13⟩ := str_spec h r1
  have e13 := dundO_at (T := t_w_right) (q := .str) r1 mr_str s13 (y := .str (W wide ps)) rfl
  have X13 : Ext M12 (M12 ++ N13) := Ext.add _ _
  have r1 := X13.get r1
  generalize M12 ++ N13 = M13 at *
  have e14 : lstD [.int wide, kds ps] M13 = some (.ok (.ref M13.length), M13 ++ [.lst [.int wide, kds ps]]) := by
    rw [lstD_eq, if_pos (le16 (by simp))]
    rfl
  have l14 : (M13 ++ [O.lst [.int wide, kds ps]])[M13.length]? = some (.lst [.int wide, kds ps]) := get_new
  have r1 := (Ext.add M13 [O.lst [.int wide, kds ps]]).get r1
  generalize M13 ++ [O.lst [.int wide, kds ps]] = M14 at *
  generalize M13.length = L3 at *
  have ew : W wide ps = W wide ps := rfl
  generalize hX : [D.non, .int wide, .str (W wide ps), kds ps, .tup [.int wide, kds ps], .ref L3] = xs
  have hxl : xs.length = 6 := by rw [← hX]; rfl
  have e15 : lstD xs M14 = some (.ok (.ref M14.length), M14 ++ [.lst xs]) := by
    rw [lstD_eq, if_pos (le16 (by omega))]
    rfl
  have l15 : (M14 ++ [O.lst xs])[M14.length]? = some (.lst xs) := get_new
  have r1 := (Ext.add M14 [O.lst xs]).get r1
  have l14 := (Ext.add M14 [O.lst xs]).get l14
  generalize M14 ++ [O.lst xs] = M15 at *
  generalize M14.length = L4 at *
  have hx : ∀ x ∈ xs, ∀ A N, Ext M15 A → insOk t_w_right (A ++ N) x = true ∧ insOk t_Goods_ddeqdd (A ++ N) x = true ∧ isCls (A ++ N) x "Goods" = some false ∧ plainR x = true := by
    rw [← hX]
    intro x hx A N XA
    have l3 := get_app (XA.get l14) N
    simp only [List.mem_cons, List.not_mem_nil, or_false] at hx
    rcases hx with rfl | rfl | rfl | rfl | rfl | rfl
    · exact ⟨rfl, rfl, rfl, rfl⟩
    · exact ⟨rfl, rfl, rfl, rfl⟩
    · exact ⟨rfl, rfl, rfl, rfl⟩
    · exact ⟨rfl, rfl, rfl, rfl⟩
    · exact ⟨rfl, rfl, rfl, rfl⟩
    · refine ⟨?_, ?_, ?_, rfl⟩
      · unfold insOk; dsimp only; rw [l3]
      · unfold insOk; dsimp only; rw [l3]
      · unfold isCls; dsimp only; rw [l3]
  have hmap : ∀ t : Bool, xs.map (fun _ => D.bl t) = six t := fun t => by rw [← hX]; rfl
  have c16 := comp_ne false e_w_right_4 rfl r1 l15 (fun x hxm N => hx x hxm M15 N (Ext.refl _)) (by omega) (p0 := some (.ref n)) (x1 := some (.int wide)) (x2 := some (kds ps)) (x4 := some (.ref q2)) (x5 := some (.ref q3)) (x6 := some (.ref L4)) (x7 := z7) (x8 := z8) (x9 := none)
  rw [hmap] at c16
  have i15 := items_at l15
  have l16 : (M15 ++ [O.lst (six false)])[M15.length]? = some (.lst (six false)) := get_new
  have X16 : Ext M15 (M15 ++ [O.lst (six false)]) := Ext.add _ _
  generalize hM16 : M15 ++ [O.lst (six false)] = M16 at *
  generalize hL5 : M15.length = L5 at *
  have e17 : lstD [.bl false] M16 = some (.ok (.ref M16.length), M16 ++ [.lst [.bl false]]) := by
    rw [lstD_eq, if_pos (le16 (by simp))]
    rfl
  have l17 : (M16 ++ [O.lst [.bl false]])[M16.length]? = some (.lst [.bl false]) := get_new
  have X17 : Ext M16 (M16 ++ [O.lst [.bl false]]) := Ext.add _ _
  generalize M16 ++ [O.lst [.bl false]] = M17 at *
  generalize M16.length = L6 at *
  have e18 := mul_six l17
  have l18 : (M17 ++ [O.lst (six false)])[M17.length]? = some (.lst (six false)) := get_new
  have X18 : Ext M17 (M17 ++ [O.lst (six false)]) := Ext.add _ _
  generalize M17 ++ [O.lst (six false)] = M18 at *
  generalize M17.length = L7 at *
  have e19 := eq_six false (X18.get (X17.get l16)) l18
  have XE : Ext M15 M18 := X16.trans (X17.trans X18)
  have r1 := XE.get r1
  have l15 := XE.get l15
  have i19 := items_at l15
  have c20 := comp_ne true e_w_right_3 rfl r1 l15 (fun x hxm N => hx x hxm M18 N XE) (by omega) (p0 := some (.ref n)) (x1 := some (.int wide)) (x2 := some (kds ps)) (x4 := some (.ref q2)) (x5 := some (.ref q3)) (x6 := some (.ref L4)) (x7 := z7) (x8 := z8) (x9 := none)
  rw [hmap] at c20
  have l20 : (M18 ++ [O.lst (six true)])[M18.length]? = some (.lst (six true)) := get_new
  generalize hM20 : M18 ++ [O.lst (six true)] = M20 at *
  generalize hL8 : M18.length = L8 at *
  have e21 : lstD [.bl true] M20 = some (.ok (.ref M20.length), M20 ++ [.lst [.bl true]]) := by
    rw [lstD_eq, if_pos (le16 (by simp))]
    rfl
  have l21 : (M20 ++ [O.lst [.bl true]])[M20.length]? = some (.lst [.bl true]) := get_new
  have X21 : Ext M20 (M20 ++ [O.lst [.bl true]]) := Ext.add _ _
  generalize M20 ++ [O.lst [.bl true]] = M21 at *
  generalize M20.length = L9 at *
  have e22 := mul_six l21
  have l22 : (M21 ++ [O.lst (six true)])[M21.length]? = some (.lst (six true)) := get_new
  have X22 : Ext M21 (M21 ++ [O.lst (six true)]) := Ext.add _ _
  generalize M21 ++ [O.lst (six true)] = M22 at *
  generalize M21.length = L10 at *
  have e23 := eq_six true (X22.get (X21.get l20)) l22
  have one_le : (1 : Nat) ≤ sizeLine := le16 (by decide)
  have three_le : (3 : Nat) ≤ sizeLine := le16 (by decide)
  generalize W wide ps = wt at *
  generalize kds ps = kp at *
  subst hX
  clear hx hmap l14 l15 r1 r2 r3 r4 r5 hv hn9 G11 G1
  have n16 : ∀ o, new o M15 = some (.ok (.ref L5), M15 ++ [o]) := fun o => by rw [← hL5]; rfl
  have n20 : ∀ o, new o M18 = some (.ok (.ref L8), M18 ++ [o]) := fun o => by rw [← hL8]; rfl
  simp only [List.map] at e10 i9
  suffices go : Run (f_w_right [.ref n]) M fun a _ => a = .bl true by
    obtain ⟨a, M', e, rfl⟩ := go
    exact ⟨M', e⟩
  simp only [f_w_right, runDef_eq, b_w_right, evSs_cons, evS_asg, evE_own, evEs_cons, evEs_nil, evE_var, List.map, List.length_cons, List.length_nil, List.replicate, List.cons_append, List.nil_append, List.append_nil, getVar_0, getVar_s, bnd_ret, bnd_assocS, selD_arg, selD_nil, opt_some, List.getElem?_cons_zero, tf_w_right_w_shape, run_bnd, run_noErr]
  refine run_of e1 ?_
  trivial
  refine run_of e2 ?_
  trivial
  refine run_of e3 ?_
  trivial
  refine run_of e4 ?_
  trivial
  refine run_of e5 ?_
  trivial
  refine (run_tup (by simp)).mpr ?_
  trivial
  refine run_of e6 ?_
  trivial
  refine run_of e7 ?_
  trivial
  refine run_of a1 ?_
  trivial
  refine run_of a2 ?_
  trivial
  refine run_of e8 ?_
  trivial
  refine run_of e9 ?_
  trivial
  refine run_of i9 ?_
  trivial
  refine run_of e10 ?_
  trivial
  refine run_of e11 ?_
  trivial
  refine run_of i11 ?_
  trivial
  refine run_of e12 ?_
  trivial
  refine run_of e13 ?_
  trivial
  refine (run_tup (by simp)).mpr ?_
  trivial
  refine run_of e14 ?_
  trivial
  refine run_of e15 ?_
  trivial
  refine run_of i15 ?_
  trivial
  refine run_of (n16 _) ?_
  trivial
  refine run_of c16 ?_
  trivial
  refine run_of e17 ?_
  trivial
  refine run_of e18 ?_
  trivial
  refine run_of e19 ?_
  trivial
  refine run_of i19 ?_
  trivial
  refine run_of (n20 _) ?_
  trivial
  refine run_of c20 ?_
  trivial
  refine run_of e21 ?_
  trivial
  refine run_of e22 ?_
  trivial
  refine run_of e23 ?_
  trivial
end K
end
section
set_option Elab.async false
set_option linter.all false
set_option maxRecDepth 100000
set_option maxHeartbeats 4000000
namespace K
open PySem DL
local macro_rules
  | `(tactic| trivial) => `(tactic| try simp only [evG_tup, evG_nm, evG_sub, evG_att, evGs_cons, evGs_nil, List.set, List.map, List.length_cons, List.length_nil, List.replicate, len_cons, len_nil, if_true, if_false, Bool.false_eq_true, bnd_ret, run_bnd, run_ret, run_noErr, evSs_cons, evSs_nil, evS_asg, evS_ex, evS_rt, evS_rtN, evS_cond, evS_for, evS_pass, evS_cont, evS_brk, evS_try, evI_of, evI_rng, evI_rng2, evI_enum, evE_bin, evE_neg, evE_cmp, evE_chain, evE_ite, evE_bcall, evE_bmeth, evE_isi, evE_own, evE_make, evE_makeV, evE_ometh, evE_cmeth, evE_oeq, evE_dund, evE_attr, evE_ix, evE_slice, evE_tup, evE_lst, evE_comp, evE_fstr, evE_fmt, evE_andV, evE_orV, evE_notV, evE_tst, evT_val, evT_bl, evT_nt, evT_an, evT_or, evT_yes, evO_no, evO_yes, evEs_cons, evEs_nil, evE_var, evE_con, getVar_0, getVar_s, bnd_assocS, selD_arg, selD_nil, opt_some, List.getElem?_cons_zero, List.getElem?_cons_succ, List.cons_append, List.nil_append, List.append_nil, asBl_bl, tru_bl, tru_non, tru_int, thenS_nx, thenS_rt, thenS_bk, thenS_ct, endF_rt, endF_nx, Nat.reduceAdd, Nat.reduceSub, Bool.not_true, Bool.not_false, isNot_bl, isO_bl, tf_law_w_cell, tf_law_w_pool, tf_law_w_right, len_fl, min_int, max_int, lt_int, int_int, add_int, mul_int, mod_int])
theorem run_at {α : Type} {m : R α} {M : Mem} {Q : α → Mem → Prop} (h : Run m M Q) {a : α} {M' : Mem} (e : m M = some (.ok a, M')) : Q a M' := by
  obtain ⟨b, N, e', q⟩ := h
  rw [e] at e'
  cases e'
  exact q
theorem small_of {i : Int} (h : -18446744073709551616 < i) (h2 : i < 18446744073709551616) : small i = true := by
  unfold small
  exact decide_eq_true ⟨by omega, by omega⟩
/-- the loop that mixes cells -/
theorem cell_loop {L : Nat} {xs : List D} {cells k : Option D} : ∀ (ns : List Int) (M : Mem) (z : Int) (y : Option D), 0 ≤ z → z ≤ 1000000000000 → M[L]? = some (.lst xs) → ∃ z' y', 0 ≤ z' ∧ z' ≤ 1000000000000 ∧ forL (some (L, xs)) (bodyF t_w_cell (.nm 3) l_w_cell_1) (ns.map .int) [cells, k, some (.int z), y] M = some (.ok (.nx [cells, k, some (.int z'), y']), M)
  | [], M, z, y, h0, h1, h => ⟨z, y, h0, h1, by
      show bnd (chk _) _ M = _
      rw [bnd_ok (chk_ref h)]⟩
  | n :: ns, M, z, y, h0, h1, h => by
    obtain ⟨z', y', a, b, e⟩ := cell_loop ns M ((z * 61417 + n) % 2147483579) (some (.int n)) (by omega) (by omega) h
    refine ⟨z', y', a, b, ?_⟩
    rw [List.map_cons]
    refine (forL_step (chk_ref h) ?_).trans e
    have s : small z = true := small_of (by omega) (by omega)
    refine run_eq ?_
    unfold bodyF l_w_cell_1
    trivial
    simp only [s, Bool.true_or, if_true, run_ret, bnd_ret, add_int, int_int, mod_int, Int.reduceLT, thenS_nx, evSs_nil, evG_nm, List.set, run_bnd]
    exact ⟨trivial, trivial⟩
theorem cell_spec {M : Mem} {ns : List Int} {k : Int} (hl : ns.length ≤ 63) (h0 : 0 ≤ k) (h1 : k ≤ 100) : ∃ c M', f_w_cell [.fl (ns.map .int), .int k] M = some (.ok (.int c), M') := by
  suffices go : Run (f_w_cell [.fl (ns.map .int), .int k]) M fun a _ => ∃ c, a = .int c by
    obtain ⟨a, M', e, c, rfl⟩ := go
    exact ⟨c, M', e⟩
  unfold f_w_cell b_w_cell
  rw [runDef_eq]
  trivial
  by_cases hk : k < ((ns.map D.int).length : Int)
  · simp only [hk, decide_true, if_true, asBl_bl, run_ret]
    trivial
    rw [List.length_map] at hk
    have e : L2.atI (ns.map D.int) k = some (.int (ns[k.toNat]'(by omega))) := by
      rw [at_pos h0 (by rw [List.length_map]; exact hk), List.getElem?_map, List.getElem?_eq_getElem (by omega)]
      rfl
    have e2 : getIx (.fl (ns.map D.int)) (.int k) M = some (.ok (.int (ns[k.toNat]'(by omega))), M) := by rw [ix_fl, e]
    refine run_of e2 ?_
    trivial
    exact ⟨_, rfl⟩
  · simp only [hk, decide_false, Bool.false_eq_true, if_false, asBl_bl, run_ret]
    trivial
    have s1 : small 60013 = true := small_of (by decide) (by decide)
    have s2 : small 41 = true := small_of (by decide) (by decide)
    have s3 : small k = true := small_of (by omega) (by omega)
    have s4 : small 5 = true := small_of (by decide) (by decide)
    have kk : 0 ≤ k * k ∧ k * k ≤ 10000 := ⟨Int.mul_nonneg h0 h0, Int.mul_le_mul h1 h1 h0 (by omega)⟩
    have kk2 : 60013 * k * k = 60013 * (k * k) := Int.mul_assoc _ _ _
    simp only [s1, Bool.true_or, if_true, run_ret, mul_int, s3, Bool.or_true, add_int, s2, kk2, optI]
    have sl : getSl (.fl (ns.map D.int)) none (some 4) M = some (.ok (.ref M.length), M ++ [.lst ((ns.take 4).map D.int)]) := by
      show new (.lst (cut (ns.map D.int) none (some 4))) M = _
      rw [cut_to _ (by decide), ← List.map_take]
      rfl
    refine run_of sl ?_
    refine run_of (items_at get_new) ?_
    obtain ⟨z, y, z0, z1, e⟩ := cell_loop (L := M.length) (xs := (ns.take 4).map D.int) (cells := some (.fl (ns.map D.int))) (k := some (.int k)) (ns.take 4) (M ++ [.lst ((ns.take 4).map D.int)]) (8123 + 60013 * (k * k) + 41 * k) none (by omega) (by omega) get_new
    refine run_of e ?_
    trivial
    have s5 : small z = true := small_of (by omega) (by omega)
    simp only [s5, s4, Bool.true_or, if_true, run_ret, mul_int, add_int, int_int, mod_int, Int.reduceLT, thenS_rt, endF_rt]
    exact ⟨_, rfl⟩
theorem law_turn {ns : List Int} (hl : ns.length ≤ 63) {k : Int} (h0 : 0 ≤ k) (h1 : k ≤ 100) {x : Option D} (M : Mem) : ∃ M', bodyF t_law (.nm 1) l_law_1 (.int k) [some (.fl (ns.map .int)), x] M = some (.ok (.nx [some (.fl (ns.map .int)), some (.int k)]), M') := by
  obtain ⟨c, M1, e1⟩ := cell_spec (M := M) hl h0 h1
  obtain ⟨M2, e2, o, rfl, po⟩ := pool_spec M1 c
  obtain ⟨M3, e3⟩ := right_spec (M := M1 ++ [o]) (n := M1.length) ⟨o, get_new, po⟩
  refine ⟨M3, run_eq ?_⟩
  unfold bodyF l_law_1
  trivial
  refine run_of e1 ?_
  refine run_of e2 ?_
  trivial
  refine run_of e3 ?_
  trivial
  exact ⟨trivial, trivial⟩
theorem law_loop {ns : List Int} (hl : ns.length ≤ 63) : ∀ (n : Nat) (k : Int) (x : Option D) (M : Mem), 0 ≤ k → k + n ≤ 100 → ∃ x' M', forL none (bodyF t_law (.nm 1) l_law_1) (rangeD k n) [some (.fl (ns.map .int)), x] M = some (.ok (.nx [some (.fl (ns.map .int)), x']), M')
  | 0, k, x, M, _, _ => ⟨x, M, rfl⟩
  | n + 1, k, x, M, h0, h1 => by
    obtain ⟨M1, e1⟩ := law_turn hl h0 (by omega) (x := x) M
    obtain ⟨x', M', e⟩ := law_loop hl n (k + 1) (some (.int k)) M1 (by omega) (by omega)
    exact ⟨x', M', (forL_step rfl e1).trans e⟩
theorem plain_law : ∀ ns : List Int, ns.length ≤ 63 → ∃ M', f_law [.fl (ns.map D.int)] [] = some (.ok (.bl true), M') := by
  intro ns hl
  suffices go : Run (f_law [.fl (ns.map .int)]) [] fun a _ => a = .bl true by
    obtain ⟨a, M', e, rfl⟩ := go
    exact ⟨M', e⟩
  unfold f_law b_law
  rw [runDef_eq]
  trivial
  generalize hn : (if (2 : Int) < (if (6 : Int) < ((ns.map D.int).length : Int) then (6 : Int) else ((ns.map D.int).length : Int)) then (if (6 : Int) < ((ns.map D.int).length : Int) then (6 : Int) else ((ns.map D.int).length : Int)) else 2) = m
  have hm : 2 ≤ m ∧ m ≤ 6 := by
    rw [← hn]
    split <;> split <;> omega
  have hr : inR m = true := by unfold inR; exact decide_eq_true ⟨by omega, by omega⟩
  rw [rngD_int hr]
  trivial
  obtain ⟨x', M', e⟩ := law_loop hl m.toNat 0 none [] (by omega) (by omega)
  refine run_of e ?_
  trivial
end K
end
section
open PySem PySem.W PyProof.Rows
set_option Elab.async false
set_option linter.all false
set_option maxRecDepth 100000
set_option maxHeartbeats 0
theorem PySem.Challenge.cw_shutboxes_k02_goods_made_holds : PySem.Challenge.rw_shutboxes_k02_goods_made.Holds := by
  refine hd ?_
  k_fill
  refine K.told_walk (l := PySem.Challenge.rw_shutboxes_k02_goods_made) rfl rfl rfl (fun w h Y => PySem.W.kIn_of Y) ?F K.plain_law
  case F =>
    intro w mg h KX G
    refine' K.mk_txt KX G ?z_len ?z_abs ?z_max ?z_min ?z_sum ?z_any ?z_all ?z_sorted ?z_repr ?z_int ?z_str ?z_list ?z_tuple ?z_bool ?z_isinstance ?z_enumerate ?z_zip ?z_range ?g_MOST_ROOM ?g_MOST_KINDS ?g_LETTERS ?g_DIGITS ?g_MOST_SIGNS ?a6 ?l6 ?c6 ?p6 ?a7 ?l7 ?c7 ?p7 ?a8 ?l8 ?c8 ?p8 ?a9 ?l9 ?c9 ?p9 ?a10 ?l10 ?c10 ?p10 ?a11 ?l11 ?c11 ?p11 ?a12 ?l12 ?c12 ?p12 ?a13 ?l13 ?c13 ?p13 ?a14 ?l14 ?c14 ?p14 ?a15 ?l15 ?c15 ?p15 ?a16 ?l16 ?c16 ?p16 ?a17 ?l17 ?c17 ?p17 ?a18 ?l18 ?c18 ?p18 ?a19 ?l19 ?c19 ?p19 ?a20 ?l20 ?c20 ?p20 ?a21 ?l21 ?c21 ?p21 ?a22 ?l22 ?c22 ?p22 ?A_Goods ?x0_Goods ?x1_Goods ?x2_Goods ?x3_Goods ?x4_Goods ?x5_Goods ?x6_Goods ?x7_Goods ?n_Goods_space ?n_Goods_pairs ?k_Goods_bool ?k_Goods_int ?k_Goods_str ?k_Goods_tuple ?u0_Goods ?u1_Goods ?q_Goods_NoneType ?q_Goods_bool ?q_Goods_int ?q_Goods_str ?q_Goods_tuple ?q_Goods_list ?r_Goods_NoneType ?r_Goods_bool ?r_Goods_int ?r_Goods_str ?r_Goods_tuple ?r_Goods_list ?s1_Goods ?s2_Goods ?s3_Goods ?a23 ?l23 ?c23 ?p23 ?i23 ?a24 ?l24 ?c24 ?p24 ?i24 ?m24 ?y24 ?a25 ?l25 ?c25 ?p25 ?i25 ?a26 ?b26 ?d26 ?e26 ?l26 ?c26 ?p26 ?a27 ?b27 ?d27 ?e27 ?h27 ?l27 ?c27 ?p27 ?a28 ?b28 ?d28 ?e28 ?l28 ?c28 ?p28 ?a29 ?l29 ?c29 ?p29 ?i29 ?a30 ?b30 ?d30 ?e30 ?l30 ?c30 ?p30 ?a31 ?l31 ?c31 ?p31 ?i31 ?a32 ?b32 ?d32 ?e32 ?l32 ?c32 ?p32
    (case z_len => k_is)
    (case z_abs => k_is)
    (case z_max => k_is)
    (case z_min => k_is)
    (case z_sum => k_is)
    (case z_any => k_is)
    (case z_all => k_is)
    (case z_sorted => k_is)
    (case z_repr => k_is)
    (case z_int => k_is)
    (case z_str => k_is)
    (case z_list => k_is)
    (case z_tuple => k_is)
    (case z_bool => k_is)
    (case z_isinstance => k_is)
    (case z_enumerate => k_is)
    (case z_zip => k_is)
    (case z_range => k_is)
    (case g_MOST_ROOM => k_is)
    (case g_MOST_KINDS => k_is)
    (case g_LETTERS => k_is)
    (case g_DIGITS => k_is)
    (case g_MOST_SIGNS => k_is)
    (case a6 => k_is)
    (case l6 => k_is)
    (case c6 => k_is)
    (case p6 => k_is)
    (case a7 => k_is)
    (case l7 => k_is)
    (case c7 => k_is)
    (case p7 => k_is)
    (case a8 => k_is)
    (case l8 => k_is)
    (case c8 => k_is)
    (case p8 => k_is)
    (case a9 => k_is)
    (case l9 => k_is)
    (case c9 => k_is)
    (case p9 => k_is)
    (case a10 => k_is)
    (case l10 => k_is)
    (case c10 => k_is)
    (case p10 => k_is)
    (case a11 => k_is)
    (case l11 => k_is)
    (case c11 => k_is)
    (case p11 => k_is)
    (case a12 => k_is)
    (case l12 => k_is)
    (case c12 => k_is)
    (case p12 => k_is)
    (case a13 => k_is)
    (case l13 => k_is)
    (case c13 => k_is)
    (case p13 => k_is)
    (case a14 => k_is)
    (case l14 => k_is)
    (case c14 => k_is)
    (case p14 => k_is)
    (case a15 => k_is)
    (case l15 => k_is)
    (case c15 => k_is)
    (case p15 => k_is)
    (case a16 => k_is)
    (case l16 => k_is)
    (case c16 => k_is)
    (case p16 => k_is)
    (case a17 => k_is)
    (case l17 => k_is)
    (case c17 => k_is)
    (case p17 => k_is)
    (case a18 => k_is)
    (case l18 => k_is)
    (case c18 => k_is)
    (case p18 => k_is)
    (case a19 => k_is)
    (case l19 => k_is)
    (case c19 => k_is)
    (case p19 => k_is)
    (case a20 => k_is)
    (case l20 => k_is)
    (case c20 => k_is)
    (case p20 => k_is)
    (case a21 => k_is)
    (case l21 => k_is)
    (case c21 => k_is)
    (case p21 => k_is)
    (case a22 => k_is)
    (case l22 => k_is)
    (case c22 => k_is)
    (case p22 => k_is)
    (case A_Goods => k_is)
    (case x0_Goods => k_is)
    (case x1_Goods => k_is)
    (case x2_Goods => k_is)
    (case x3_Goods => k_is)
    (case x4_Goods => k_is)
    (case x5_Goods => k_is)
    (case x6_Goods => k_is)
    (case x7_Goods => k_is)
    (case n_Goods_space => k_is)
    (case n_Goods_pairs => k_is)
    (case k_Goods_bool => k_is)
    (case k_Goods_int => k_is)
    (case k_Goods_str => k_is)
    (case k_Goods_tuple => k_is)
    (case u0_Goods => k_is)
    (case u1_Goods => k_is)
    (case q_Goods_NoneType => k_is)
    (case q_Goods_bool => k_is)
    (case q_Goods_int => k_is)
    (case q_Goods_str => k_is)
    (case q_Goods_tuple => k_is)
    (case q_Goods_list => k_is)
    (case r_Goods_NoneType => k_is)
    (case r_Goods_bool => k_is)
    (case r_Goods_int => k_is)
    (case r_Goods_str => k_is)
    (case r_Goods_tuple => k_is)
    (case r_Goods_list => k_is)
    (case s1_Goods => k_is)
    (case s2_Goods => k_is)
    (case s3_Goods => k_is)
    (case a23 => k_is)
    (case l23 => k_is)
    (case c23 => k_is)
    (case p23 => k_is)
    (case i23 => k_is)
    (case a24 => k_is)
    (case l24 => k_is)
    (case c24 => k_is)
    (case p24 => k_is)
    (case i24 => k_is)
    (case m24 => k_is)
    (case y24 => k_is)
    (case a25 => k_is)
    (case l25 => k_is)
    (case c25 => k_is)
    (case p25 => k_is)
    (case i25 => k_is)
    (case a26 => k_is)
    (case b26 => k_is)
    (case d26 => k_is)
    (case e26 => k_is)
    (case l26 => k_is)
    (case c26 => k_is)
    (case p26 => k_is)
    (case a27 => k_is)
    (case b27 => k_is)
    (case d27 => k_is)
    (case e27 => k_is)
    (case h27 => k_is)
    (case l27 => k_is)
    (case c27 => k_is)
    (case p27 => k_is)
    (case a28 => k_is)
    (case b28 => k_is)
    (case d28 => k_is)
    (case e28 => k_is)
    (case l28 => k_is)
    (case c28 => k_is)
    (case p28 => k_is)
    (case a29 => k_is)
    (case l29 => k_is)
    (case c29 => k_is)
    (case p29 => k_is)
    (case i29 => k_is)
    (case a30 => k_is)
    (case b30 => k_is)
    (case d30 => k_is)
    (case e30 => k_is)
    (case l30 => k_is)
    (case c30 => k_is)
    (case p30 => k_is)
    (case a31 => k_is)
    (case l31 => k_is)
    (case c31 => k_is)
    (case p31 => k_is)
    (case i31 => k_is)
    (case a32 => k_is)
    (case b32 => k_is)
    (case d32 => k_is)
    (case e32 => k_is)
    (case l32 => k_is)
    (case c32 => k_is)
    (case p32 => k_is)
end
