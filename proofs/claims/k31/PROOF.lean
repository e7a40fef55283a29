import PyProof.Rows.All
import Wide.All
import OpenK.AllK
import Wide.FinOn
import HandS.SetFor
import PyProof.SetRoads
import HandS.ForMost
import HandS.ForExc
import HandS.Wide
import KE.DataMinMax
import KE.SortData
import HandS.Lambda
import HandS.TupMul
import HandS.Style
import HandS.TupAny
import HandS.Flow
import HandS.IsInst
import HandS.TupLen
import HandS.Zip
import HandS.Conv
import HandS.Walk
import HandS.Deep
import PyProof.P3In
import PyProof.Rows.SumAny
import PyProof.Rows.TupIter
import PyProof.WalksMore
import HandS.SortInts
import HandS.SortRule
import KE.DatumOrd
import PyProof.P3Eq
import PyProof.EqAt
import HandS.ListItems
import HandS.CallSlots
import KE.GoesMore
import KE.GoesEnum
import HandS.DictComp
import HandS.Small
import HandS.Defaults
import KE.KExcInit
import HandS.TryMany
import HandS.EndTab
import HandS.HeadWalk
import HandS.Head2
import HandS.HeadHook2
import HandS.Words
import HandS.ExcIs
import PySem.Challenge.RW_arrivalboards_k31_whole_moves_of_heaps_c
import PyProof.FitsInt
import HandS.HeadEnd
set_option Elab.async false
set_option linter.all false
set_option maxRecDepth 100000
set_option maxHeartbeats 2000000
/-! MPSet: how many ints of a tuple differ. -/
namespace MP
open PySem PySem.Spec PyProof.Rows L2
/-- how many of them differ -/
def dlen : List Int → Nat
  | [] => 0
  | n :: ns => if ns.contains n = true then dlen ns else dlen ns + 1
theorem dlen_eq : ∀ (ns ks : List Int), ks.Nodup → (∀ k, k ∈ ks ↔ k ∈ ns) → ks.length = dlen ns
  | [], ks, _, h => by
    cases ks with
    | nil => rfl
    | cons k ks => exact absurd ((h k).mp (.head _)) (by simp)
  | n :: ns, ks, hn, h => by
    unfold dlen
    by_cases hc : ns.contains n = true
    · rw [if_pos hc]
      have hm : n ∈ ns := by simpa using hc
      refine dlen_eq ns ks hn fun k => (h k).trans ⟨fun z => ?_, fun z => .tail _ z⟩
      rcases List.mem_cons.mp z with e | e
      · rw [e]; exact hm
      · exact e
    · rw [if_neg hc]
      have hm : ¬ n ∈ ns := fun z => hc (by simpa using z)
      have hk : n ∈ ks := (h n).mpr (.head _)
      have e := dlen_eq ns (ks.erase n) (hn.erase n) fun k => by
        rw [hn.mem_erase_iff]
        refine ⟨fun ⟨h1, h2⟩ => ?_, fun h1 => ⟨fun z => hm (by rw [← z]; exact h1), (h k).mpr (.tail _ h1)⟩⟩
        rcases List.mem_cons.mp ((h k).mp h2) with z | z
        · exact absurd z h1
        · exact z
      rw [List.length_erase_of_mem hk] at e
      have : 0 < ks.length := List.length_pos_of_mem hk
      omega
theorem ints_vals : ∀ {ns : List Int} {us : List Value}, Vals (ns.map V.int) us → PyProof.Rows.IntsAre us ns
  | [], _, .nil => .nil
  | n :: ns, _, .cons r t => by
    obtain ⟨k, rfl⟩ := r
    exact .cons n k (ints_vals t)
def tLenSetT (K : PySem.W.Frag) (ta : TE) : TE := fun σ H Q => ta σ H fun x H1 => ∃ (l : Addr) (ns : List Int), x = .ref l ∧ SqT K H1 l (ns.map V.int) ∧ ns.length ≤ 1000 ∧ Q (.int (dlen ns : Nat)) H1
theorem pe_lenSetT {X : Cx} {a : Expr} {ta : TE} {p p2 q pos : Pos} (hg : Gl X "len") (hm : X.mg "len" = none) (hg2 : Gl X "set") (hm2 : X.mg "set" = none) (ha : PE X a ta) (hc : X.calm = true)
    (na : starEach [a] X.env = (false, eval a X.env) :: starEach [] X.env := by rfl) : PE X (.Call (.Name "len" p) [.Call (.Name "set" p2) [a] [] q] [] pos) (tLenSetT X.K ta) := by
  refine ⟨fun pins s σ H Q I h => ?_⟩
  refine Call_ (ld_blt I hg hm PySem.boot_len ?_)
  refine PyProof.Rows.callWith_builtin1 (PyProof.Rows.args_cons ?_ rfl) rfl rfl
  refine Call_ (ld_blt I hg2 hm2 PyProof.Rows.boot_set ?_)
  refine PyProof.Rows.callWith_type1 (PyProof.Rows.args_cons (thn (ha.run pins s σ H _ I h) fun v s1 ⟨x, H1, I1, r1, q1⟩ => PyProof.Rows.args_nil ?_) na) na rfl
  obtain ⟨l, ns, rfl, hq, hl, q1⟩ := q1
  cases r1
  obtain ⟨its, r, pl, hz⟩ := I1.tuple hq
  have hi : IntsAre its.toArray.toList ns := by simpa using ints_vals r
  refine call_set_tupI ns (I1.ok.hd hc) (show s1.heap.IsTuple l its.toArray from pl) hi (by unfold scanBound; omega) fun h' tk c R1 hcn hk => ?_
  refine PyProof.Rows.args_nil ?_
  obtain ⟨o, es, ep, t, ho, hex, hd, _, nd, hm, hb, hf, hn, _⟩ := R1
  have el : es.size = dlen ns := by
    have := dlen_eq ns (es.toList.map keyOf) nd fun k => by rw [← hm k, decide_eq_true_eq]
    simpa using this
  have I2 : Inv X pins σ H1 { s1 with heap := h', toks := tk } := I1.kept fun b o e => hk b o e
  exact call_len_set ho hex hd hf (by rw [hn]; omega) ⟨.int (dlen ns), H1, I2.tok _, ⟨_, by rw [el]⟩, q1⟩
end MP
set_option maxHeartbeats 4000000
/-! MPSem: a small language of pure values, one store of cells, and what its programs do. -/
namespace MP
open PySem L2
open Classical
noncomputable section

/-- pure values: tuples, lists, dicts are trees; ref n is the n-th cell of the store -/
inductive Val where
  | non | bl (b : Bool) | int (i : Int) | str (x : PySem.Str)
  | tup (xs : List Val) | lst (xs : List Val)
  | slst (ns : List Int)
  | dK (kvs : List (L2.Key × Val)) | dT (kvs : List (List L2.Key × Val))
  | ref (n : Nat) | fn (x : PySem.Str) | ty (n : String) | opq (F0 : Hp) (m0 : Nat → Addr) (L0 : Nat) (a : Addr)

inductive Cell where
  | dead
  | lst (xs : List Val)
  | dK (kvs : List (L2.Key × Val)) | dT (kvs : List (List L2.Key × Val))
abbrev Store := List Cell
abbrev Env := List (Option Val)

/-- what an expression comes to -/
inductive Out (α : Type) where
  | ok (a : α) (st : Store)
  | exc (c : PySem.Str) (xs : List (PySem.Str × Val)) (st : Store)
  | bad
def Out.bind {α β : Type} (x : Out α) (f : α → Store → Out β) : Out β := match x with
  | .ok a st => f a st
  | .exc c xs st => .exc c xs st
  | .bad => .bad
@[simp] theorem Out.bind_ok {α β : Type} (a : α) (st : Store) (f : α → Store → Out β) : (Out.ok a st).bind f = f a st := rfl
@[simp] theorem Out.bind_exc {α β : Type} (c xs) (st : Store) (f : α → Store → Out β) : (Out.exc c xs st).bind f = .exc c xs st := rfl
@[simp] theorem Out.bind_bad {α β : Type} (f : α → Store → Out β) : (Out.bad).bind f = .bad := rfl
def Out.of {α : Type} (o : Option α) (st : Store) : Out α := match o with
  | some a => .ok a st
  | none => .bad
@[simp] theorem Out.of_some {α : Type} (a : α) (st : Store) : Out.of (some a) st = .ok a st := rfl
@[simp] theorem Out.of_none {α : Type} (st : Store) : (Out.of none st : Out α) = .bad := rfl
/-- what a statement comes to -/
inductive Res where
  | nx (env : Env) (st : Store) | rt (v : Val) (st : Store) | bk (env : Env) (st : Store) | ct (env : Env) (st : Store)
  | ex (c : PySem.Str) (xs : List (PySem.Str × Val)) (env : Env) (st : Store)
  | bad
def Out.res (x : Out α) (env : Env) (f : α → Store → Res) : Res := match x with
  | .ok a st => f a st
  | .exc c xs st => .ex c xs env st
  | .bad => .bad
@[simp] theorem Out.res_ok (a : α) (st : Store) (env : Env) (f : α → Store → Res) : (Out.ok a st).res env f = f a st := rfl
@[simp] theorem Out.res_exc (c xs) (st : Store) (env : Env) (f : α → Store → Res) : (Out.exc c xs st : Out α).res env f = .ex c xs env st := rfl
@[simp] theorem Out.res_bad (env : Env) (f : α → Store → Res) : (Out.bad : Out α).res env f = .bad := rfl
def Res.seq (r : Res) (f : Env → Store → Res) : Res := match r with
  | .nx env st => f env st
  | r => r
@[simp] theorem Res.seq_nx (env st) (f : Env → Store → Res) : (Res.nx env st).seq f = f env st := rfl
@[simp] theorem Res.seq_rt (v st) (f : Env → Store → Res) : (Res.rt v st).seq f = .rt v st := rfl
@[simp] theorem Res.seq_bk (env st) (f : Env → Store → Res) : (Res.bk env st).seq f = .bk env st := rfl
@[simp] theorem Res.seq_ct (env st) (f : Env → Store → Res) : (Res.ct env st).seq f = .ct env st := rfl
@[simp] theorem Res.seq_ex (c xs env st) (f : Env → Store → Res) : (Res.ex c xs env st).seq f = .ex c xs env st := rfl
@[simp] theorem Res.seq_bad (f : Env → Store → Res) : Res.bad.seq f = .bad := rfl

/-- no exception -/
def Res.noEx (r : Res) : Res := match r with
  | .ex _ _ _ _ => .bad
  | r => r
/-- what a def does -/
abbrev Den := List Val → Store → Out Val

/-! ### values -/
def isNon : Val → Bool
  | .non => true
  | _ => false
/-- the items of a list, a tuple, a cell that is a list -/
def seqOf (v : Val) (st : Store) : Option (List Val) := match v with
  | .tup xs => some xs
  | .lst xs => some xs
  | .ref n => match st[n]? with
    | some (.lst xs) => some xs
    | _ => none
  | _ => none
mutual
/-- no cell within -/
def noRef : Val → Bool
  | .ref _ => false
  | .opq _ _ _ _ => false
  | .tup xs => noRefs xs
  | .lst xs => noRefs xs
  | .dK kvs => noRefK kvs
  | .dT kvs => noRefT kvs
  | _ => true
def noRefs : List Val → Bool
  | [] => true
  | x :: xs => noRef x && noRefs xs
def noRefK : List (L2.Key × Val) → Bool
  | [] => true
  | (_, x) :: xs => noRef x && noRefK xs
def noRefT : List (List L2.Key × Val) → Bool
  | [] => true
  | (_, x) :: xs => noRef x && noRefT xs
end
def cellNoRef : Cell → Bool
  | .dead => true
  | .lst xs => noRefs xs
  | .dK kvs => noRefK kvs
  | .dT kvs => noRefT kvs
mutual
/-- as data, if it is all data -/
def dataOf : Val → Option PyData
  | .non => some .none
  | .bl b => some (.bool b)
  | .int i => some (.int i)
  | .str x => some (.str x)
  | .tup xs => (dataOfs xs).map .tuple
  | .lst xs => (dataOfs xs).map .list
  | _ => none
def dataOfs : List Val → Option (List PyData)
  | [] => some []
  | x :: xs => (dataOf x).bind fun d => (dataOfs xs).map fun ds => d :: ds
end
/-- a dict's key -/
def keyOf : Val → Option L2.Key
  | .int i => some (.inl i)
  | .str x => some (.inr x)
  | _ => none
def keysOf : List Val → Option (List L2.Key)
  | [] => some []
  | x :: xs => (keyOf x).bind fun k => (keysOf xs).map fun ks => k :: ks
def tkeyOf : Val → Option (List L2.Key)
  | .tup xs => keysOf xs
  | _ => none
def vOfKey : L2.Key → Val
  | .inl i => .int i
  | .inr x => .str x
/-- by key -/
def assoc {κ : Type} [DecidableEq κ] (kvs : List (κ × Val)) (k : κ) : Option Val := (kvs.find? fun kv => decide (kv.1 = k)).map (·.2)
def putA {κ : Type} [DecidableEq κ] (kvs : List (κ × Val)) (k : κ) (v : Val) : List (κ × Val) :=
  if kvs.any (fun kv => decide (kv.1 = k)) then kvs.map fun kv => if kv.1 = k then (kv.1, v) else kv else kvs ++ [(k, v)]
/-- what stands at a key of a dict: none no dict or no key; some none not there -/
def dgetV (d : Val) (k : Val) (st : Store) : Option (Option Val) := match d with
  | .dK kvs => (keyOf k).map fun k => assoc kvs k
  | .dT kvs => (tkeyOf k).map fun k => assoc kvs k
  | .ref n => match st[n]? with
    | some (.dK kvs) => (keyOf k).map fun k => assoc kvs k
    | some (.dT kvs) => (tkeyOf k).map fun k => assoc kvs k
    | _ => none
  | _ => none
def isDic (d : Val) (st : Store) : Bool := match d with
  | .dK _ => true
  | .dT _ => true
  | .ref n => match st[n]? with
    | some (.dK _) => true
    | some (.dT _) => true
    | _ => false
  | _ => false
/-- truth -/
def truth (v : Val) (st : Store) : Option Bool := match v with
  | .non => some false
  | .bl b => some b
  | .int i => some (i != 0)
  | .tup xs => some (!xs.isEmpty)
  | .lst xs => some (!xs.isEmpty)
  | .ref n => match st[n]? with
    | some (.lst xs) => some (!xs.isEmpty)
    | some (.dK kvs) => some (!kvs.isEmpty)
    | _ => none
  | _ => none
/-- len -/
def lenOf (v : Val) (st : Store) : Option Int := match v with
  | .tup xs => some xs.length
  | .lst xs => some xs.length
  | .slst ns => some ns.length
  | .str x => if x.length ≤ sizeLine then some x.length else none
  | .dK kvs => some kvs.length
  | .dT kvs => some kvs.length
  | .ref n => match st[n]? with
    | some (.lst xs) => some xs.length
    | some (.dK kvs) => some kvs.length
    | some (.dT kvs) => some kvs.length
    | _ => none
  | _ => none

/-! ### operators -/
inductive Bop where | add | sub | mul | fdiv | mod | pow | band
inductive Cop where | eq | ne | lt | le | gt | ge | isin | notin | nec
def bop (op : Bop) (a b : Val) : Option Val := match op, a, b with
  | .add, .int i, .int j => some (.int (i + j))
  | .sub, .int i, .int j => some (.int (i - j))
  | .mul, .int i, .int j => if CMulW i j ∨ CMul i j then some (.int (i * j)) else none
  | .fdiv, .int i, .int j => if CDivW i j then some (.int (i / j)) else none
  | .mod, .int i, .int j => if 0 < j then some (.int (i % j)) else none
  | .pow, .int i, .int j => if CPow i j then some (.int (i ^ j.toNat)) else none
  | .band, .int i, .int j => some (.int (Builtin.bitAnd i j))
  | .add, .str x, .str y => if x.length + y.length ≤ sizeLine then some (.str (x ++ y)) else none
  | .add, .tup xs, .tup ys => if xs.length + ys.length ≤ sizeLine then some (.tup (xs ++ ys)) else none
  | .add, .lst xs, .lst ys => if xs.length + ys.length ≤ sizeLine then some (.lst (xs ++ ys)) else none
  | .mul, .lst xs, .int k => if k < 2 ^ 63 ∧ -(2 ^ 63) ≤ k ∧ xs.length * k.toNat ≤ sizeLine then some (.lst (List.replicate k.toNat xs).flatten) else none
  | .mul, .tup xs, .int k => if (xs ≠ [] ∧ 2 ≤ k ∧ k ≤ 1000 ∧ xs.length ≤ 1000) ∨ k = 1 ∨ (xs ≠ [] ∧ 2 ≤ k ∧ k ≤ 100000 ∧ xs.length ≤ 100) then some (.tup (List.replicate k.toNat xs).flatten) else none
  | _, _, _ => none
/-- == of data -/
def eqD (a b : Val) : Option Bool := match dataOf a, dataOf b with
  | some d, some e => if SeqAt.shaped d = true ∧ SeqAt.shaped e = true then some (PyData.eqv d e) else none
  | _, _ => none
/-- .. of numbers, of texts -/
def eqV (a b : Val) : Option Bool := match a, b with
  | .int i, .int j => some (decide (i = j))
  | .str x, .str y => some (decide (x = y))
  | a, b => eqD a b
/-- x in c -/
def inV (x c : Val) (st : Store) : Option Bool := match seqOf c st with
  | some ys => match dataOf x, dataOfs ys with
    | some d, some ds => if SeqAt.shaped d = true ∧ SeqAt.shaped (.list ds) = true then some (ds.any fun z => PyData.eqv z d) else none
    | _, _ => none
  | none => match c with
    | .str y => match x with
      | .str z => some (!(Builtin.Str.occurrences y z 0 y.length 1).isEmpty)
      | _ => none
    | _ => (dgetV c x st).map Option.isSome
/-- a < b, of alike data -/
def ltD (a b : Val) : Option Bool := match dataOf a, dataOf b with
  | some d, some e => if PySem.W.alike d e = true ∧ d ≠ .none ∧ d.depth ≤ 60 then some (PySem.W.dataLt d e) else none
  | _, _ => none
def ltB (a b : Val) : Bool := match dataOf a, dataOf b with
  | some d, some e => PySem.W.dataLt d e
  | _, _ => false
/-- the least, the first of such -/
def minL (x : Val) (xs : List Val) : Val := xs.foldl (fun a y => if ltB y a = true then y else a) x
def minV : List Val → Option Val
  | [] => none
  | x :: xs => match dataOfs (x :: xs) with
    | some ds => if PySem.W.AlikeAll ds ∧ PyData.depthAll ds ≤ 60 ∧ PyData.canLayAll0 ds = true then some (minL x xs) else none
    | none => none
/-- a sorted list of alike data -/
def leB (a b : Val) : Bool := !ltB b a
def sortV (xs : List Val) : Option (List Val) := match dataOfs xs with
  | some ds => if PySem.W.AllAlike ds ∧ PySem.W.Sortable ds ∧ PyData.depthAll ds ≤ 60 then some (xs.mergeSort leB) else none
  | none => none
/-- a cell that is a list != [] -/
def necV (a b : Val) (st : Store) : Option Bool := match b with
  | .lst [] => match a with
    | .ref n => match st[n]? with
      | some (.lst xs) => match dataOfs xs with
        | some ds => if SeqAt.shaped (.list ds) = true then some (!PyData.eqv (.list ds) (.list [])) else none
        | none => none
      | _ => none
    | _ => none
  | _ => none
def cop (op : Cop) (a b : Val) (st : Store) : Option Bool := match op with
  | .eq => eqV a b
  | .ne => (eqV a b).map (! ·)
  | .isin => inV a b st
  | .notin => (inV a b st).map (! ·)
  | .nec => necV a b st
  | .lt => match a, b with | .int i, .int j => some (decide (i < j)) | _, _ => ltD a b
  | .le => match a, b with | .int i, .int j => some (decide (i ≤ j)) | _, _ => none
  | .gt => match a, b with | .int i, .int j => some (decide (j < i)) | _, _ => none
  | .ge => match a, b with | .int i, .int j => some (decide (j ≤ i)) | _, _ => none
/-- o[i] -/
def idxV (o i : Val) (st : Store) : Option Val := match i with
  | .int k => match seqOf o st with
    | some xs => atI xs k
    | none => match o with
      | .str x => if x.length ≤ sizeLine then (atI x.cps.toList k).map fun c => .str ⟨#[c]⟩ else none
      | .slst ns => atI (ns.map .int) k
      | _ => (dgetV o i st).bind id
  | _ => (dgetV o i st).bind id
/-- o[i] of a cell, read for o[i] op= e -/
def idxA (o i : Val) (st : Store) : Option Val := match o with
  | .ref n => match st[n]? with
    | some (.lst xs) => match i with
      | .int k => if 0 ≤ k then xs[k.toNat]? else none
      | _ => none
    | _ => (dgetV (.ref n) i st).bind id
  | _ => none
/-- o[lo:hi] -/
def cutL {α : Type} (xs : List α) (lo hi : Option Int) : List α := (xs.drop (HT.sIx xs.length 0 lo)).take (HT.sIx xs.length xs.length hi - HT.sIx xs.length 0 lo)
def slcV (o : Val) (lo hi : Option Int) (st : Store) : Option Val := match o with
  | .tup xs => some (.tup (cutL xs lo hi))
  | .lst xs => some (.lst (cutL xs lo hi))
  | .slst ns => some (.lst ((cutL ns lo hi).map .int))
  | .str x => if x.length ≤ sizeLine then some (.str (cutS x lo hi)) else none
  | .ref n => match st[n]? with
    | some (.lst xs) => some (.lst (cutL xs lo hi))
    | _ => none
  | _ => none
/-- o[::-1] -/
def revV (o : Val) (st : Store) : Option Val := match o with
  | .tup xs => some (.tup xs.reverse)
  | .lst xs => some (.lst xs.reverse)
  | .ref n => match st[n]? with
    | some (.lst xs) => some (.lst xs.reverse)
    | _ => none
  | _ => none
/-- a function kept in a local -/
def fnIn (ds : List (PySem.Str × Den)) (v : Val) : Option Den := match v with
  | .fn x => ds.lookup x
  | _ => none
/-! ### built-in functions of values -/
inductive Blt where
  | len | tuple | list | all | any | abs | int | sum | min2 | max2 | min | max | sorted | repr | str
def boolsOf : List Val → Option (List Bool)
  | [] => some []
  | .bl b :: xs => (boolsOf xs).map fun bs => b :: bs
  | _ :: _ => none
def intsOf : List Val → Option (List Int)
  | [] => some []
  | .int i :: xs => (intsOf xs).map fun ns => i :: ns
  | _ :: _ => none
/-- len(set(x)) of a tuple of ints -/
def lensV (o : Val) : Option Val := match o with
  | .tup xs => match intsOf xs with
    | some ns => if ns.length ≤ 1000 then some (.int (dlen ns : Nat)) else none
    | none => none
  | _ => none
/-- list(d.items()) of a dict -/
def litemsV (o : Val) (st : Store) : Option Val := match o with
  | .ref n => match st[n]? with
    | some (.dK kvs) => some (.lst (kvs.map fun p => .tup [vOfKey p.1, p.2]))
    | _ => none
  | _ => none
/-- the text that repr tells of data -/
def shownV (v : Val) : Option Val := match v with
  | .tup _ => match dataOf v with
    | some d => if SeqAt.shaped d = true ∧ d.showable = true ∧ d.hasDict = false ∧ d.shown.length ≤ sizeLine then some (.str d.shown) else none
    | none => none
  | .lst _ => match dataOf v with
    | some d => if SeqAt.shaped d = true ∧ d.showable = true ∧ d.hasDict = false ∧ d.shown.length ≤ sizeLine then some (.str d.shown) else none
    | none => none
  | .bl b => some (.str (if b then "True" else "False"))
  | .non => some (.str "None")
  | _ => none
/-- pairs of numbers -/
def pairsV : List Val → Option (List (Int × Int))
  | [] => some []
  | .tup [.int a, .int b] :: xs => (pairsV xs).map fun ps => (a, b) :: ps
  | _ :: _ => none
def pvV (p : Int × Int) : Val := .tup [.int p.1, .int p.2]
def lexP (p q : Int × Int) : Bool := if p.1 = q.1 then decide (p.2 < q.2) else decide (p.1 < q.1)
def minP (p : Int × Int) (ps : List (Int × Int)) : Int × Int := ps.foldl (fun a y => if lexP y a = true then y else a) p
def sortI (ns : List Int) : List Int := ns.mergeSort fun a b => decide (a ≤ b)
def sortP (ps : List (Int × Int)) : List (Int × Int) := ps.mergeSort fun a b => !lexP b a
def blt (f : Blt) (args : List Val) (st : Store) : Option Val := match f with
  | .sorted => match args with
    | [.lst xs] => match intsOf xs with
      | some ns => some (.lst ((sortI ns).map .int))
      | none => match pairsV xs with
        | some ps => some (.lst ((sortP ps).map pvV))
        | none => (sortV xs).map .lst
    | _ => none
  | .min => match args with
    | [.lst xs] => match pairsV xs with
      | some (p :: ps) => some (pvV (minP p ps))
      | _ => minV xs
    | _ => none
  | .len => match args with
    | [v] => (lenOf v st).map .int
    | _ => none
  | .tuple => match args with
    | [v] => (seqOf v st).map .tup
    | _ => none
  | .list => match args with
    | [v] => (seqOf v st).map .lst
    | _ => none
  | .all => match args with
    | [.lst xs] => (boolsOf xs).map fun bs => .bl (bs.all id)
    | _ => none
  | .any => match args with
    | [.lst xs] => (boolsOf xs).map fun bs => .bl (bs.any id)
    | _ => none
  | .abs => match args with
    | [.int i] => some (.int (if i < 0 then -i else i))
    | _ => none
  | .int => match args with
    | [.int i] => some (.int i)
    | [.bl b] => some (.int (if b then 1 else 0))
    | _ => none
  | .sum => match args with
    | [.lst xs] => (intsOf xs).map fun ns => .int ns.sum
    | [.tup xs] => (intsOf xs).map fun ns => .int ns.sum
    | _ => none
  | .max2 => match args with
    | [.int i, .int j] => some (.int (if j > i then j else i))
    | _ => none
  | .min2 => match args with
    | [.int i, .int j] => some (.int (if j < i then j else i))
    | _ => none
  | .repr => match args with
    | [v] => shownV v
    | _ => none
  | .str => match args with
    | [.int i] => if i.natAbs.log2 < 1920 then some (.str (toString i)) else none
    | _ => none
  | _ => none
/-- isinstance against a built-in type -/
inductive Tn where | int | bool | str | tuple | list | dict
def isInst (v : Val) (t : Tn) (st : Store) : Option Bool := match v with
  | .non => some false
  | .bl _ => some (match t with | .bool => true | .int => true | _ => false)
  | .int _ => some (match t with | .int => true | _ => false)
  | .str _ => some (match t with | .str => true | _ => false)
  | .tup _ => some (match t with | .tuple => true | _ => false)
  | .lst _ => some (match t with | .list => true | _ => false)
  | .dK _ => some (match t with | .dict => true | _ => false)
  | .ref n => match st[n]? with
    | some (.lst _) => some (match t with | .list => true | _ => false)
    | some (.dK _) => some (match t with | .dict => true | _ => false)
    | some (.dT _) => some (match t with | .dict => true | _ => false)
    | _ => none
  | _ => none
/-! ### methods -/
inductive Mth where | append | extend | update | pop | popAt | get | index | count
def setCell (st : Store) (n : Nat) (c : Cell) : Store := st.set n c
/-- items and a thing, as data -/
def lstOf (o : Val) (st : Store) : Option (List Val) := match o with
  | .lst xs => some xs
  | .ref n => match st[n]? with
    | some (.lst xs) => some xs
    | _ => none
  | _ => none
def dataIn (o y : Val) (st : Store) : Option (List PyData × PyData) := match lstOf o st with
  | some xs => match dataOfs xs, dataOf y with
    | some ds, some d => if SeqAt.shaped d = true ∧ SeqAt.shaped (.list ds) = true then some (ds, d) else none
    | _, _ => none
  | none => none
def mth (m : Mth) (o : Val) (args : List Val) (st : Store) : Out Val := match m with
  | .append => match o, args with
    | .ref n, [y] => match st[n]? with
      | some (.lst xs) => if xs.length < sizeLine then .ok .non (setCell st n (.lst (xs ++ [y]))) else .bad
      | _ => .bad
    | _, _ => .bad
  | .extend => match o, args with
    | .ref n, [.lst ys] => match st[n]? with
      | some (.lst xs) => if xs.length + ys.length ≤ sizeLine then .ok .non (setCell st n (.lst (xs ++ ys))) else .bad
      | _ => .bad
    | _, _ => .bad
  | .pop => match o, args with
    | .ref n, [] => match st[n]? with
      | some (.lst xs) => match xs[xs.length - 1]? with
        | some y => .ok y (setCell st n (.lst xs.dropLast))
        | none => .bad
      | _ => .bad
    | _, _ => .bad
  | .update => match o, args with
    | .ref n, [.dK ys] => match st[n]? with
      | some (.dK xs) => if xs.length + ys.length ≤ sizeLine then .ok .non (setCell st n (.dK (ys.foldl (fun l p => putA l p.1 p.2) xs))) else .bad
      | _ => .bad
    | _, _ => .bad
  | .popAt => match o, args with
    | .ref n, [.int i] => match st[n]? with
      | some (.lst xs) => if 0 ≤ i ∧ i < 1000000000 then (match xs[i.toNat]? with
        | some y => .ok y (setCell st n (.lst (xs.eraseIdx i.toNat)))
        | none => .bad) else .bad
      | _ => .bad
    | _, _ => .bad
  | .get => match args with
    | [k] => match dgetV o k st with
      | some x => .ok (x.getD .non) st
      | none => .bad
    | [k, d] => match dgetV o k st with
      | some x => .ok (x.getD d) st
      | none => .bad
    | _ => .bad
  | .index => match args with
    | [y] => match dataIn o y st with
      | some (ds, d) => match ds.findIdx? fun z => PyData.eqv z d with
        | some j => .ok (.int (j : Nat)) st
        | none => .bad
      | none => .bad
    | _ => .bad
  | .count => match args with
    | [y] => match dataIn o y st with
      | some (ds, d) => .ok (.int (ds.countP (fun z => PyData.eqv z d) : Nat)) st
      | none => .bad
    | _ => .bad
/-- what a method's receiver must be -/
@[simp] def lstM : Mth → Bool
  | .update => false
  | .get => false
  | _ => true
@[simp] def lstVM : Mth → Bool
  | .index => true
  | .count => true
  | _ => false
@[simp] def dkM : Mth → Bool
  | .update => true
  | .get => true
  | _ => false
@[simp] def dtM : Mth → Bool
  | .get => true
  | _ => false
@[simp] def preC (m : Mth) : Option Cell → Bool
  | some (.lst _) => lstM m
  | some (.dK _) => dkM m
  | some (.dT _) => dtM m
  | _ => false
def mthPre (m : Mth) (o : Val) (st : Store) : Bool := match o with
  | .ref n => preC m st[n]?
  | .lst _ => lstVM m
  | .dK _ => dtM m
  | .dT _ => dtM m
  | _ => false
/-- o[i] = v -/
def setIx (o i v : Val) (st : Store) : Option Store := match o with
  | .ref n => match st[n]? with
    | some (.lst xs) => match i with
      | .int k => (ixN xs.length k).map fun j => setCell st n (.lst (xs.set j v))
      | _ => none
    | some (.dK kvs) => if kvs.length < sizeLine then (keyOf i).map fun k => setCell st n (.dK (putA kvs k v)) else none
    | some (.dT kvs) => if kvs.length < sizeLine then (tkeyOf i).map fun k => setCell st n (.dT (putA kvs k v)) else none
    | _ => none
  | _ => none

/-! ### the language -/
inductive Tgt where
  | name (i : Nat)
  | tup (ts : List Tgt)
mutual
def bindT : Tgt → Val → Env → Option Env
  | .name i, v, env => some (env.set i (some v))
  | .tup ts, .tup xs, env => bindTs ts xs env
  | .tup _, _, _ => none
def bindTs : List Tgt → List Val → Env → Option Env
  | [], [], env => some env
  | t :: ts, x :: xs, env => (bindT t x env).bind (bindTs ts xs)
  | _, _, _ => none
end
mutual
def tgtSlots : Tgt → List Nat
  | .name i => [i]
  | .tup ts => tgtsSlots ts
def tgtsSlots : List Tgt → List Nat
  | [] => []
  | t :: ts => tgtSlots t ++ tgtsSlots ts
end
mutual
inductive E where
  | var (i : Nat)
  | lit (v : Val)
  | gcon (x : PySem.Str) (v : Val)
  | gfn (x : PySem.Str)
  | bin (op : Bop) (a b : E)
  | neg (a : E)
  | cmp (op : Cop) (a b : E)
  | chain (op op' : Cop) (a b c : E)
  | isn (n : Bool) (a : E)
  | isb (n : Bool) (a : E) (b : Bool)
  | and (a b : E) | or (a b : E) | not (a : E)
  | ite (c a b : E)
  | tup (es : Es)
  | val (n : Nw) | cell (n : Nw)
  | idx (o i : E)
  | slc (o : E) (lo hi : Eo)
  | blt (f : Blt) (es : Es)
  | isi (a : E) (t : Tn)
  | call (x : PySem.Str) (d : Den) (es : Es)
  | word (x : PySem.Str) (wd : (Store → Out Val) → Store → Out Val) (e : E)
  | any
  | mth (m : Mth) (o : E) (es : Es)
  | rev (o : E)
  | lenset (e : E)
  | litems (e : E)
  | callv (i : Nat) (ds : List (PySem.Str × Den)) (es : Es)
  | isx (i : Nat) (w : Val) (c : PySem.Str) (b : Bool)
inductive Eo where
  | none | some (e : E)
inductive Es where
  | nil | cons (e : E) (es : Es)
/-- new objects -/
inductive Nw where
  | lst (es : Es)
  | comp (e : E) (t : Tgt) (it : It) (c : Eo) (own : List (PySem.Str × Nat))
  | dct (t : Bool)
  | dct1 (k e : E)
  | ls (a : E)
  | cat (a b : E)
  | rep (a b : E)
  | dcomp (k e : E) (t : Tgt) (it : It) (c : Eo) (own : List (PySem.Str × Nat))
/-- what a for walks -/
inductive It where
  | seq (e : E)
  | range1 (a : E) | range2 (a b : E)
  | enum (e : E)
  | zip (a b : E)
  | zip3 (a b c : E)
end

/-- the items that a for walks; g: what must hold at each turn -/
def rangeVs (lo : Int) (n : Nat) : List Val := (List.range n).map fun (i : Nat) => .int (lo + i)
def guardOf (v : Val) : Store → Prop := match v with
  | .ref n => fun st => ∃ xs, st[n]? = some (.lst xs)
  | _ => fun _ => True
def keysVs (v : Val) : Option (List Val) := match v with
  | .dK kvs => some (kvs.map fun kv => vOfKey kv.1)
  | .dT kvs => some (kvs.map fun kv => .tup (kv.1.map vOfKey))
  | _ => none
def walkSeq (v : Val) (st : Store) : Option (List Val) := match v with
  | .tup xs => some xs
  | .lst xs => some xs
  | .slst ns => some (ns.map .int)
  | .str x => some (x.cps.toList.map fun c => .str ⟨#[c]⟩)
  | .dK kvs => some (kvs.map fun kv => vOfKey kv.1)
  | .dT kvs => some (kvs.map fun kv => .tup (kv.1.map vOfKey))
  | _ => none
def pairUp (xs ys : List Val) : List Val := (xs.zip ys).map fun p => .tup [p.1, p.2]
/-- the items of a tuple, of a list -/
def itemsV (v : Val) : Option (List Val) := match v with
  | .tup xs => some xs
  | .lst xs => some xs
  | _ => none
def tripUp (xs ys zs : List Val) : List Val := (xs.zip (ys.zip zs)).map fun p => .tup [p.1, p.2.1, p.2.2]
def enumUp (xs : List Val) : List Val := (xs.zipIdx).map fun p => .tup [.int (p.2 : Nat), p.1]
def smallI (j : Int) : Prop := -(2 ^ 62) ≤ j ∧ j < 2 ^ 62

/-- an exception leaves no comprehension -/
def Out.noExc {α : Type} (x : Out α) : Out α := match x with
  | .exc _ _ _ => .bad
  | x => x
/-- the slots vs forgotten -/
def wipeE (env : Env) : List Nat → Env
  | [] => env
  | v :: vs => (wipeE env vs).set v none
/-- the turns of a comprehension -/
def compL (f : Val → Store → Out (Option Val)) : List Val → List Val → Store → Out (List Val)
  | [], acc, st => .ok acc st
  | x :: xs, acc, st => (f x st).noExc.bind fun o st1 => match o with
    | none => compL f xs acc st1
    | some y => if acc.length < sizeLine then compL f xs (acc ++ [y]) st1 else .bad

/-- the turns of a dict's comprehension -/
def compD (f : Val → Store → Out (Option (L2.Key × Val))) : List Val → List (L2.Key × Val) → Store → Out (List (L2.Key × Val))
  | [], acc, st => .ok acc st
  | x :: xs, acc, st => (f x st).noExc.bind fun o st1 => match o with
    | none => compD f xs acc st1
    | some y => if acc.length < sizeLine then compD f xs (putA acc y.1 y.2) st1 else .bad

mutual
def evalE : E → Env → Store → Out Val
  | .var i, env, st => Out.of (env.getD i none) st
  | .lit v, _, st => .ok v st
  | .gcon _ v, _, st => .ok v st
  | .gfn x, _, st => .ok (.fn x) st
  | .bin op a b, env, st => (evalE a env st).bind fun x st1 => (evalE b env st1).bind fun y st2 => Out.of (bop op x y) st2
  | .neg a, env, st => (evalE a env st).bind fun x st1 => match x with | .int i => .ok (.int (-i)) st1 | _ => .bad
  | .cmp op a b, env, st => (evalE a env st).bind fun x st1 => (evalE b env st1).bind fun y st2 => Out.of ((cop op x y st2).map .bl) st2
  | .chain op op' a b c, env, st => (evalE a env st).bind fun x st1 => (evalE b env st1).bind fun y st2 => (Out.of (cop op x y st2) st2).bind fun t st3 =>
    if t = true then (evalE c env st3).bind fun z st4 => Out.of ((cop op' y z st4).map .bl) st4 else .ok (.bl false) st3
  | .isn n a, env, st => (evalE a env st).bind fun x st1 => .ok (.bl (n != isNon x)) st1
  | .isb n a b, env, st => (evalE a env st).bind fun x st1 => match x with | .bl c => .ok (.bl (n != decide (c = b))) st1 | _ => .bad
  | .and a b, env, st => (evalE a env st).bind fun x st1 => (Out.of (truth x st1) st1).bind fun t st2 => if t = true then evalE b env st2 else .ok x st2
  | .or a b, env, st => (evalE a env st).bind fun x st1 => (Out.of (truth x st1) st1).bind fun t st2 => if t = true then .ok x st2 else evalE b env st2
  | .not a, env, st => (evalE a env st).bind fun x st1 => Out.of ((truth x st1).map fun t => .bl (!t)) st1
  | .ite c a b, env, st => (evalE c env st).bind fun x st1 => (Out.of (truth x st1) st1).bind fun t st2 => if t = true then evalE a env st2 else evalE b env st2
  | .tup es, env, st => (evalEs es env st).bind fun xs st1 => if xs.length ≤ sizeLine then .ok (.tup xs) st1 else .bad
  | .val n, env, st => (evalN n env st).bind fun c st1 => match c with
    | .lst xs => .ok (.lst xs) st1
    | .dK kvs => .ok (.dK kvs) st1
    | .dT kvs => .ok (.dT kvs) st1
    | .dead => .bad
  | .cell n, env, st => (evalN n env st).bind fun c st1 => .ok (.ref st1.length) (st1 ++ [c])
  | .idx o i, env, st => (evalE o env st).bind fun x st1 => (evalE i env st1).bind fun y st2 => Out.of (idxV x y st2) st2
  | .slc o lo hi, env, st => (evalE o env st).bind fun x st1 => (evalEo lo env st1).bind fun l st2 => (evalEo hi env st2).bind fun h st3 => Out.of (slcV x l h st3) st3
  | .blt f es, env, st => (evalEs es env st).bind fun xs st1 => Out.of (blt f xs st1) st1
  | .isi a t, env, st => (evalE a env st).bind fun x st1 => Out.of ((isInst x t st1).map .bl) st1
  | .call _ d es, env, st => (evalEs es env st).bind fun xs st1 => d xs st1
  | .any, _, _ => .bad
  | .word _ wd e, env, st => (wd (fun st' => evalE e env st') st).noExc
  | .mth m o es, env, st => (evalE o env st).bind fun x st1 => if mthPre m x st1 = true then (evalEs es env st1).bind fun xs st2 => mth m x xs st2 else .bad
  | .rev o, env, st => (evalE o env st).bind fun x st1 => Out.of (revV x st1) st1
  | .lenset e, env, st => (evalE e env st).bind fun x st1 => Out.of (lensV x) st1
  | .litems e, env, st => (evalE e env st).bind fun x st1 => Out.of (litemsV x st1) st1
  | .callv i ds es, env, st => (Out.of ((env.getD i none).bind (fnIn ds)) st).bind fun d st1 => (evalEs es env st1).bind fun xs st2 => d xs st2
  | .isx i w _ b, env, st => if env.getD i none = some w then .ok (.bl b) st else .bad
/-- a part of a slice -/
def evalEo : Eo → Env → Store → Out (Option Int)
  | .none, _, st => .ok none st
  | .some e, env, st => (evalE e env st).bind fun x st1 => match x with | .int i => .ok (some i) st1 | _ => .bad
def evalEs : Es → Env → Store → Out (List Val)
  | .nil, _, st => .ok [] st
  | .cons e es, env, st => (evalE e env st).bind fun x st1 => (evalEs es env st1).bind fun xs st2 => .ok (x :: xs) st2
/-- a condition -/
def evalC : Eo → Env → Store → Out Bool
  | .none, _, st => .ok true st
  | .some e, env, st => (evalE e env st).bind fun x st1 => Out.of (truth x st1) st1
def evalN : Nw → Env → Store → Out Cell
  | .lst es, env, st => (evalEs es env st).bind fun xs st1 => if xs.length ≤ sizeLine then .ok (.lst xs) st1 else .bad
  | .comp e t it c own, env, st => (evalIt it env st).bind fun items st1 =>
    (compL (fun x st2 => match bindT t x (wipeE env (own.map (·.2))) with
      | none => .bad
      | some env' => (evalC c env' st2).bind fun b st3 => if b = true then (evalE e env' st3).bind fun y st4 => .ok (some y) st4 else .ok none st3) items [] st1).bind fun ys st2 => .ok (.lst ys) st2
  | .dct t, _, st => .ok (if t = true then .dT [] else .dK []) st
  | .cat a b, env, st => (evalE a env st).bind fun x st1 => (evalE b env st1).bind fun y st2 => match x, y with
    | .lst xs, .lst ys => if xs.length + ys.length ≤ sizeLine then .ok (.lst (xs ++ ys)) st2 else .bad
    | .ref n, .lst ys => match st2[n]? with
      | some (.lst xs) => if xs.length + ys.length ≤ sizeLine then .ok (.lst (xs ++ ys)) st2 else .bad
      | _ => .bad
    | _, _ => .bad
  | .rep a b, env, st => (evalE a env st).bind fun x st1 => (evalE b env st1).bind fun y st2 => match x, y with
    | .lst xs, .int k => if k < 2 ^ 63 ∧ -(2 ^ 63) ≤ k ∧ xs.length * k.toNat ≤ sizeLine then .ok (.lst (List.replicate k.toNat xs).flatten) st2 else .bad
    | _, _ => .bad
  | .ls a, env, st => (evalE a env st).bind fun v st1 => match seqOf v st1 with
    | some xs => .ok (.lst xs) st1
    | none => .bad
  | .dct1 k e, env, st => (evalE k env st).bind fun kv st1 => (evalE e env st1).bind fun v st2 => match tkeyOf kv with
    | some kk => .ok (.dT [(kk, v)]) st2
    | none => .bad
  | .dcomp k e t it c own, env, st => (evalIt it env st).bind fun items st1 =>
    (compD (fun x st2 => match bindT t x (wipeE env (own.map (·.2))) with
      | none => .bad
      | some env' => (evalC c env' st2).bind fun b st3 => if b = true then (evalE k env' st3).bind fun kv st4 => (Out.of (keyOf kv) st4).bind fun kk st5 => (evalE e env' st5).bind fun y st6 => .ok (some (kk, y)) st6 else .ok none st3) items [] st1).bind fun ys st2 => .ok (.dK ys) st2
def evalIt : It → Env → Store → Out (List Val)
  | .seq e, env, st => (evalE e env st).bind fun x st1 => Out.of (walkSeq x st1) st1
  | .range1 a, env, st => (evalE a env st).bind fun x st1 => match x with
    | .int j => if smallI j then .ok (rangeVs 0 j.toNat) st1 else .bad
    | _ => .bad
  | .range2 a b, env, st => (evalE a env st).bind fun x st1 => (evalE b env st1).bind fun y st2 => match x, y with
    | .int i, .int j => if smallI i ∧ smallI j then .ok (rangeVs i (j - i).toNat) st2 else .bad
    | _, _ => .bad
  | .enum e, env, st => (evalE e env st).bind fun x st1 => match x with
    | .tup xs => .ok (enumUp xs) st1
    | .lst xs => .ok (enumUp xs) st1
    | _ => .bad
  | .zip a b, env, st => (evalE a env st).bind fun x st1 => (evalE b env st1).bind fun y st2 => match x, y with
    | .tup xs, .tup ys => .ok (pairUp xs ys) st2
    | .lst xs, .lst ys => .ok (pairUp xs ys) st2
    | _, _ => .bad
  | .zip3 a b c, env, st => (evalE a env st).bind fun x st1 => (evalE b env st1).bind fun y st2 => (evalE c env st2).bind fun z st3 => match itemsV x, itemsV y, itemsV z with
    | some xs, some ys, some zs => .ok (tripUp xs ys zs) st3
    | _, _, _ => .bad
end

mutual
inductive S where
  | asg (i : Nat) (e : E)
  | par (is : List Nat) (es : Es)
  | unp (t : List Tgt) (e : E)
  | setix (o i e : E)
  | aug (i : Nat) (op : Bop) (e : E)
  | expr (e : E)
  | ret (e : E) | retn
  | ite (c : E) (a b : Ss)
  | loop (t : Tgt) (it : It) (body : Ss)
  | whl (c : E) (body : Ss)
  | brk | cnt | pass
  | raise (c : PySem.Str)
  | raise1 (c f : PySem.Str) (e : E)
  | augix (o i : E) (op : Bop) (e : E)
  | frz (i : Nat)
  | tryS (b : Ss) (hs : Hs)
  | thk (i : Nat) (w : Val) (th : Store → Out Val)
  | any
inductive Ss where
  | nil | cons (s : S) (ss : Ss)
/-- except clauses: the class, which classes are of it, the suite -/
inductive Hs where
  | nil | cons (c : PySem.Str) (mt : List (PySem.Str × Bool)) (b : Ss) (hs : Hs)
end

/-- the turns of a for -/
def forL (f : Val → Env → Store → Res) : List Val → Env → Store → Res
  | [], env, st => .nx env st
  | x :: xs, env, st => match f x env st with
    | .nx env' st' => forL f xs env' st'
    | .ct env' st' => forL f xs env' st'
    | .bk env' st' => .nx env' st'
    | r => r
/-- a while, n turns at most -/
def whlN (c : Env → Store → Out Bool) (b : Env → Store → Res) : Nat → Env → Store → Res
  | 0, _, _ => .bad
  | n + 1, env, st => (c env st).res env fun t st1 => if t = true then match b env st1 with
      | .nx env' st' => whlN c b n env' st'
      | .ct env' st' => whlN c b n env' st'
      | .bk env' st' => .nx env' st'
      | r => r
    else .nx env st1
def whl (c : Env → Store → Out Bool) (b : Env → Store → Res) (env : Env) (st : Store) : Res :=
  if h : ∃ n, whlN c b n env st ≠ .bad then whlN c b (Classical.choose h) env st else .bad
def setAll : List Nat → List Val → Env → Option Env
  | [], [], env => some env
  | i :: is, x :: xs, env => setAll is xs (env.set i (some x))
  | _, _, _ => none
def frzE (i : Nat) (env : Env) (st : Store) : Res := match env.getD i none with
  | some (.ref n) => match st[n]? with
    | some (.lst xs) => .nx (env.set i (some (.lst xs))) (st.set n .dead)
    | some (.dK kvs) => .nx (env.set i (some (.dK kvs))) (st.set n .dead)
    | some (.dT kvs) => .nx (env.set i (some (.dT kvs))) (st.set n .dead)
    | _ => .bad
  | some _ => .nx env st
  | none => .bad
mutual
def exec : S → Env → Store → Res
  | .asg i e, env, st => (evalE e env st).res env fun x st1 => .nx (env.set i (some x)) st1
  | .par is es, env, st => (evalEs es env st).res env fun xs st1 => match setAll is xs env with
    | some env' => .nx env' st1
    | none => .bad
  | .unp ts e, env, st => (evalE e env st).res env fun x st1 => match x with
    | .tup xs => match bindTs ts xs env with
      | some env' => .nx env' st1
      | none => .bad
    | _ => .bad
  | .setix o i e, env, st => (evalE e env st).res env fun v st1 => (evalE o env st1).res env fun x st2 => (evalE i env st2).res env fun y st3 => match setIx x y v st3 with
    | some st4 => .nx env st4
    | none => .bad
  | .aug i op e, env, st => (Out.of (env.getD i none) st).res env fun x st1 => (evalE e env st1).res env fun y st2 => match x, y with
    | .int a, .int b => match bop op (.int a) (.int b) with
      | some z => .nx (env.set i (some z)) st2
      | none => .bad
    | _, _ => .bad
  | .expr e, env, st => (evalE e env st).res env fun _ st1 => .nx env st1
  | .ret e, env, st => (evalE e env st).res env fun x st1 => .rt x st1
  | .retn, _, st => .rt .non st
  | .ite c a b, env, st => ((evalE c env st).bind fun x st1 => Out.of (truth x st1) st1).res env fun t st2 => if t = true then execs a env st2 else execs b env st2
  | .loop t it body, env, st => (evalIt it env st).res env fun items st1 => forL (fun x env' st' => match bindT t x env' with
    | some env2 => execs body env2 st'
    | none => .bad) items env st1
  | .whl c body, env, st => whl (fun env' st' => (evalE c env' st').bind fun x st1 => Out.of (truth x st1) st1) (fun env' st' => execs body env' st') env st
  | .brk, env, st => .bk env st
  | .cnt, env, st => .ct env st
  | .pass, env, st => .nx env st
  | .raise c, env, st => .ex c [] env st
  | .raise1 c f e, env, st => (evalE e env st).res env fun v st1 => .ex c [(f, v)] env st1
  | .augix o i op e, env, st => (evalE o env st).res env fun x st1 => (evalE i env st1).res env fun y st2 => (Out.of (idxA x y st2) st2).res env fun z st3 => (evalE e env st3).res env fun w st4 => match z, w with
    | .int a, .int b => match bop op (.int a) (.int b) with
      | some u => match setIx x y u st4 with
        | some st5 => .nx env st5
        | none => .bad
      | none => .bad
    | _, _ => .bad
  | .frz i, env, st => frzE i env st
  | .tryS b hs, env, st => match execs b env st with
    | .ex c xs env' st' => execH hs c xs env' st'
    | r => r
  | .thk i w th, env, st => if env.getD i none = some w then (match th st with
      | .ok _ st' => .nx env st'
      | .exc c xs st' => .ex c xs (env.map fun _ => none) st'
      | .bad => .bad) else .bad
  | .any, _, _ => .bad
def execH : Hs → PySem.Str → List (PySem.Str × Val) → Env → Store → Res
  | .nil, c, xs, env, st => .ex c xs env st
  | .cons _ mt b hs, c, xs, env, st => match mt.lookup c with
    | some true => (execs b env st).noEx
    | some false => execH hs c xs env st
    | none => .bad
def execs : Ss → Env → Store → Res
  | .nil, env, st => .nx env st
  | .cons s ss, env, st => (exec s env st).seq (execs ss)
end
/-- behind a def: the cells that it made are dropped where nothing refers to a cell -/
def popTo (st st' : Store) (v : Option Val) : Store :=
  if (∀ x, v = some x → noRef x = true) ∧ ∀ n c, n < st.length → st'[n]? = some c → st[n]? = some c ∨ cellNoRef c = true then st'.take st.length else st'
/-- a def of np parameters, nN slots -/
def runFn (np nN : Nat) (body : Ss) : Den := fun args st =>
  if args.length = np then match execs body (args.map some ++ List.replicate (nN - np) none) st with
    | .nx _ st' => .ok .non (popTo st st' none)
    | .rt v st' => .ok v (popTo st st' (some v))
    | .ex c xs _ st' => .exc c xs (popTo st st' (some (.tup (xs.map (·.2)))))
    | _ => .bad
  else .bad
end
end MP
set_option maxHeartbeats 4000000
/-! MPRep: how the pure values and the store lie in the abstract heap. F: what is laid and never changes; m: where the cells stand. -/
namespace MP
open PySem L2
/-- where the functions stand; the tables of code objects -/
structure GX where
  f : PySem.Str → Option Addr
  T : List (Addr × PySem.Str)

section
variable (K : PySem.W.Frag) (G : GX) (F : Hp) (m : Nat → Addr) (L : Nat)
mutual
inductive Rep : Val → V → Prop
  | non : Rep .non .non
  | bl (b : Bool) : Rep (.bl b) (.bl b)
  | int (i : Int) : Rep (.int i) (.int i)
  | str (x : PySem.Str) : Rep (.str x) (.str x)
  | tup {a : Addr} {xs : List Val} {ys : List V} : F a = some (.tup ys) → Reps xs ys → Rep (.tup xs) (.ref a)
  | lst {a : Addr} {xs : List Val} {ys : List V} : F a = some (.lst ys) → Reps xs ys → Rep (.lst xs) (.ref a)
  | slst {a : Addr} {ns : List Int} : SqL K F a (ns.map V.int) → Rep (.slst ns) (.ref a)
  | dK {a : Addr} {xs : List (L2.Key × Val)} {ys : List (L2.Key × V)} : F a = some (.dK ys) → RepK xs ys → Rep (.dK xs) (.ref a)
  | dT {a : Addr} {xs : List (List L2.Key × Val)} {ys : List (List L2.Key × V)} : F a = some (.dT ys) → RepT xs ys → Rep (.dT xs) (.ref a)
  | ref {n : Nat} {a : Addr} : n < L → m n = a → Rep (.ref n) (.ref a)
  | fn {x : PySem.Str} {a : Addr} : G.f x = some a → Rep (.fn x) (.ref a)
  | ty (n : String) : Rep (.ty n) (.ty n)
  | opq {F0 : Hp} {m0 : Nat → Addr} {L0 : Nat} {a : Addr} : Same F0 F → (∀ n, n < L0 → m n = m0 n) → L0 ≤ L → Rep (.opq F0 m0 L0 a) (.ref a)
inductive Reps : List Val → List V → Prop
  | nil : Reps [] []
  | cons {x : Val} {y : V} {xs : List Val} {ys : List V} : Rep x y → Reps xs ys → Reps (x :: xs) (y :: ys)
inductive RepK : List (L2.Key × Val) → List (L2.Key × V) → Prop
  | nil : RepK [] []
  | cons {k : L2.Key} {x : Val} {y : V} {xs : List (L2.Key × Val)} {ys : List (L2.Key × V)} : Rep x y → RepK xs ys → RepK ((k, x) :: xs) ((k, y) :: ys)
inductive RepT : List (List L2.Key × Val) → List (List L2.Key × V) → Prop
  | nil : RepT [] []
  | cons {k : List L2.Key} {x : Val} {y : V} {xs : List (List L2.Key × Val)} {ys : List (List L2.Key × V)} : Rep x y → RepT xs ys → RepT ((k, x) :: xs) ((k, y) :: ys)
end
end
section
variable {K : PySem.W.Frag} {G : GX} {F F' : Hp} {m m' : Nat → Addr} {L L' : Nat}
theorem Same.sqT (e : Same F F') {a : Addr} {xs : List V} (h : SqT K F a xs) : SqT K F' a xs := by
  rcases h with h | h
  · rcases h with h | ⟨o, h⟩
    · exact .inl (.inl (e _ _ h))
    · exact .inl (.inr ⟨o, e _ _ h⟩)
  · exact .inr h
theorem Same.sqL (e : Same F F') {a : Addr} {xs : List V} (h : SqL K F a xs) : SqL K F' a xs := by
  rcases h with h | h
  · rcases h with h | ⟨o, h⟩
    · exact .inl (.inl (e _ _ h))
    · exact .inl (.inr ⟨o, e _ _ h⟩)
  · exact .inr h
mutual
theorem Rep.mono (e : Same F F') (hm : ∀ n, n < L → m' n = m n) (hL : L ≤ L') : ∀ {v : Val} {y : V}, Rep K G F m L v y → Rep K G F' m' L' v y
  | _, _, .non => .non
  | _, _, .bl b => .bl b
  | _, _, .int i => .int i
  | _, _, .str x => .str x
  | _, _, .tup h r => .tup (e _ _ h) (Reps.mono e hm hL r)
  | _, _, .lst h r => .lst (e _ _ h) (Reps.mono e hm hL r)
  | _, _, .slst h => .slst (Same.sqL e h)
  | _, _, .dK h r => .dK (e _ _ h) (RepK.mono e hm hL r)
  | _, _, .dT h r => .dT (e _ _ h) (RepT.mono e hm hL r)
  | _, _, .ref h q => .ref (Nat.lt_of_lt_of_le h hL) ((hm _ h).trans q)
  | _, _, .fn h => .fn h
  | _, _, .ty n => .ty n
  | _, _, .opq h1 h2 h3 => .opq (h1.trans e) (fun n h => (hm n (Nat.lt_of_lt_of_le h h3)).trans (h2 n h)) (Nat.le_trans h3 hL)
theorem Reps.mono (e : Same F F') (hm : ∀ n, n < L → m' n = m n) (hL : L ≤ L') : ∀ {v : List Val} {y : List V}, Reps K G F m L v y → Reps K G F' m' L' v y
  | _, _, .nil => .nil
  | _, _, .cons r t => .cons (Rep.mono e hm hL r) (Reps.mono e hm hL t)
theorem RepK.mono (e : Same F F') (hm : ∀ n, n < L → m' n = m n) (hL : L ≤ L') : ∀ {v : List (L2.Key × Val)} {y : List (L2.Key × V)}, RepK K G F m L v y → RepK K G F' m' L' v y
  | _, _, .nil => .nil
  | _, _, .cons r t => .cons (Rep.mono e hm hL r) (RepK.mono e hm hL t)
theorem RepT.mono (e : Same F F') (hm : ∀ n, n < L → m' n = m n) (hL : L ≤ L') : ∀ {v : List (List L2.Key × Val)} {y : List (List L2.Key × V)}, RepT K G F m L v y → RepT K G F' m' L' v y
  | _, _, .nil => .nil
  | _, _, .cons r t => .cons (Rep.mono e hm hL r) (RepT.mono e hm hL t)
end
mutual
/-- a value without cells stands whatever the cells -/
theorem Rep.noref (e : Same F F') : ∀ {v : Val} {y : V}, Rep K G F m L v y → noRef v = true → Rep K G F' m' L' v y
  | _, _, .non, _ => .non
  | _, _, .bl b, _ => .bl b
  | _, _, .int i, _ => .int i
  | _, _, .str x, _ => .str x
  | _, _, .tup h r, q => .tup (e _ _ h) (Reps.noref e r (by simpa [noRef] using q))
  | _, _, .lst h r, q => .lst (e _ _ h) (Reps.noref e r (by simpa [noRef] using q))
  | _, _, .slst h, _ => .slst (Same.sqL e h)
  | _, _, .dK h r, q => .dK (e _ _ h) (RepK.noref e r (by simpa [noRef] using q))
  | _, _, .dT h r, q => .dT (e _ _ h) (RepT.noref e r (by simpa [noRef] using q))
  | _, _, .ref h _, q => by simp [noRef] at q
  | _, _, .fn h, _ => .fn h
  | _, _, .ty n, _ => .ty n
  | _, _, .opq _ _ _, q => by simp [noRef] at q
theorem Reps.noref (e : Same F F') : ∀ {v : List Val} {y : List V}, Reps K G F m L v y → noRefs v = true → Reps K G F' m' L' v y
  | _, _, .nil, _ => .nil
  | _, _, .cons r t, q => by
    simp only [noRefs, Bool.and_eq_true] at q
    exact .cons (Rep.noref e r q.1) (Reps.noref e t q.2)
theorem RepK.noref (e : Same F F') : ∀ {v : List (L2.Key × Val)} {y : List (L2.Key × V)}, RepK K G F m L v y → noRefK v = true → RepK K G F' m' L' v y
  | _, _, .nil, _ => .nil
  | _, _, .cons r t, q => by
    simp only [noRefK, Bool.and_eq_true] at q
    exact .cons (Rep.noref e r q.1) (RepK.noref e t q.2)
theorem RepT.noref (e : Same F F') : ∀ {v : List (List L2.Key × Val)} {y : List (List L2.Key × V)}, RepT K G F m L v y → noRefT v = true → RepT K G F' m' L' v y
  | _, _, .nil, _ => .nil
  | _, _, .cons r t, q => by
    simp only [noRefT, Bool.and_eq_true] at q
    exact .cons (Rep.noref e r q.1) (RepT.noref e t q.2)
end
theorem Reps.length : ∀ {xs : List Val} {ys : List V}, Reps K G F m L xs ys → xs.length = ys.length
  | _, _, .nil => rfl
  | _, _, .cons _ t => by simp [Reps.length t]
theorem Reps.get : ∀ {xs : List Val} {ys : List V} {i : Nat} {x : Val}, Reps K G F m L xs ys → xs[i]? = some x → ∃ y, ys[i]? = some y ∧ Rep K G F m L x y
  | _, _, _, _, .nil, e => by simp at e
  | _, _, 0, _, .cons r _, e => by simp at e; subst e; exact ⟨_, rfl, r⟩
  | _, _, i + 1, _, .cons _ t, e => by
    obtain ⟨y, h1, h2⟩ := Reps.get (i := i) t (by simpa using e)
    exact ⟨y, by simpa using h1, h2⟩
theorem Reps.get' : ∀ {xs : List Val} {ys : List V} {i : Nat} {y : V}, Reps K G F m L xs ys → ys[i]? = some y → ∃ x, xs[i]? = some x ∧ Rep K G F m L x y
  | _, _, _, _, .nil, e => by simp at e
  | _, _, 0, _, .cons r _, e => by simp at e; subst e; exact ⟨_, rfl, r⟩
  | _, _, i + 1, _, .cons _ t, e => by
    obtain ⟨y, h1, h2⟩ := Reps.get' (i := i) t (by simpa using e)
    exact ⟨y, by simpa using h1, h2⟩
theorem Reps.append : ∀ {xs xs' : List Val} {ys ys' : List V}, Reps K G F m L xs ys → Reps K G F m L xs' ys' → Reps K G F m L (xs ++ xs') (ys ++ ys')
  | _, _, _, _, .nil, s => s
  | _, _, _, _, .cons r t, s => .cons r (Reps.append t s)
theorem Reps.reverse : ∀ {xs : List Val} {ys : List V}, Reps K G F m L xs ys → Reps K G F m L xs.reverse ys.reverse
  | _, _, .nil => .nil
  | _, _, .cons r t => by
    rw [List.reverse_cons, List.reverse_cons]
    exact (Reps.reverse t).append (.cons r .nil)
theorem Reps.take : ∀ {xs : List Val} {ys : List V} (n : Nat), Reps K G F m L xs ys → Reps K G F m L (xs.take n) (ys.take n)
  | _, _, 0, _ => .nil
  | _, _, _ + 1, .nil => .nil
  | _, _, n + 1, .cons r t => .cons r (Reps.take n t)
theorem Reps.drop : ∀ {xs : List Val} {ys : List V} (n : Nat), Reps K G F m L xs ys → Reps K G F m L (xs.drop n) (ys.drop n)
  | _, _, 0, r => r
  | _, _, _ + 1, .nil => .nil
  | _, _, n + 1, .cons _ t => Reps.drop n t
theorem Reps.set {x : Val} {y : V} (r : Rep K G F m L x y) : ∀ {xs : List Val} {ys : List V} (i : Nat), Reps K G F m L xs ys → Reps K G F m L (xs.set i x) (ys.set i y)
  | _, _, _, .nil => .nil
  | _, _, 0, .cons _ t => .cons r t
  | _, _, i + 1, .cons q t => .cons q (Reps.set r i t)
theorem Reps.dropLast {xs : List Val} {ys : List V} (h : Reps K G F m L xs ys) : Reps K G F m L xs.dropLast ys.dropLast := by
  rw [List.dropLast_eq_take, List.dropLast_eq_take, h.length]
  exact Reps.take _ h
theorem Reps.rep {xs : List Val} {ys : List V} (h : Reps K G F m L xs ys) : ∀ k : Nat, Reps K G F m L (List.replicate k xs).flatten (List.replicate k ys).flatten
  | 0 => .nil
  | k + 1 => by
    rw [List.replicate_succ, List.replicate_succ, List.flatten_cons, List.flatten_cons]
    exact h.append (Reps.rep h k)
theorem RepK.length : ∀ {xs : List (L2.Key × Val)} {ys : List (L2.Key × V)}, RepK K G F m L xs ys → xs.length = ys.length
  | _, _, .nil => rfl
  | _, _, .cons _ t => by simp [RepK.length t]
theorem RepT.length : ∀ {xs : List (List L2.Key × Val)} {ys : List (List L2.Key × V)}, RepT K G F m L xs ys → xs.length = ys.length
  | _, _, .nil => rfl
  | _, _, .cons _ t => by simp [RepT.length t]
end

/-! ### the heap -/
/-- nothing of use there -/
def nu (H : Hp) (a : Addr) : Prop := ∀ o, H a = some o → ∃ ps, o = .tbl ps
theorem nu.of {H : Hp} {a : Addr} (h : H a = none) : nu H a := fun o q => by rw [h] at q; cases q
def isLD : HO → Prop
  | .lst _ => True
  | .dK _ => True
  | .dT _ => True
  | _ => False
/-- no list, no dict there -/
def noL (H : Hp) (a : Addr) : Prop := ∀ o, H a = some o → ¬ isLD o
theorem nu.noL {H : Hp} {a : Addr} (h : nu H a) : noL H a := fun o q d => by
  obtain ⟨ps, z⟩ := h _ q
  subst z
  exact d
def notT (o : HO) : Prop := ∀ ps, o ≠ .tbl ps
def isD : HO → Prop
  | .dK _ => True
  | .dT _ => True
  | _ => False
/-- what is laid stands (a dict may be locked) -/
def Fz (F H : Hp) : Prop := ∀ a o, F a = some o → H a = some o ∨ (isD o ∧ ∃ ob, H a = some (.frz ob o))
def live (st : Store) (n : Nat) : Prop := ∃ c, st[n]? = some c ∧ c ≠ .dead
section
variable (K : PySem.W.Frag) (G : GX)
def CellAt (F : Hp) (m : Nat → Addr) (L : Nat) (H : Hp) (a : Addr) : Cell → Prop
  | .dead => True
  | .lst xs => ∃ ys, H a = some (.lst ys) ∧ Reps K G F m L xs ys
  | .dK xs => ∃ ys, H a = some (.dK ys) ∧ RepK K G F m L xs ys
  | .dT xs => ∃ ys, H a = some (.dT ys) ∧ RepT K G F m L xs ys
structure RelH (F : Hp) (m : Nat → Addr) (st : Store) (H : Hp) : Prop where
  fz : Fz F H
  cell : ∀ n c, st[n]? = some c → CellAt K G F m st.length H (m n) c
  inj : ∀ i j, live st i → live st j → m i = m j → i = j
  off : ∀ n, live st n → F (m n) = none
  nt : ∀ a ps, F a ≠ some (.tbl ps)
  tb : LamX.Tabs G.T H
structure Ext (F : Hp) (m : Nat → Addr) (st : Store) (H F' : Hp) (m' : Nat → Addr) (st' : Store) (H' : Hp) : Prop where
  same : Same F F'
  len : st.length ≤ st'.length
  mm : ∀ n, n < st.length → m' n = m n
  lv : ∀ n, n < st.length → live st' n → live st n
  nw : ∀ n, st.length ≤ n → live st' n → nu H (m' n)
  keep : ∀ a o, H a = some o → notT o → (∀ n, live st n → m n ≠ a) → H' a = some o ∨ (isD o ∧ F' a = some o ∧ ∃ ob, H' a = some (.frz ob o))
  there : ∀ a, nu H' a → nu H a
  fnew : ∀ a, F' a ≠ none → F a ≠ none ∨ noL H a ∨ ∃ n, live st n ∧ m n = a
end
section
variable {K : PySem.W.Frag} {G : GX} {F F' F1 F2 H H' H1 H2 : Hp} {m m' m1 m2 : Nat → Addr} {st st' st1 st2 : Store}
theorem live.lt {n : Nat} (h : live st n) : n < st.length := by
  obtain ⟨c, h, _⟩ := h
  exact (List.getElem?_eq_some_iff.mp h).1
theorem Fz.sqT (e : Fz F H) {a : Addr} {xs : List V} (h : SqT K F a xs) : SqT K H a xs := by
  rcases h with h | h
  · rcases h with h | ⟨o, h⟩
    · rcases e _ _ h with q | ⟨q, _⟩
      · exact .inl (.inl q)
      · exact q.elim
    · rcases e _ _ h with q | ⟨q, _⟩
      · exact .inl (.inr ⟨o, q⟩)
      · exact q.elim
  · exact .inr h
theorem Fz.sqL (e : Fz F H) {a : Addr} {xs : List V} (h : SqL K F a xs) : SqL K H a xs := by
  rcases h with h | h
  · rcases h with h | ⟨o, h⟩
    · rcases e _ _ h with q | ⟨q, _⟩
      · exact .inl (.inl q)
      · exact q.elim
    · rcases e _ _ h with q | ⟨q, _⟩
      · exact .inl (.inr ⟨o, q⟩)
      · exact q.elim
  · exact .inr h
theorem Fz.tup (e : Fz F H) {a : Addr} {xs : List V} (h : F a = some (.tup xs)) : H a = some (.tup xs) := by
  rcases e _ _ h with q | ⟨q, _⟩
  · exact q
  · exact q.elim
theorem Fz.lst (e : Fz F H) {a : Addr} {xs : List V} (h : F a = some (.lst xs)) : H a = some (.lst xs) := by
  rcases e _ _ h with q | ⟨q, _⟩
  · exact q
  · exact q.elim
theorem Fz.free (e : Fz F H) {a : Addr} (h : H a = none) : F a = none := by
  cases q : F a with
  | none => rfl
  | some o =>
    rcases e _ _ q with z | ⟨_, _, z⟩
    · rw [h] at z; cases z
    · rw [h] at z; cases z
theorem Fz.rdK (e : Fz F H) {a : Addr} {xs : List (L2.Key × V)} (h : F a = some (.dK xs)) : Rd H a (.dK xs) := by
  rcases e _ _ h with q | ⟨_, ob, q⟩
  · exact .inl q
  · exact .inr ⟨ob, q⟩
theorem Fz.rdT (e : Fz F H) {a : Addr} {xs : List (List L2.Key × V)} (h : F a = some (.dT xs)) : Rd H a (.dT xs) := by
  rcases e _ _ h with q | ⟨_, ob, q⟩
  · exact .inl q
  · exact .inr ⟨ob, q⟩
theorem RelH.there (r : RelH K G F m st H) {n : Nat} (h : live st n) : ∃ o, H (m n) = some o := by
  obtain ⟨c, h, hc⟩ := h
  have q := r.cell n c h
  cases c with
  | dead => exact absurd rfl hc
  | lst xs => obtain ⟨ys, q, _⟩ := q; exact ⟨_, q⟩
  | dK xs => obtain ⟨ys, q, _⟩ := q; exact ⟨_, q⟩
  | dT xs => obtain ⟨ys, q, _⟩ := q; exact ⟨_, q⟩
theorem RelH.cellO (r : RelH K G F m st H) {n : Nat} (h : live st n) : ∃ o, H (m n) = some o ∧ notT o ∧ ∀ c q, o ≠ LamX.CodeO c q := by
  obtain ⟨c, h, hc⟩ := h
  have q := r.cell n c h
  cases c with
  | dead => exact absurd rfl hc
  | lst xs => obtain ⟨ys, q, _⟩ := q; exact ⟨_, q, (by intro _ z; cases z), (by intro _ _ z; unfold LamX.CodeO at z; cases z)⟩
  | dK xs => obtain ⟨ys, q, _⟩ := q; exact ⟨_, q, (by intro _ z; cases z), (by intro _ _ z; unfold LamX.CodeO at z; cases z)⟩
  | dT xs => obtain ⟨ys, q, _⟩ := q; exact ⟨_, q, (by intro _ z; cases z), (by intro _ _ z; unfold LamX.CodeO at z; cases z)⟩
theorem RelH.ne (r : RelH K G F m st H) {n : Nat} (h : live st n) {p : Addr} (hp : nu H p) : m n ≠ p := fun e => by
  obtain ⟨o, q, t, _⟩ := r.cellO h
  rw [e] at q
  obtain ⟨ps, z⟩ := hp o q
  exact t ps z
theorem RelH.freeF (r : RelH K G F m st H) {p : Addr} (hp : nu H p) : F p = none := by
  cases q : F p with
  | none => rfl
  | some o =>
    have nt := r.nt p
    rcases r.fz _ _ q with z | ⟨_, _, z⟩
    · obtain ⟨ps, z⟩ := hp _ z
      subst z
      exact absurd q (nt ps)
    · obtain ⟨ps, z⟩ := hp _ z
      cases z
theorem Ext.refl : Ext F m st H F m st H where
  same := Same.refl F
  len := Nat.le_refl _
  mm := fun _ _ => rfl
  lv := fun _ _ h => h
  nw := fun n h l => absurd l.lt (Nat.not_lt.mpr h)
  keep := fun _ _ h _ _ => .inl h
  there := fun _ h => h
  fnew := fun _ h => .inl h
theorem Ext.trans (a : Ext F m st H F1 m1 st1 H1) (b : Ext F1 m1 st1 H1 F2 m2 st2 H2) : Ext F m st H F2 m2 st2 H2 where
  same := a.same.trans b.same
  len := Nat.le_trans a.len b.len
  mm := fun n h => (b.mm n (Nat.lt_of_lt_of_le h a.len)).trans (a.mm n h)
  lv := fun n h l => a.lv n h (b.lv n (Nat.lt_of_lt_of_le h a.len) l)
  nw := fun n h l => by
    by_cases q : n < st1.length
    · rw [b.mm n q]
      exact a.nw n h (b.lv n q l)
    · exact a.there _ (b.nw n (Nat.not_lt.mp q) l)
  keep := fun x o h nt nl => by
    have nl2 : ∀ n, live st1 n → m1 n ≠ x := fun n l => by
      by_cases q : n < st.length
      · rw [a.mm n q]
        exact nl n (a.lv n q l)
      · intro e
        have z := a.nw n (Nat.not_lt.mp q) l
        rw [e] at z
        obtain ⟨ps, z⟩ := z o h
        exact nt ps z
    rcases a.keep x o h nt nl with h1 | ⟨hd, f1, ob, h1⟩
    · exact b.keep x o h1 nt nl2
    · rcases b.keep x _ h1 (fun ps z => nomatch z) nl2 with h2 | ⟨z, _⟩
      · exact .inr ⟨hd, b.same _ _ f1, ob, h2⟩
      · exact z.elim
  there := fun x h => a.there x (b.there x h)
  fnew := fun x h => by
    rcases b.fnew x h with z | z | ⟨n, l, e⟩
    · exact a.fnew x z
    · by_cases hl : ∃ n, live st n ∧ m n = x
      · exact .inr (.inr hl)
      · by_cases hf : F1 x ≠ none
        · exact a.fnew x hf
        · refine .inr (.inl fun o q d => ?_)
          have nt : notT o := fun ps z => by subst z; exact d
          rcases a.keep x _ q nt fun n l e => hl ⟨n, l, e⟩ with h1 | ⟨_, f1, _⟩
          · exact z o h1 d
          · exact hf (by rw [f1]; simp)
    · by_cases q : n < st.length
      · exact .inr (.inr ⟨n, a.lv n q l, by rw [← a.mm n q]; exact e⟩)
      · exact .inr (.inl (nu.noL (by rw [← e]; exact a.nw n (Nat.not_lt.mp q) l)))
theorem Ext.rep (a : Ext F m st H F1 m1 st1 H1) {v : Val} {y : V} (r : Rep K G F m st.length v y) : Rep K G F1 m1 st1.length v y := r.mono a.same a.mm a.len
theorem Ext.reps (a : Ext F m st H F1 m1 st1 H1) {v : List Val} {y : List V} (r : Reps K G F m st.length v y) : Reps K G F1 m1 st1.length v y := r.mono a.same a.mm a.len
theorem Ext.repK (a : Ext F m st H F1 m1 st1 H1) {v : List (L2.Key × Val)} {y : List (L2.Key × V)} (r : RepK K G F m st.length v y) : RepK K G F1 m1 st1.length v y := r.mono a.same a.mm a.len

/-! ### new things -/
theorem tabs_upd {T : List (Addr × PySem.Str)} {D : Addr} {o o' : HO} (q : H D = some o') (t : notT o') (tc : ∀ c q, o' ≠ LamX.CodeO c q) (h : LamX.Tabs T H) : LamX.Tabs T (upd H D o) := fun p hp => by
  obtain ⟨ps, h1, h2, h3⟩ := h p hp
  have f : ∀ b u, H b = some u → b ≠ D ∨ u = o' := fun b u e => by
    by_cases z : b = D
    · rw [z, q] at e; cases e; exact .inr rfl
    · exact .inl z
  refine ⟨ps, by rw [upd_ne ((f _ _ h1).elim id fun z => absurd z.symm (t ps))]; exact h1, h2, fun pos cv hc => ?_⟩
  obtain ⟨c, e1, e2⟩ := h3 pos cv hc
  exact ⟨c, e1, by rw [upd_ne ((f _ _ e2).elim id fun z => absurd z.symm (tc _ _))]; exact e2⟩
theorem CellAt.mono {L L' : Nat} {a : Addr} {c : Cell} (h : CellAt K G F m L H a c) (e : Same F F') (hm : ∀ n, n < L → m' n = m n) (hL : L ≤ L') (hH : c ≠ .dead → H' a = H a) : CellAt K G F' m' L' H' a c := by
  cases c with
  | dead => exact True.intro
  | lst xs => obtain ⟨ys, q, r⟩ := h; exact ⟨ys, (hH (by simp)).trans q, r.mono e hm hL⟩
  | dK xs => obtain ⟨ys, q, r⟩ := h; exact ⟨ys, (hH (by simp)).trans q, r.mono e hm hL⟩
  | dT xs => obtain ⟨ys, q, r⟩ := h; exact ⟨ys, (hH (by simp)).trans q, r.mono e hm hL⟩
theorem Same.upd {p : Addr} {o : HO} (h : F p = none) : Same F (upd F p o) := fun b u q => by
  rw [upd_ne (ne_of_none q h)]; exact q
/-- an object is laid that nothing names -/
theorem RelH.lay (r : RelH K G F m st H) {p : Addr} (hp : H p = none) (o : HO) : RelH K G F m st (upd H p o) where
  fz := fun a u h => by
    have ne : a ≠ p := ne_of_none h (r.fz.free hp)
    rw [upd_ne ne]; exact r.fz a u h
  cell := fun n c h => (r.cell n c h).mono (Same.refl F) (fun _ _ => rfl) (Nat.le_refl _) fun hc => upd_ne (r.ne ⟨c, h, hc⟩ (nu.of hp))
  inj := r.inj
  off := r.off
  nt := r.nt
  tb := r.tb.ext fun b u q => by rw [upd_ne (ne_of_none q hp)]; exact q
theorem Ext.lay {p : Addr} (hp : H p = none) (o : HO) : Ext F m st H F m st (upd H p o) where
  same := Same.refl F
  len := Nat.le_refl _
  mm := fun _ _ => rfl
  lv := fun _ _ h => h
  nw := fun n h l => absurd l.lt (Nat.not_lt.mpr h)
  keep := fun a u h _ _ => .inl (by rw [upd_ne (ne_of_none h hp)]; exact h)
  there := fun a h u q => h u (by rw [upd_ne (ne_of_none q hp)]; exact q)
  fnew := fun _ h => .inl h
/-- what lies apart is taken among what never changes -/
theorem RelH.take (r : RelH K G F m st H) {p : Addr} {o : HO} (hF : F p = none) (hn : ∀ n, live st n → m n ≠ p) (h : H p = some o) (ht : notT o := by first | assumption | (intro _ z; cases z)) : RelH K G (upd F p o) m st H where
  fz := fun a u q => by
    by_cases e : a = p
    · rw [e, upd_same] at q; cases q; rw [e]; exact .inl h
    · rw [upd_ne e] at q; exact r.fz a u q
  cell := fun n c q => (r.cell n c q).mono (Same.upd hF) (fun _ _ => rfl) (Nat.le_refl _) fun _ => rfl
  inj := r.inj
  off := fun n l => by rw [upd_ne (hn n l)]; exact r.off n l
  nt := fun a ps => by
    by_cases e : a = p
    · rw [e, upd_same]; intro z; cases z; exact ht ps rfl
    · rw [upd_ne e]; exact r.nt a ps
  tb := r.tb
theorem Ext.take (e : Ext F m st H F1 m1 st1 H1) {p : Addr} {o : HO} (hp : nu H p) (hF : F1 p = none) : Ext F m st H (upd F1 p o) m1 st1 H1 where
  same := e.same.trans (Same.upd hF)
  len := e.len
  mm := e.mm
  lv := e.lv
  nw := e.nw
  keep := fun a u h nt nl => (e.keep a u h nt nl).imp id fun ⟨x, y, z⟩ => ⟨x, Same.upd hF _ _ y, z⟩
  there := e.there
  fnew := fun a h => by
    by_cases q : a = p
    · rw [q]; exact .inr (.inl hp.noL)
    · rw [upd_ne q] at h; exact e.fnew a h
/-- .. among the cells -/
def mAt (m : Nat → Addr) (n : Nat) (p : Addr) : Nat → Addr := fun k => if k = n then p else m k
theorem mAt_same {m : Nat → Addr} {n : Nat} {p : Addr} : mAt m n p n = p := if_pos rfl
theorem mAt_ne {m : Nat → Addr} {n k : Nat} {p : Addr} (h : k ≠ n) : mAt m n p k = m k := if_neg h
def objOf (K : PySem.W.Frag) (G : GX) (F : Hp) (m : Nat → Addr) (L : Nat) : Cell → HO → Prop
  | .dead, _ => False
  | .lst xs, o => ∃ ys, o = .lst ys ∧ Reps K G F m L xs ys
  | .dK xs, o => ∃ ys, o = .dK ys ∧ RepK K G F m L xs ys
  | .dT xs, o => ∃ ys, o = .dT ys ∧ RepT K G F m L xs ys
theorem objOf.at_ {L L' : Nat} {c : Cell} {o : HO} {a : Addr} (h : objOf K G F m L c o) (e : Same F F') (hm : ∀ n, n < L → m' n = m n) (hL : L ≤ L') (hH : H' a = some o) : CellAt K G F' m' L' H' a c := by
  cases c with
  | dead => exact h.elim
  | lst xs => obtain ⟨ys, q, r⟩ := h; subst q; exact ⟨ys, hH, r.mono e hm hL⟩
  | dK xs => obtain ⟨ys, q, r⟩ := h; subst q; exact ⟨ys, hH, r.mono e hm hL⟩
  | dT xs => obtain ⟨ys, q, r⟩ := h; subst q; exact ⟨ys, hH, r.mono e hm hL⟩
theorem live_app {c : Cell} {n : Nat} (h : live (st ++ [c]) n) : n = st.length ∨ live st n := by
  obtain ⟨d, h, hd⟩ := h
  by_cases q : n < st.length
  · rw [List.getElem?_append_left q] at h
    exact .inr ⟨d, h, hd⟩
  · by_cases e : n = st.length
    · exact .inl e
    · rw [List.getElem?_append_right (Nat.not_lt.mp q)] at h
      rw [List.getElem?_eq_none (by simp; omega)] at h
      cases h
theorem RelH.newCell (r : RelH K G F m st H) {p : Addr} {o : HO} {c : Cell} (hF : F p = none) (hn : ∀ n, live st n → m n ≠ p) (h : H p = some o) (hc : objOf K G F m st.length c o) : RelH K G F (mAt m st.length p) (st ++ [c]) H where
  fz := r.fz
  cell := fun n d q => by
    by_cases hl : n < st.length
    · rw [List.getElem?_append_left hl] at q
      rw [mAt_ne (Nat.ne_of_lt hl)]
      exact (r.cell n d q).mono (Same.refl F) (fun k hk => mAt_ne (Nat.ne_of_lt hk)) (by simp) fun _ => rfl
    · have e : n = st.length := by
        have := (List.getElem?_eq_some_iff.mp q).1
        simp at this; omega
      subst e
      rw [List.getElem?_append_right (Nat.le_refl _)] at q
      simp at q
      subst q
      rw [mAt_same]
      exact hc.at_ (Same.refl F) (fun k hk => mAt_ne (Nat.ne_of_lt hk)) (by simp) h
  inj := fun i j hi hj e => by
    rcases live_app hi with h1 | h1 <;> rcases live_app hj with h2 | h2
    · rw [h1, h2]
    · rw [h1, mAt_same, mAt_ne (Nat.ne_of_lt h2.lt)] at e
      exact absurd e.symm (hn j h2)
    · rw [h2, mAt_same, mAt_ne (Nat.ne_of_lt h1.lt)] at e
      exact absurd e (hn i h1)
    · rw [mAt_ne (Nat.ne_of_lt h1.lt), mAt_ne (Nat.ne_of_lt h2.lt)] at e
      exact r.inj i j h1 h2 e
  off := fun n l => by
    rcases live_app l with h1 | h1
    · rw [h1, mAt_same]; exact hF
    · rw [mAt_ne (Nat.ne_of_lt h1.lt)]; exact r.off n h1
  nt := r.nt
  tb := r.tb
theorem Ext.newCell (e : Ext F m st H F1 m1 st1 H1) {p : Addr} {c : Cell} (hp : nu H p) : Ext F m st H F1 (mAt m1 st1.length p) (st1 ++ [c]) H1 where
  same := e.same
  len := by simp; have := e.len; omega
  mm := fun n h => by rw [mAt_ne (by have := e.len; omega)]; exact e.mm n h
  lv := fun n h l => by
    rcases live_app l with h1 | h1
    · have := e.len; omega
    · exact e.lv n h h1
  nw := fun n h l => by
    rcases live_app l with h1 | h1
    · rw [h1, mAt_same]; exact hp
    · rw [mAt_ne (Nat.ne_of_lt h1.lt)]; exact e.nw n h h1
  keep := e.keep
  there := e.there
  fnew := e.fnew
/-- a cell is written -/
theorem live_set {n k : Nat} {c : Cell} (h : live (st.set n c) k) : live st k ∨ k = n := by
  obtain ⟨d, h, hd⟩ := h
  by_cases e : k = n
  · exact .inr e
  · rw [List.getElem?_set_ne (Ne.symm e)] at h
    exact .inl ⟨d, h, hd⟩
theorem RelH.write (r : RelH K G F m st H) {n : Nat} {o : HO} {c : Cell} (hl : live st n) (hc : objOf K G F m st.length c o) : RelH K G F m (st.set n c) (upd H (m n) o) where
  fz := fun a u q => by
    have ne : a ≠ m n := ne_of_none q (r.off n hl)
    rw [upd_ne ne]; exact r.fz a u q
  cell := fun k d q => by
    rw [List.length_set]
    by_cases e : k = n
    · subst e
      rw [List.getElem?_set_self hl.lt] at q
      cases q
      exact hc.at_ (Same.refl F) (fun _ _ => rfl) (Nat.le_refl _) upd_same
    · rw [List.getElem?_set_ne (Ne.symm e)] at q
      exact (r.cell k d q).mono (Same.refl F) (fun _ _ => rfl) (Nat.le_refl _) fun hd => upd_ne fun z => e (r.inj k n ⟨d, q, hd⟩ hl z)
  inj := fun i j hi hj e => by
    have f : ∀ k, live (st.set n c) k → live st k := fun k h => (live_set h).elim id fun z => by rw [z]; exact hl
    exact r.inj i j (f i hi) (f j hj) e
  off := fun k h => by
    have f : ∀ k, live (st.set n c) k → live st k := fun k h => (live_set h).elim id fun z => by rw [z]; exact hl
    exact r.off k (f k h)
  nt := r.nt
  tb := by
    obtain ⟨o', q, t, tc⟩ := r.cellO hl
    exact tabs_upd q t tc r.tb
theorem Ext.write {n : Nat} {o : HO} {c : Cell} (r : RelH K G F m st H) (hl : live st n) (ht : notT o := by first | assumption | (intro _ z; cases z)) : Ext F m st H F m (st.set n c) (upd H (m n) o) where
  same := Same.refl F
  len := by simp
  mm := fun _ _ => rfl
  lv := fun k _ h => (live_set h).elim id fun z => by rw [z]; exact hl
  nw := fun k h l => by
    have := l.lt
    simp at this; omega
  keep := fun a u h _ nl => .inl (by rw [upd_ne (fun z => nl n hl z.symm)]; exact h)
  there := fun a h => by
    by_cases e : a = m n
    · obtain ⟨o', q, t, _⟩ := r.cellO hl
      rw [e] at h ⊢
      obtain ⟨ps, z⟩ := h _ upd_same
      exact absurd z (ht ps)
    · intro u q; exact h u (by rw [upd_ne e]; exact q)
  fnew := fun _ h => .inl h
/-- a cell is frozen -/
theorem RelH.freeze (r : RelH K G F m st H) {n : Nat} {o : HO} (hl : live st n) (h : H (m n) = some o) (ht : notT o := by first | assumption | (intro _ z; cases z)) : RelH K G (upd F (m n) o) m (st.set n .dead) H where
  fz := fun a u q => by
    by_cases e : a = m n
    · rw [e, upd_same] at q; cases q; rw [e]; exact .inl h
    · rw [upd_ne e] at q; exact r.fz a u q
  cell := fun k d q => by
    rw [List.length_set]
    by_cases e : k = n
    · subst e
      rw [List.getElem?_set_self hl.lt] at q
      cases q
      exact True.intro
    · rw [List.getElem?_set_ne (Ne.symm e)] at q
      exact (r.cell k d q).mono (Same.upd (r.off n hl)) (fun _ _ => rfl) (Nat.le_refl _) fun _ => rfl
  inj := fun i j hi hj e => by
    have f : ∀ k, live (st.set n .dead) k → live st k := fun k h => (live_set h).elim id fun z => by rw [z]; exact hl
    exact r.inj i j (f i hi) (f j hj) e
  off := fun k h' => by
    have f : live st k := (live_set h').elim id fun z => by rw [z]; exact hl
    have ne : k ≠ n := fun z => by
      obtain ⟨d, q, hd⟩ := h'
      rw [z, List.getElem?_set_self hl.lt] at q
      cases q; exact hd rfl
    rw [upd_ne fun z => ne (r.inj k n f hl z)]
    exact r.off k f
  nt := fun a ps => by
    by_cases e : a = m n
    · rw [e, upd_same]; intro z; cases z; exact ht ps rfl
    · rw [upd_ne e]; exact r.nt a ps
  tb := r.tb
theorem Ext.freeze {n : Nat} {o : HO} (r : RelH K G F m st H) (hl : live st n) : Ext F m st H (upd F (m n) o) m (st.set n .dead) H where
  same := Same.upd (r.off n hl)
  len := by simp
  mm := fun _ _ => rfl
  lv := fun k _ h => (live_set h).elim id fun z => by rw [z]; exact hl
  nw := fun k h l => by
    have := l.lt
    simp at this; omega
  keep := fun a u h _ _ => .inl h
  there := fun a h => h
  fnew := fun a h => by
    by_cases e : a = m n
    · exact .inr (.inr ⟨n, hl, e.symm⟩)
    · rw [upd_ne e] at h; exact .inl h
/-- a new thing that never changes -/
theorem RelH.fresh (r : RelH K G F m st H) {p : Addr} (hp : H p = none) (o : HO) (ht : notT o := by first | assumption | (intro _ z; cases z)) : RelH K G (upd F p o) m st (upd H p o) :=
  (r.lay hp o).take (r.fz.free hp) (fun n l => r.ne l (nu.of hp)) upd_same ht
theorem Ext.fresh (r : RelH K G F m st H) {p : Addr} (hp : H p = none) (o : HO) : Ext F m st H (upd F p o) m st (upd H p o) :=
  (Ext.lay hp o).take (nu.of hp) (r.fz.free hp)
/-- tables grow, new things are laid: what a lambda's making does -/
theorem RelH.grow (r : RelH K G F m st H) (e : LamX.ExtN H H1) (t : LamX.Tabs G.T H1) : RelH K G F m st H1 where
  fz := fun a o h => by
    have nt := r.nt a
    rcases r.fz a o h with z | ⟨hd, ob, z⟩
    · exact .inl (e a o z fun ps q => nt ps (by rw [← q]; exact h))
    · exact .inr ⟨hd, ob, e _ _ z fun ps q => nomatch q⟩
  cell := fun n c h => by
    refine (r.cell n c h).mono (Same.refl F) (fun _ _ => rfl) (Nat.le_refl _) fun hc => ?_
    obtain ⟨o, q, ht, _⟩ := r.cellO ⟨c, h, hc⟩
    rw [q]; exact e _ _ q ht
  inj := r.inj
  off := r.off
  nt := r.nt
  tb := t
theorem Ext.grow (e : LamX.ExtN H H1) : Ext F m st H F m st H1 where
  same := Same.refl F
  len := Nat.le_refl _
  mm := fun _ _ => rfl
  lv := fun _ _ h => h
  nw := fun n h l => absurd l.lt (Nat.not_lt.mpr h)
  keep := fun a o h ht _ => .inl (e a o h ht)
  there := fun a h o q => Classical.byContradiction fun z => z (h o (e a o q fun ps zz => z ⟨ps, zz⟩))
  fnew := fun _ h => .inl h
/-- a dict that never changes is locked -/
theorem RelH.lock (r : RelH K G F m st H) {a : Addr} {u : HO} (hF : F a = some u) (hd : isD u) (hH : H a = some u) (ob : Obj) : RelH K G F m st (upd H a (.frz ob u)) where
  fz := fun b o q => by
    by_cases e : b = a
    · subst e
      rw [hF] at q; cases q
      exact .inr ⟨hd, ob, upd_same⟩
    · rw [upd_ne e]; exact r.fz b o q
  cell := fun n c h => (r.cell n c h).mono (Same.refl F) (fun _ _ => rfl) (Nat.le_refl _) fun hc => upd_ne fun z => by
    have := r.off n ⟨c, h, hc⟩
    rw [z, hF] at this; cases this
  inj := r.inj
  off := r.off
  nt := r.nt
  tb := tabs_upd hH (fun ps z => by subst z; exact hd) (fun c q z => by subst z; unfold LamX.CodeO at hd; exact hd) r.tb
theorem Ext.lock {a : Addr} {u : HO} (hF : F a = some u) (hd : isD u) (hH : H a = some u) (ob : Obj) : Ext F m st H F m st (upd H a (.frz ob u)) where
  same := Same.refl F
  len := Nat.le_refl _
  mm := fun _ _ => rfl
  lv := fun _ _ h => h
  nw := fun n h l => absurd l.lt (Nat.not_lt.mpr h)
  keep := fun b o h _ _ => by
    by_cases e : b = a
    · subst e
      rw [hH] at h; cases h
      exact .inr ⟨hd, hF, ob, upd_same⟩
    · exact .inl (by rw [upd_ne e]; exact h)
  there := fun b h o q => by
    by_cases e : b = a
    · subst e
      obtain ⟨ps, z⟩ := h _ upd_same
      cases z
    · exact h o (by rw [upd_ne e]; exact q)
  fnew := fun _ h => .inl h
/-- what is locked stays -/
def Frs (H H' : Hp) : Prop := ∀ b ob u, H b = some (.frz ob u) → H' b = some (.frz ob u)
theorem Frs.refl : Frs H H := fun _ _ _ h => h
theorem Frs.trans (a : Frs H H1) (b : Frs H1 H2) : Frs H H2 := fun x o u h => b x o u (a x o u h)
theorem Ext.frs (e : Ext F m st H F1 m1 st1 H1) (r : RelH K G F m st H) : Frs H H1 := fun b ob u h => by
  have nl : ∀ n, live st n → m n ≠ b := fun n ⟨c, hc, hn⟩ z => by
    have q := r.cell n c hc
    rw [z] at q
    cases c with
    | dead => exact hn rfl
    | lst xs => obtain ⟨ys, q, _⟩ := q; rw [h] at q; cases q
    | dK xs => obtain ⟨ys, q, _⟩ := q; rw [h] at q; cases q
    | dT xs => obtain ⟨ys, q, _⟩ := q; rw [h] at q; cases q
  rcases e.keep b _ h (fun ps z => nomatch z) nl with z | ⟨z, _⟩
  · exact z
  · exact z.elim
/-- the cells behind a place are dropped -/
theorem live_take {n k : Nat} (h : live (st.take k) n) : live st n ∧ n < k := by
  obtain ⟨c, h, hc⟩ := h
  have hn : n < k := by
    have := (List.getElem?_eq_some_iff.mp h).1
    simp at this; omega
  rw [List.getElem?_take_of_lt hn] at h
  exact ⟨⟨c, h, hc⟩, hn⟩
theorem CellAt.noref {L L' : Nat} {a : Addr} {c : Cell} (h : CellAt K G F m L H a c) (e : Same F F') (q : cellNoRef c = true) (hH : H' a = H a) : CellAt K G F' m' L' H' a c := by
  cases c with
  | dead => exact True.intro
  | lst xs => obtain ⟨ys, z, r⟩ := h; exact ⟨ys, hH.trans z, r.noref e q⟩
  | dK xs => obtain ⟨ys, z, r⟩ := h; exact ⟨ys, hH.trans z, r.noref e q⟩
  | dT xs => obtain ⟨ys, z, r⟩ := h; exact ⟨ys, hH.trans z, r.noref e q⟩
end
end MP
set_option maxHeartbeats 4000000
/-! MPPost: readings of the small language over the hand layer. -/
namespace MP
open PySem L2

/-- a wish of what is laid, where the cells stand, the store, the heap -/
abbrev RT := Hp → (Nat → Addr) → Store → Hp → Prop
abbrev EX := PySem.Str → List (PySem.Str × Val) → RT
section
variable (K : PySem.W.Frag) (G : GX)
def PostG {α : Type} (E : EX) (R : α → RT) (F : Hp) (m : Nat → Addr) (st : Store) (H : Hp) : Out α → Prop
  | .ok a st' => ∀ F' m' H', Ext F m st H F' m' st' H' → RelH K G F' m' st' H' → R a F' m' st' H'
  | .exc c xs st' => ∀ F' m' H', Ext F m st H F' m' st' H' → RelH K G F' m' st' H' → E c xs F' m' st' H'
  | .bad => False
def RepS (F : Hp) (m : Nat → Addr) (L : Nat) (env : Env) (σ : L2.St) : Prop :=
  env.length = σ.length ∧ ∀ (i : Nat) (v : Val), env[i]? = some (some v) → ∃ y : V, σ[i]? = some (some y) ∧ Rep K G F m L v y
def tRd {α : Type} (E : L2.St → EX) (ev : Env → Store → Out α) (R : α → RT) (σ : L2.St) (H : Hp) : Prop :=
  ∃ F m env st, RelH K G F m st H ∧ RepS K G F m st.length env σ ∧ PostG K G (E σ) R F m st H (ev env st)
end
section
variable {K : PySem.W.Frag} {G : GX} {F F' F1 F2 H H' H1 H2 : Hp} {m m' m1 m2 : Nat → Addr} {st st' st1 st2 : Store} {E : EX} {α β : Type} {R R' : α → RT}
theorem PostG.step {x : Out α} (h : PostG K G E R F m st H x) (e : Ext F m st H F1 m1 st1 H1) : PostG K G E R F1 m1 st1 H1 x := by
  cases x with
  | ok a st' => exact fun F' m' H' e' r => h F' m' H' (e.trans e') r
  | exc c xs st' => exact fun F' m' H' e' r => h F' m' H' (e.trans e') r
  | bad => exact h
theorem PostG.mono {x : Out α} (h : PostG K G E R F m st H x) (f : ∀ a F' m' st' H', Ext F m st H F' m' st' H' → RelH K G F' m' st' H' → R a F' m' st' H' → R' a F' m' st' H') : PostG K G E R' F m st H x := by
  cases x with
  | ok a st' => exact fun F' m' H' e' r => f _ _ _ _ _ e' r (h F' m' H' e' r)
  | exc c xs st' => exact h
  | bad => exact h
theorem PostG.bind {x : Out α} {k : α → Store → Out β} {R : β → RT} (h : PostG K G E R F m st H (x.bind k)) : PostG K G E (fun a F1 m1 st1 H1 => PostG K G E R F1 m1 st1 H1 (k a st1)) F m st H x := by
  cases x with
  | ok a st' => exact fun F' m' H' e' r => PostG.step h e'
  | exc c xs st' => exact h
  | bad => exact h
theorem PostG.ok {a : α} (h : PostG K G E R F m st H (.ok a st)) (r : RelH K G F m st H) : R a F m st H := h F m H .refl r
theorem PostG.of {o : Option α} (h : PostG K G E R F m st H (Out.of o st)) (r : RelH K G F m st H) : ∃ a, o = some a ∧ R a F m st H := by
  cases o with
  | none => exact h.elim
  | some a => exact ⟨a, rfl, h.ok r⟩
/-- a new thing that never changes -/
theorem PostG.fresh {a : α} (h : PostG K G E R F m st H (.ok a st)) (r : RelH K G F m st H) {p : Addr} (hp : H p = none) (o : HO) (ht : notT o := by first | assumption | (intro _ z; cases z)) : R a (upd F p o) m st (upd H p o) :=
  h _ _ _ (Ext.fresh r hp o) (r.fresh hp o ht)
theorem RepS.mono {L L' : Nat} {env : Env} {σ : L2.St} (h : RepS K G F m L env σ) (e : Same F F') (hm : ∀ n, n < L → m' n = m n) (hL : L ≤ L') : RepS K G F' m' L' env σ :=
  ⟨h.1, fun i v q => by
    obtain ⟨y, h1, h2⟩ := h.2 i v q
    exact ⟨y, h1, h2.mono e hm hL⟩⟩
theorem RepS.ext {env : Env} {σ : L2.St} (h : RepS K G F m st.length env σ) (e : Ext F m st H F1 m1 st1 H1) : RepS K G F1 m1 st1.length env σ := h.mono e.same e.mm e.len
theorem RepS.get {L : Nat} {env : Env} {σ : L2.St} (h : RepS K G F m L env σ) {i : Nat} {v : Val} (q : env.getD i none = some v) : ∃ y, σ[i]? = some (some y) ∧ Rep K G F m L v y := by
  refine h.2 i v ?_
  rw [List.getD_eq_getElem?_getD] at q
  cases z : env[i]? with
  | none => rw [z] at q; simp at q
  | some o => rw [z] at q; simp at q; rw [q]
theorem RepS.set {L : Nat} {env : Env} {σ : L2.St} (h : RepS K G F m L env σ) {i : Nat} {v : Val} {y : V} (r : Rep K G F m L v y) : RepS K G F m L (env.set i (some v)) (σ.set i (some y)) := by
  refine ⟨by simp [h.1], fun j w q => ?_⟩
  by_cases e : i = j
  · subst e
    by_cases hl : i < env.length
    · rw [List.getElem?_set_self hl] at q
      cases q
      exact ⟨y, List.getElem?_set_self (by rw [← h.1]; exact hl), r⟩
    · rw [List.getElem?_eq_none (by simpa using hl)] at q
      cases q
  · rw [List.getElem?_set_ne e] at q
    rw [List.getElem?_set_ne e]
    exact h.2 j w q
theorem RepS.wipe1 {L : Nat} {env : Env} {σ : L2.St} (h : RepS K G F m L env σ) {i : Nat} : RepS K G F m L (env.set i none) (σ.set i none) := by
  refine ⟨by simp [h.1], fun j w q => ?_⟩
  by_cases e : i = j
  · subst e
    by_cases hl : i < env.length
    · rw [List.getElem?_set_self hl] at q
      cases q
    · rw [List.getElem?_eq_none (by simpa using hl)] at q
      cases q
  · rw [List.getElem?_set_ne e] at q
    rw [List.getElem?_set_ne e]
    exact h.2 j w q
theorem RepS.wipe {L : Nat} {env : Env} {σ : L2.St} (h : RepS K G F m L env σ) : ∀ vs : List Nat, RepS K G F m L (wipeE env vs) (L2.wipe σ vs)
  | [] => h
  | v :: vs => (RepS.wipe h vs).wipe1
end

/-! ### readings of expressions -/
section
variable (K : PySem.W.Frag) (mg : PySem.Str → Option Value) (G : GX)
/-- what an exception's own dict holds -/
def XArgs (F : Hp) (m : Nat → Addr) (L : Nat) (H : Hp) (xs : List (PySem.Str × Val)) (d : Option Addr) : Prop :=
  (xs = [] → d = none) ∧ (xs ≠ [] → ∃ dd fs, d = some dd ∧ H dd = some (.xd fs) ∧ ∀ f v, xs.lookup f = some v → ∃ y, fs.lookup f = some y ∧ Rep K G F m L v y)
def exOf (E : XK) : EX := fun c xs F m st H => ∀ C d, mg c = some C → XArgs K G F m st.length H xs d → E C d H
/-- what a def promises: its meaning -/
def spOf (D : Den) : Sp := fun vs H Q E => ∃ F m st args, RelH K G F m st H ∧ Reps K G F m st.length args vs ∧
  PostG K G (exOf K mg G E) (fun v F m st H => ∀ y, Rep K G F m st.length v y → Q y H) F m st H (D args st)
end
section
variable (X : Cx) (G : GX) (W : WX)
abbrev exW (σ : L2.St) : EX := exOf X.K X.mg G (WE W σ)
def tE (e : E) : TE := fun σ H Q => tRd X.K G (exW X G W) (evalE e) (fun v F m st H => ∀ y, Rep X.K G F m st.length v y → Q y H) σ H
def tA (es : Es) : TA := fun σ H Q => tRd X.K G (exW X G W) (evalEs es) (fun v F m st H => ∀ y, Reps X.K G F m st.length v y → Q y H) σ H
def tT (e : E) : TT := fun σ H Q => tRd X.K G (exW X G W) (fun env st => (evalE e env st).bind fun x st1 => Out.of (truth x st1) st1) (fun b F m st H => Q b H) σ H
def tO (e : Eo) : TO := fun σ H Q => tRd X.K G (exW X G W) (evalEo e) (fun b F m st H => Q b H) σ H
def tC' (e : Eo) : TT := fun σ H Q => tRd X.K G (exW X G W) (evalC e) (fun b F m st H => Q b H) σ H
/-- a new object, not yet taken among what never changes nor among the cells -/
def tN (n : Nw) : TE := fun σ H Q => tRd X.K G (exW X G W) (evalN n) (fun c F' m' st' H' => ∀ p o, nu H p → F' p = none → (∀ n, live st' n → m' n ≠ p) → H' p = some o → objOf X.K G F' m' st'.length c o → Q (.ref p) H') σ H
end
theorem PE.imp {X : Cx} {e : Expr} {t t' : TE} (h : PE X e t) (i : ∀ σ H Q, t' σ H Q → t σ H Q) : PE X e t' := ⟨fun pins s σ H Q I q => h.run pins s σ H Q I (i σ H Q q)⟩
theorem PT.imp {X : Cx} {e : Expr} {t t' : TT} (h : PT X e t) (i : ∀ σ H Q, t' σ H Q → t σ H Q) : PT X e t' := ⟨fun pins s σ H Q I q => h.run pins s σ H Q I (i σ H Q q)⟩
theorem PW.imp {X : Cx} {e : Expr} {t t' : TT} (h : PW X e t) (i : ∀ σ H Q, t' σ H Q → t σ H Q) : PW X e t' := ⟨fun wh pins s σ H Q I q => h.run wh pins s σ H Q I (i σ H Q q)⟩
theorem PA.imp {X : Cx} {e : List Expr} {t t' : TA} (h : PA X e t) (i : ∀ σ H Q, t' σ H Q → t σ H Q) : PA X e t' := ⟨fun pos pins s σ H Q I q => h.run pos pins s σ H Q I (i σ H Q q)⟩
theorem PS.imp {X : Cx} {e : Stmt} {t t' : TS} (h : PS X e t) (i : ∀ D σ H, t' D σ H → t D σ H) : PS X e t' := ⟨fun pins s σ H D I q => h.run pins s σ H D I (i D σ H q)⟩
theorem PSs.imp {X : Cx} {e : List Stmt} {t t' : TS} (h : PSs X e t) (i : ∀ D σ H, t' D σ H → t D σ H) : PSs X e t' := ⟨fun pins s σ H D I q => h.run pins s σ H D I (i D σ H q)⟩
theorem PG.imp {X : Cx} {e : Expr} {t t' : TG} (h : PG X e t) (i : ∀ v σ H Q, t' v σ H Q → t v σ H Q) : PG X e t' := ⟨fun pins s σ H v u Q I r q => h.run pins s σ H v u Q I r (i v σ H Q q)⟩
theorem PI.imp {X : Cx} {tg e : Expr} {t t' : TI} (h : PI X tg e t) (i : ∀ σ H Q, t' σ H Q → t σ H Q) : PI X tg e t' := ⟨fun pins s σ H Q I q => h.run pins s σ H Q I (i σ H Q q)⟩
end MP
set_option maxHeartbeats 2000000
/-! MPTup: a tuple once. -/
namespace MP
open PySem PySem.Spec PyProof.Rows L2
theorem tuple_once (l : Addr) (items : Array Value) (n : Nat) (dd : Option Addr) (sl : Array (Option Value)) (u : Tok) :
    Meets (Builtin.«tuple.__mul__» ⟨[.ref l, .int 1 u], []⟩) (fun _ R s => s.heap.get? l = some { cls := .type "tuple", dict := dd, data := .seq items n, slots := sl } ∧ R (.ok (.ret (.ref l))) s) :=
  .of_wp fun prog w A R s h => by
    obtain ⟨hp, g, d, tk, os⟩ := s
    obtain ⟨hl, h⟩ := h
    have f1 := AutoSeq1.idx_int
    wp_walk using wpAny_loadPart' hl
    exact ⟨_, rfl, h⟩
theorem op_onceT {X : Cx} : OpR X (binaryOp .Mult) (fun x y H Q => ∃ l xs, x = .ref l ∧ y = .int 1 ∧ SqT X.K H l xs ∧ Q (.ref l) H) := by
  intro pins s σ H x y v u Q I rx ry h
  obtain ⟨l, xs, rfl, rfl, hT, q⟩ := h
  cases rx
  obtain ⟨t, rfl⟩ := ry
  obtain ⟨its, r, ⟨⟨cls, dd, data, sl⟩, ho, hc, n, hd⟩, hs⟩ := I.tuple hT
  simp only at hc hd
  subst hc hd
  exact wpAny_binaryOp_repeat_ref (T := "tuple") (U := "int") (by decide) ⟨_, ho, rfl⟩ (fun s' => typeIs_int s' 1 t) noFill_tuple_mul F.fills_int_mul F.slot_int_rmul repeat_tuple F.slot_int_index.lookup
    (call_meets F.slot_int_rmul (typeIs_int s 1 t) F.entry_int_rmul (F.args_int_rmul_2 _ _) (int_rmul_tuple 1 t l its.toArray n dd sl)
      ⟨ho, rfl, ⟨_, ho, rfl⟩, call_meets F.slot_tuple_mul ⟨_, ho, rfl⟩ F.entry_tuple_mul (F.args_tuple_mul_2 _ _) (tuple_once l its.toArray n dd sl t) ⟨ho, .ref l, H, I, rfl, q⟩⟩)
/-- a tuple many times, a few items -/
theorem op_manyT {X : Cx} : OpR X (binaryOp .Mult) (fun x y H Q => ∃ l k xs, x = .ref l ∧ y = .int k ∧ SqT X.K H l xs ∧ xs ≠ [] ∧ 2 ≤ k ∧ k ≤ 100000 ∧ xs.length ≤ 100 ∧ ∀ p, H p = none → Q (.ref p) (upd H p (.tup (List.replicate k.toNat xs).flatten))) := by
  intro pins s σ H x y v u Q I rx ry h
  obtain ⟨l, k, xs, rfl, rfl, hT, hx, k2, k5, few, q⟩ := h
  cases rx
  obtain ⟨t, rfl⟩ := ry
  obtain ⟨vs, rv, ⟨⟨cls, dd, data, sl⟩, ho, hc, n, hd⟩, hs⟩ := I.tuple hT
  simp only at hc hd
  subst hc hd
  have lv : vs.length = xs.length := rv.length.symm
  have pv : 0 < vs.length := by
    rw [lv]; exact List.length_pos_iff.mpr hx
  have ev : vs.toArray.isEmpty = false := by
    cases vs with
    | nil => simp at pv
    | cons a b => rfl
  have sv : vs.toArray.size = xs.length := by rw [List.size_toArray, lv]
  have mv : ((vs.toArray.size : Nat) : Int) * k ≤ 10000000 := by
    rw [sv]
    have b1 : ((xs.length : Nat) : Int) * k ≤ 100 * k := Int.mul_le_mul_of_nonneg_right (by omega) (by omega)
    omega
  have fv : (List.replicate k.toNat vs).flatten.length ≤ sizeLine := by
    rw [PyProof.Rows.lm_len_rep_flat, lv, sizeLine_eq]
    have b1 : k.toNat * xs.length ≤ 100000 * 100 := Nat.mul_le_mul (by omega) few
    omega
  have d0 : (decide (k < -(2 ^ 63)) || decide (k ≥ 2 ^ 63)) = false := by
    rw [decide_eq_false (by omega), decide_eq_false (by omega)] <;> rfl
  have d1 : (vs.toArray.isEmpty || k == 1) = false := by
    rw [ev, Bool.false_or]; exact beq_eq_false_iff_ne.mpr (by omega)
  have d2 : (decide (k ≤ 0) || vs.toArray.isEmpty) = false := by
    rw [ev, Bool.or_false]; exact decide_eq_false (by omega)
  have d4 : Builtin.Tuple.tupleTooMany (((vs.toArray.size : Nat) : Int) * k) = false := by
    unfold Builtin.Tuple.tupleTooMany
    rw [sizeLine_eq]; exact decide_eq_false (by omega)
  have fl : List.foldl (fun x1 x2 => x1 ++ x2) #[] (List.replicate k.toNat vs.toArray) = (List.replicate k.toNat vs).flatten.toArray := size_rep vs k.toNat
  refine wpAny_binaryOp_repeat_ref (T := "tuple") (U := "int") (by decide) ⟨_, ho, rfl⟩ (fun s2 => typeIs_int s2 k t) noFill_tuple_mul F.fills_int_mul F.slot_int_rmul repeat_tuple F.slot_int_index.lookup
    (call_meets F.slot_int_rmul (typeIs_int s k t) F.entry_int_rmul (F.args_int_rmul_2 _ _) (int_rmul_tuple k t l vs.toArray n dd sl)
      ⟨ho, rfl, ⟨_, ho, rfl⟩, call_meets F.slot_tuple_mul ⟨_, ho, rfl⟩ F.entry_tuple_mul (F.args_tuple_mul_2 _ _) (tuple_mulW l vs.toArray n dd sl k t d0 d1 d2 (by omega) d4 (by rw [fl, List.size_toArray]; exact fv)) ⟨ho, ?_⟩⟩)
  rw [fl]
  refine ⟨.ref s.heap.objs.size, _, I.laid (t' := s.toks) (o := .tup (List.replicate k.toNat xs).flatten) (fun b o' z => Heap.get?_push_of_some _ z) (Nat.le_refl _) ?_, rfl, q _ (I.hok.fresh (Nat.le_refl _))⟩
  refine ⟨?_, _, rv.rep k.toNat, IsTup.new _ _⟩
  rw [PyProof.Rows.lm_len_rep_flat, sizeLine_eq]
  have b1 : k.toNat * xs.length ≤ 100000 * 100 := Nat.mul_le_mul (by omega) few
  omega
end MP
set_option maxHeartbeats 2000000
/-! MPRev: a list, a tuple read backwards by a slice. -/
namespace MP
open PySem PySem.Spec PyProof.Rows L2
theorem back_places (n : Nat) : Builtin.Slice.slicePlaces ((n : Int) - 1) (-1) (-1) = n := by
  unfold Builtin.Slice.slicePlaces
  rw [if_neg (by decide)]
  split
  · rw [show (-(-1) : Int) = 1 by decide, Int.ediv_one]; omega
  · omega
theorem fm_congr {f g : Nat → Option Value} : ∀ l : List Nat, (∀ k ∈ l, f k = g k) → l.filterMap f = l.filterMap g
  | [], _ => rfl
  | a :: l, h => by rw [List.filterMap_cons, List.filterMap_cons, h a (.head _), fm_congr l fun k hk => h k (.tail _ hk)]
theorem back_pick (xs : Array Value) : ((List.range xs.size).filterMap fun (k : Nat) => xs[((xs.size : Int) - 1 + (k : Int) * -1).toNat]?).toArray = xs.toList.reverse.toArray := by
  have e1 : (List.range xs.size).filterMap (fun (k : Nat) => xs[((xs.size : Int) - 1 + (k : Int) * -1).toNat]?) = ((List.range xs.size).map fun k => xs.size - 1 - k).filterMap (xs[·]?) := by
    rw [List.filterMap_map]
    refine fm_congr _ fun k hk => ?_
    have hk := List.mem_range.mp hk
    have : ((xs.size : Int) - 1 + (k : Int) * -1).toNat = xs.size - 1 - k := by omega
    show xs[((xs.size : Int) - 1 + (k : Int) * -1).toNat]? = xs[xs.size - 1 - k]?
    rw [this]
  rw [e1, PySem.W.krv_range, List.filterMap_reverse, PySem.W.krv_all]
section
variable {prog : Program} {w : World} {A : Around} {E : Value → Shared → Prop} {s : Shared}
theorem back_applied {sl : Addr} {v : Value} {n : Nat} {Q : Int × Int × Nat → Shared → Prop} (hs : s.heap.IsSliceOf sl .none .none v) (pv : IsPart v (some (-1)))
    (h : Q ((n : Int) - 1, -1, n) s) : wpAny (model prog w) A (Builtin.Slice.sliceApplied (.ref sl) (pure (n : Int))) Q E s := by
  obtain ⟨os, ho, hc, hd⟩ := id hs
  unfold Builtin.Slice.sliceApplied Builtin.Slice.sliceFields
  refine wpAny_bind (wpAny_bind (wpAny_field ho hd (x := .none) rfl (wpAny_bind (wpAny_field ho hd (x := .none) rfl (wpAny_bind (wpAny_field ho hd (x := v) rfl (wpAny_pure ?_)))))))
  refine wpAny_bind (HT.slicePart_ pv ?_)
  show wpAny _ _ (if ((-1 : Int) == 0) = true then _ else _) _ _ s
  rw [if_neg (by decide)]
  refine wpAny_bind (slicePart_none (wpAny_bind (slicePart_none (wpAny_bind (wpAny_pure ?_)))))
  show wpAny _ _ (pure ((n : Int) - 1, (-1 : Int), Builtin.Slice.slicePlaces ((n : Int) - 1) (-1) (-1))) _ _ s
  rw [back_places]
  exact wpAny_pure h
theorem back_tuple {t sl : Addr} {items : Array Value} {v : Value} {Q : Value → Shared → Prop} (ht : s.heap.IsTuple t items) (hs : s.heap.IsSliceOf sl .none .none v) (pv : IsPart v (some (-1)))
    (h : Q (.ref s.heap.objs.size) { s with heap := s.heap.push { cls := .type "tuple", data := .seq items.toList.reverse.toArray } })
    (hsz : items.size ≤ sizeLine) : wpAny (model prog w) A (getItem (.ref t) (.ref sl)) Q E s := by
  have hz : sizeOk (.seq items.toList.reverse.toArray) := by
    show items.toList.reverse.toArray.size ≤ sizeLine
    simpa using hsz
  obtain ⟨os, ho, hc, hd⟩ := id hs
  have hT : s.TypeIs (.ref sl) "slice" := ⟨os, ho, hc⟩
  unfold getItem
  try with_reducible refine wpAny_holding ?_
  first | refine wpAny_bind (wpAny_pure ?_) | skip
  refine wpAny_bind (wpAny_sequenceKey ht.typeIs (by decide) ?_)
  refine wpAny_bind (wpAny_callSpecial?_slot (name := Str.ofString "__getitem__") ht.typeIs PyProof.Rows.slot_tuple_getitem
    (wpAny_call_entry PyProof.Rows.slot_tuple_getitem ht.typeIs entry_tuple_getitem ?_ (args_tuple_getitem _ _)))
  show wpAny _ _ (Builtin.Tuple.tupleItemsOf (.ref t) >>= _) _ _ s
  refine wpAny_bind (tupleItemsOf_ ht ?_)
  refine wpAny_bind (wpAny_typeOf hT ?_)
  rw [if_pos (by decide)]
  refine wpAny_bind (back_applied hs pv ?_)
  show wpAny _ _ (if (((items.size : Int) - 1) == 0 && (-1 : Int) == 1 && items.size == items.size) = true then _ else _) _ _ s
  rw [if_neg (by simp), back_pick]
  first
    | exact wpAny_bind (m := Builtin.Tuple.tupleExact _) (wpAny_newObj_type (wpAny_pure ⟨_, rfl, wpAny_pure h⟩) hz)
    | exact wpAny_bind (m := Builtin.Tuple.tupleExact _) (wpAny_newObj_type (wpAny_bind (wpAny_pure (wpAny_pure ⟨_, rfl, wpAny_pure h⟩))) hz)
    | exact wpAny_bind (wpAny_bind (m := Builtin.Tuple.tupleExact _) (wpAny_newObj_type (wpAny_pure (wpAny_pure ⟨_, rfl, wpAny_pure h⟩)) hz))
    | exact wpAny_bind (wpAny_bind (m := Builtin.Tuple.tupleExact _) (wpAny_newObj_type (wpAny_pure ⟨_, rfl, wpAny_pure h⟩) hz))
end
/-- o[::-1] of a list, of a tuple -/
def tBack (K : PySem.W.Frag) (te : TE) : TE := fun σ H Q => te σ H fun x H1 => ∃ a xs, x = .ref a ∧
  ((SqL K H1 a xs ∧ ∀ p, H1 p = none → Q (.ref p) (upd H1 p (.lst xs.reverse))) ∨ (SqT K H1 a xs ∧ ∀ p, H1 p = none → Q (.ref p) (upd H1 p (.tup xs.reverse))))
theorem pe_back {X : Cx} {e : PySem.Expr} {te : TE} {k : Nat} {p1 p2 p3 pos : Pos} (he : PE X e te) : PE X (.Subscript e (.Slice none none (some (.UnaryOp .USub (.Constant (.int 1) k p1) p2)) p3) pos) (tBack X.K te) := by
  refine ⟨fun pins s σ H Q I h => ?_⟩
  refine Subscript_ (thn (he.run pins s σ H _ I h) fun v s1 ⟨x, H1, I1, r1, q1⟩ => ?_)
  obtain ⟨a, xs, ex, q⟩ := q1
  subst ex
  cases r1
  have stp : PO X (some (.UnaryOp .USub (.Constant (.int 1) k p1) p2)) (tPart (tUn (rU fun i => .int (-i)) (tC (.int 1)))) := po_some (pe_un un_neg pe_int)
  refine wpAny_Slice (thn (po_none.run pins s1 σ H1 (fun o Hb => o = none ∧ Hb = H1) I1 ⟨rfl, rfl⟩) fun vl s2 ⟨l, H2, I2, pl, e1, e2⟩ => ?_)
  subst e1 e2
  refine thn (po_none.run pins s2 σ H2 (fun o Hb => o = none ∧ Hb = H2) I2 ⟨rfl, rfl⟩) fun vu s3 ⟨u, H3, I3, pu, e1, e2⟩ => ?_
  subst e1 e2
  refine thn (stp.run pins s3 σ H3 (fun o Hb => o = some (-1) ∧ Hb = H3) I3 ⟨1, rfl, -1, rfl, rfl, rfl⟩) fun vs s4 ⟨o, H4, I4, pst, e1, e2⟩ => ?_
  subst e1 e2
  have I5 : Inv X pins σ H4 { s4 with heap := s4.heap.push { cls := .type "slice", data := .fields #[vl, vu, vs] } } := I4.kept (t' := s4.toks) fun b ob z => Heap.get?_push_of_some _ z
  cases pl
  cases pu
  show wpAny (model X.prog X.w) X.A (subscriptTail e (.Slice none none (some (.UnaryOp .USub (.Constant (.int 1) k p1) p2)) p3) (.ref a) (.ref s4.heap.objs.size)) (EP X pins σ Q) X.xe { s4 with heap := s4.heap.push { cls := .type "slice", data := .fields #[.none, .none, vs] } }
  rcases q with ⟨hx, q⟩ | ⟨hx, q⟩
  · obtain ⟨its, r, ht, hz⟩ := I5.list hx
    have hl := r.length
    refine tail_any (ops := [.ref a, .ref s4.heap.objs.size]) ht.isList.typeIs (PySem.slot_list_getitem.lookup) ?_ (by with_unfolding_all rfl)
    refine wpAny_getItem_list_slice ht.isList (Heap.IsSliceOf.new _ .none .none vs) .none .none pst (by decide) ?_ (by rw [List.size_toArray]; omega)
    rw [PySem.W.krv_pick]
    refine ⟨.ref _, _, I5.laid (t' := s4.toks) (o := .lst xs.reverse) (fun b ob z => Heap.get?_push_of_some _ z) (Nat.le_refl _) ⟨?_, _, 0, r.reverse, Heap.get?_push_size _ rfl⟩, rfl, q _ (I5.hok.fresh (Nat.le_refl _))⟩
    rw [List.length_reverse]; exact hz
  · obtain ⟨its, r, ht, hz⟩ := I5.tuple hx
    have hl : its.toArray.size = xs.length := by rw [List.size_toArray]; exact r.length.symm
    refine tail_any (ops := [.ref a, .ref s4.heap.objs.size]) ht.typeIs (PyProof.Rows.slot_tuple_getitem.lookup) ?_ (by with_unfolding_all rfl)
    refine back_tuple ht (Heap.IsSliceOf.new _ .none .none vs) pst ?_ (by rw [hl]; exact hz)
    refine ⟨.ref _, _, I5.laid (t' := s4.toks) (o := .tup xs.reverse) (fun b ob z => Heap.get?_push_of_some _ z) (Nat.le_refl _) ⟨by rw [List.length_reverse]; exact hz, _, r.reverse, IsTup.new _ _⟩, rfl, q _ (I5.hok.fresh (Nat.le_refl _))⟩
end MP
set_option maxHeartbeats 4000000
/-! MPOps: operators of values, by the hand layer's rules. -/
namespace MP
open PySem L2

def bltNames : List PySem.Str := ["len", "tuple", "list", "all", "any", "abs", "int", "sum", "max", "min", "sorted", "repr", "str", "isinstance", "range", "enumerate", "zip", "bool", "dict", "set"]
structure Cxt (X : Cx) (G : GX) (W : WX) : Prop where
  takes : Takes X W
  nd : X.N.Nodup
  units : X.A.units + 70 < cLine
  gf : ∀ x a, G.f x = some a → X.mg x = some (.ref a)
  bl : ∀ b, b ∈ bltNames → X.mg b = none

theorem ite_some {α : Type} {c : Prop} {dc : Decidable c} {a w : α} (h : @ite _ c dc (some a) none = some w) : c ∧ a = w := by
  split at h
  · rename_i hc; exact ⟨hc, Option.some.inj h⟩
  · cases h
section
variable {X : Cx} {G : GX}
/-- what is wanted where v comes out, the store as it is -/
def Fin (X : Cx) (G : GX) (Q : VK) (F : Hp) (m : Nat → Addr) (st : Store) (H : Hp) (v : Val) : Prop :=
  ∀ F' m' H', Ext F m st H F' m' st H' → RelH X.K G F' m' st H' → ∀ z, Rep X.K G F' m' st.length v z → Q z H'
variable {Q : VK} {F H : Hp} {m : Nat → Addr} {st : Store} {v : Val}
theorem Fin.now (h : Fin X G Q F m st H v) (r : RelH X.K G F m st H) {z : V} (q : Rep X.K G F m st.length v z) : Q z H := h F m H .refl r z q
theorem Fin.tup {xs : List Val} (h : Fin X G Q F m st H (.tup xs)) (r : RelH X.K G F m st H) {ys : List V} (q : Reps X.K G F m st.length xs ys) : ∀ p, H p = none → Q (.ref p) (upd H p (.tup ys)) := fun p hp =>
  h _ _ _ (Ext.fresh r hp _) (r.fresh hp _) _ (.tup upd_same (q.mono (Same.upd (r.fz.free hp)) (fun _ _ => rfl) (Nat.le_refl _)))
theorem Fin.lst {xs : List Val} (h : Fin X G Q F m st H (.lst xs)) (r : RelH X.K G F m st H) {ys : List V} (q : Reps X.K G F m st.length xs ys) : ∀ p, H p = none → Q (.ref p) (upd H p (.lst ys)) := fun p hp =>
  h _ _ _ (Ext.fresh r hp _) (r.fresh hp _) _ (.lst upd_same (q.mono (Same.upd (r.fz.free hp)) (fun _ _ => rfl) (Nat.le_refl _)))
theorem Fin.of {E : EX} (h : PostG X.K G E (fun v F m st H => ∀ y, Rep X.K G F m st.length v y → Q y H) F m st H (.ok v st)) : Fin X G Q F m st H v := fun F' m' H' e r z q => h F' m' H' e r z q
/-- two values -/
def rB (X : Cx) (G : GX) (f : Val → Val → Store → Option Val) : R2 := fun x y H Q =>
  ∃ F m st va vb v, RelH X.K G F m st H ∧ Rep X.K G F m st.length va x ∧ Rep X.K G F m st.length vb y ∧ f va vb st = some v ∧ Fin X G Q F m st H v

/-! ### arithmetic -/
def opM : Bop → Operator → Bool
  | .add, .Add => true
  | .sub, .Sub => true
  | .mul, .Mult => true
  | .fdiv, .FloorDiv => true
  | .mod, .Mod => true
  | .pow, .Pow => true
  | .band, .BitAnd => true
  | _, _ => false
theorem op_bop {op : Bop} {pop : Operator} (hm : opM op pop = true) : OpR X (binaryOp pop) (rB X G fun a b _ => bop op a b) := by
  intro pins s σ H x y v u Q I rx ry h
  obtain ⟨F, m, st, va, vb, w, r, ra, rb, hv, fin⟩ := h
  simp only [bop] at hv
  split at hv
  · cases pop <;> simp only [opM] at hm <;> first | (exact absurd hm Bool.false_ne_true) | skip
    cases hv; cases ra; cases rb
    exact op_add pins s σ H _ _ v u Q I rx ry ⟨_, _, rfl, rfl, fin.now r (.int _)⟩
  · cases pop <;> simp only [opM] at hm <;> first | (exact absurd hm Bool.false_ne_true) | skip
    cases hv; cases ra; cases rb
    exact op_sub pins s σ H _ _ v u Q I rx ry ⟨_, _, rfl, rfl, fin.now r (.int _)⟩
  · cases pop <;> simp only [opM] at hm <;> first | (exact absurd hm Bool.false_ne_true) | skip
    obtain ⟨hc, hv⟩ := ite_some hv
    subst hv; cases ra; cases rb
    rcases hc with hc | hc
    · exact op_mulW pins s σ H _ _ v u Q I rx ry ⟨_, _, rfl, rfl, hc, fin.now r (.int _)⟩
    · exact op_mul pins s σ H _ _ v u Q I rx ry ⟨_, _, rfl, rfl, hc, fin.now r (.int _)⟩
  · cases pop <;> simp only [opM] at hm <;> first | (exact absurd hm Bool.false_ne_true) | skip
    obtain ⟨hc, hv⟩ := ite_some hv
    subst hv; cases ra; cases rb
    exact op_fdivW pins s σ H _ _ v u Q I rx ry ⟨_, _, rfl, rfl, hc, fin.now r (.int _)⟩
  · cases pop <;> simp only [opM] at hm <;> first | (exact absurd hm Bool.false_ne_true) | skip
    obtain ⟨hc, hv⟩ := ite_some hv
    subst hv; cases ra; cases rb
    exact op_mod pins s σ H _ _ v u Q I rx ry ⟨_, _, rfl, rfl, hc, fin.now r (.int _)⟩
  · cases pop <;> simp only [opM] at hm <;> first | (exact absurd hm Bool.false_ne_true) | skip
    obtain ⟨hc, hv⟩ := ite_some hv
    subst hv; cases ra; cases rb
    exact op_pow pins s σ H _ _ v u Q I rx ry ⟨_, _, rfl, rfl, hc, fin.now r (.int _)⟩
  · cases pop <;> simp only [opM] at hm <;> first | (exact absurd hm Bool.false_ne_true) | skip
    cases hv; cases ra; cases rb
    exact op_and pins s σ H _ _ v u Q I rx ry ⟨_, _, rfl, rfl, fin.now r (.int _)⟩
  · cases pop <;> simp only [opM] at hm <;> first | (exact absurd hm Bool.false_ne_true) | skip
    obtain ⟨hc, hv⟩ := ite_some hv
    subst hv; cases ra; cases rb
    exact op_add_str pins s σ H _ _ v u Q I rx ry ⟨_, _, rfl, rfl, hc, fin.now r (.str _)⟩
  · cases pop <;> simp only [opM] at hm <;> first | (exact absurd hm Bool.false_ne_true) | skip
    obtain ⟨hc, hv⟩ := ite_some hv
    subst hv
    cases ra with
    | tup ha qa =>
      cases rb with
      | tup hb qb =>
        refine op_catA pins s σ H _ _ v u Q I rx ry ⟨_, _, _, _, rfl, rfl, SqT.of (r.fz.tup ha), SqT.of (r.fz.tup hb), by rw [← qa.length, ← qb.length]; exact hc, fun e => ?_, fun _ e => ?_, fun _ _ => fin.tup r (qa.append qb)⟩
        · subst e
          cases qa
          exact fin.now r (.tup hb qb)
        · subst e
          cases qb
          rw [List.append_nil] at fin
          exact fin.now r (.tup ha qa)
  · cases pop <;> simp only [opM] at hm <;> first | (exact absurd hm Bool.false_ne_true) | skip
    obtain ⟨hc, hv⟩ := ite_some hv
    subst hv
    cases ra with
    | lst ha qa =>
      cases rb with
      | lst hb qb => exact op_cat pins s σ H _ _ v u Q I rx ry ⟨_, _, _, _, rfl, rfl, r.fz.lst ha, r.fz.lst hb, by rw [← qa.length, ← qb.length]; exact hc, fin.lst r (qa.append qb)⟩
  · cases pop <;> simp only [opM] at hm <;> first | (exact absurd hm Bool.false_ne_true) | skip
    obtain ⟨hc, hv⟩ := ite_some hv
    subst hv
    cases ra with
    | lst ha qa =>
      cases rb
      exact op_rep pins s σ H _ _ v u Q I rx ry ⟨_, _, _, rfl, rfl, r.fz.lst ha, hc.2.1, hc.1, by rw [← qa.length]; exact hc.2.2, fin.lst r (qa.rep _)⟩
  · cases pop <;> simp only [opM] at hm <;> first | (exact absurd hm Bool.false_ne_true) | skip
    obtain ⟨hc, hv⟩ := ite_some hv
    subst hv
    cases ra with
    | tup ha qa =>
      cases rb
      rcases hc with hc | hc | hc
      · exact op_repT pins s σ H _ _ v u Q I rx ry ⟨_, _, _, rfl, rfl, SqT.of (r.fz.tup ha), (by intro e; subst e; cases qa; exact hc.1 rfl), hc.2.1, hc.2.2.1, by rw [← qa.length]; exact hc.2.2.2, fin.tup r (qa.rep _)⟩
      · subst hc
        refine op_onceT pins s σ H _ _ v u Q I rx ry ⟨_, _, rfl, rfl, SqT.of (r.fz.tup ha), fin.now r (.tup ha ?_)⟩
        rw [show (1 : Int).toNat = 1 from rfl]
        simpa using qa
      · exact op_manyT pins s σ H _ _ v u Q I rx ry ⟨_, _, _, rfl, rfl, SqT.of (r.fz.tup ha), (by intro e; subst e; cases qa; exact hc.1 rfl), hc.2.1, hc.2.2.1, by rw [← qa.length]; exact hc.2.2.2, fin.tup r (qa.rep _)⟩
  · cases hv

/-! ### data -/
mutual
theorem dp_of {F H : Hp} {m : Nat → Addr} {L : Nat} (fz : Fz F H) : ∀ {v : Val} {x : V} {d : PyData}, Rep X.K G F m L v x → dataOf v = some d → Dp X.K H x d
  | _, _, _, .non, e => by simp [dataOf] at e; subst e; exact .non
  | _, _, _, .bl b, e => by simp [dataOf] at e; subst e; exact .bl b
  | _, _, _, .int i, e => by simp [dataOf] at e; subst e; exact .int i
  | _, _, _, .str x, e => by simp [dataOf] at e; subst e; exact .str x
  | _, _, _, .tup h q, e => by
    simp only [dataOf, Option.map_eq_some_iff] at e
    obtain ⟨ds, e, rfl⟩ := e
    exact .tup (SqT.of (fz.tup h)) (dps_of fz q e)
  | _, _, _, .lst h q, e => by
    simp only [dataOf, Option.map_eq_some_iff] at e
    obtain ⟨ds, e, rfl⟩ := e
    exact .lst (SqL.of (fz.lst h)) (dps_of fz q e)
  | _, _, _, .slst h, e => by simp [dataOf] at e
  | _, _, _, .dK h _, e => by simp [dataOf] at e
  | _, _, _, .dT h _, e => by simp [dataOf] at e
  | _, _, _, .ref h _, e => by simp [dataOf] at e
  | _, _, _, .fn h, e => by simp [dataOf] at e
  | _, _, _, .ty n, e => by simp [dataOf] at e
theorem dps_of {F H : Hp} {m : Nat → Addr} {L : Nat} (fz : Fz F H) : ∀ {v : List Val} {x : List V} {d : List PyData}, Reps X.K G F m L v x → dataOfs v = some d → DpAll X.K H x d
  | _, _, _, .nil, e => by simp [dataOfs] at e; subst e; exact .nil
  | _, _, _, .cons r t, e => by
    simp only [dataOfs, Option.bind_eq_some_iff, Option.map_eq_some_iff] at e
    obtain ⟨d, e1, ds, e2, rfl⟩ := e
    exact .cons (dp_of fz r e1) (dps_of fz t e2)
end
theorem key_of_rep {F : Hp} {m : Nat → Addr} {L : Nat} {v : Val} {x : V} {k : L2.Key} (r : Rep X.K G F m L v x) (e : keyOf v = some k) : x = kV k := by
  cases r <;> simp [keyOf] at e <;> subst e <;> rfl
theorem keys_of_reps {F : Hp} {m : Nat → Addr} {L : Nat} : ∀ {v : List Val} {x : List V} {k : List L2.Key}, Reps X.K G F m L v x → keysOf v = some k → x = k.map kV
  | _, _, _, .nil, e => by simp [keysOf] at e; subst e; rfl
  | _, _, _, .cons r t, e => by
    simp only [keysOf, Option.bind_eq_some_iff, Option.map_eq_some_iff] at e
    obtain ⟨d, e1, ds, e2, rfl⟩ := e
    rw [key_of_rep r e1, keys_of_reps t e2]
    rfl
theorem repK_get {F : Hp} {m : Nat → Addr} {L : Nat} {k : L2.Key} : ∀ {xs : List (L2.Key × Val)} {ys : List (L2.Key × V)}, RepK X.K G F m L xs ys →
    (assoc xs k = none ∧ valV ys k = none) ∨ ∃ v y, assoc xs k = some v ∧ valV ys k = some y ∧ Rep X.K G F m L v y
  | _, _, .nil => .inl ⟨rfl, rfl⟩
  | _, _, .cons (k := k') (x := x) (y := y) (xs := xs) (ys := ys) r t => by
    by_cases e : k' = k
    · refine .inr ⟨x, y, ?_, ?_, r⟩
      · simp [assoc, e]
      · simp [valV, e]
    · rcases repK_get (k := k) t with ⟨h1, h2⟩ | ⟨v, z, h1, h2, h3⟩
      · refine .inl ⟨?_, ?_⟩
        · simp only [assoc, List.find?_cons, e, decide_false] at h1 ⊢; exact h1
        · simp only [valV, List.find?_cons, e, decide_false] at h2 ⊢; exact h2
      · refine .inr ⟨v, z, ?_, ?_, h3⟩
        · simp only [assoc, List.find?_cons, e, decide_false] at h1 ⊢; exact h1
        · simp only [valV, List.find?_cons, e, decide_false] at h2 ⊢; exact h2
theorem repT_get {F : Hp} {m : Nat → Addr} {L : Nat} {k : List L2.Key} : ∀ {xs : List (List L2.Key × Val)} {ys : List (List L2.Key × V)}, RepT X.K G F m L xs ys →
    (assoc xs k = none ∧ valV ys k = none) ∨ ∃ v y, assoc xs k = some v ∧ valV ys k = some y ∧ Rep X.K G F m L v y
  | _, _, .nil => .inl ⟨rfl, rfl⟩
  | _, _, .cons (k := k') (x := x) (y := y) (xs := xs) (ys := ys) r t => by
    by_cases e : k' = k
    · refine .inr ⟨x, y, ?_, ?_, r⟩
      · simp [assoc, e]
      · simp [valV, e]
    · rcases repT_get (k := k) t with ⟨h1, h2⟩ | ⟨v, z, h1, h2, h3⟩
      · refine .inl ⟨?_, ?_⟩
        · simp only [assoc, List.find?_cons, e, decide_false] at h1 ⊢; exact h1
        · simp only [valV, List.find?_cons, e, decide_false] at h2 ⊢; exact h2
      · refine .inr ⟨v, z, ?_, ?_, h3⟩
        · simp only [assoc, List.find?_cons, e, decide_false] at h1 ⊢; exact h1
        · simp only [valV, List.find?_cons, e, decide_false] at h2 ⊢; exact h2
/-- what a dict holds at a key -/
theorem dget_of {F H : Hp} {m : Nat → Addr} {st : Store} (r : RelH X.K G F m st H) {d k : Val} {x y : V} {o : Option Val} (rd : Rep X.K G F m st.length d x) (rk : Rep X.K G F m st.length k y) (e : dgetV d k st = some o) :
    ∃ a, x = .ref a ∧ ((o = none ∧ DGet H a y none) ∨ ∃ v z, o = some v ∧ DGet H a y (some z) ∧ Rep X.K G F m st.length v z) := by
  have goK : ∀ {a : Addr} {kvs : List (L2.Key × Val)} {ys : List (L2.Key × V)}, Rd H a (.dK ys) → RepK X.K G F m st.length kvs ys → (keyOf k).map (fun k => assoc kvs k) = some o → (o = none ∧ DGet H a y none) ∨ ∃ v z, o = some v ∧ DGet H a y (some z) ∧ Rep X.K G F m st.length v z := by
    intro a kvs ys hr hk he
    obtain ⟨kk, e1, rfl⟩ := Option.map_eq_some_iff.mp he
    rw [key_of_rep rk e1]
    rcases repK_get (k := kk) hk with ⟨h1, h2⟩ | ⟨v, z, h1, h2, h3⟩
    · exact .inl ⟨h1, .inl ⟨ys, kk, hr, rfl, h2.symm⟩⟩
    · exact .inr ⟨v, z, h1, .inl ⟨ys, kk, hr, rfl, h2.symm⟩, h3⟩
  have goT : ∀ {a : Addr} {kvs : List (List L2.Key × Val)} {ys : List (List L2.Key × V)}, Rd H a (.dT ys) → RepT X.K G F m st.length kvs ys → (tkeyOf k).map (fun k => assoc kvs k) = some o → (o = none ∧ DGet H a y none) ∨ ∃ v z, o = some v ∧ DGet H a y (some z) ∧ Rep X.K G F m st.length v z := by
    intro a kvs ys hr hk he
    obtain ⟨kk, e1, rfl⟩ := Option.map_eq_some_iff.mp he
    cases rk <;> simp only [tkeyOf] at e1 <;> try cases e1
    rename_i b xs zs hs hq
    have ek := keys_of_reps hq e1
    subst ek
    have hbb := r.fz.tup hs
    rcases repT_get (k := kk) hk with ⟨h1, h2⟩ | ⟨v, z, h1, h2, h3⟩
    · exact .inl ⟨h1, .inr ⟨ys, kk, b, hr, rfl, hbb, h2.symm⟩⟩
    · exact .inr ⟨v, z, h1, .inr ⟨ys, kk, b, hr, rfl, hbb, h2.symm⟩, h3⟩
  cases rd <;> simp only [dgetV] at e <;> try cases e
  · rename_i a xs ys h q
    exact ⟨a, rfl, goK (r.fz.rdK h) q e⟩
  · rename_i a xs ys h q
    exact ⟨a, rfl, goT (r.fz.rdT h) q e⟩
  · rename_i n a h q
    subst q
    split at e
    · rename_i kvs hk
      obtain ⟨ys, h1, h2⟩ := r.cell n _ hk
      exact ⟨_, rfl, goK (.inl h1) h2 e⟩
    · rename_i kvs hk
      obtain ⟨ys, h1, h2⟩ := r.cell n _ hk
      exact ⟨_, rfl, goT (.inl h1) h2 e⟩
    · cases e
end
end MP
set_option maxHeartbeats 4000000
/-! MPOps2: comparisons, subscripts, slices, truth, built-in functions of values. -/
namespace MP
open PySem PyProof.Rows L2
section
variable {X : Cx} {G : GX} {W : WX}

/-! ### what is read -/
theorem seq_of {F H : Hp} {m : Nat → Addr} {st : Store} (r : RelH X.K G F m st H) {v : Val} {x : V} {xs : List Val} (q : Rep X.K G F m st.length v x) (e : seqOf v st = some xs) :
    ∃ a ys, x = .ref a ∧ Reps X.K G F m st.length xs ys ∧ ((SqT X.K H a ys ∧ v = .tup xs) ∨ (H a = some (.lst ys) ∧ (v = .lst xs ∨ ∃ n, v = .ref n))) := by
  cases q <;> simp only [seqOf] at e <;> try cases e
  · rename_i a ys h q
    exact ⟨a, ys, rfl, q, .inl ⟨SqT.of (r.fz.tup h), rfl⟩⟩
  · rename_i a ys h q
    exact ⟨a, ys, rfl, q, .inr ⟨r.fz.lst h, .inl rfl⟩⟩
  · rename_i n a h q
    subst q
    split at e
    · rename_i zs hk
      cases e
      obtain ⟨ys, h1, h2⟩ := r.cell n _ hk
      exact ⟨_, ys, rfl, h2, .inr ⟨h1, .inr ⟨n, rfl⟩⟩⟩
    · cases e
theorem reps_atI {F : Hp} {m : Nat → Addr} {L : Nat} {xs : List Val} {ys : List V} {k : Int} {v : Val} (q : Reps X.K G F m L xs ys) (e : atI xs k = some v) : ∃ y, atI ys k = some y ∧ Rep X.K G F m L v y := by
  unfold atI at e ⊢
  rw [← q.length]
  obtain ⟨j, h1, h2⟩ := Option.bind_eq_some_iff.mp e
  obtain ⟨y, h3, h4⟩ := q.get h2
  exact ⟨y, by rw [h1]; exact h3, h4⟩

/-! ### comparisons -/
def copM : Cop → CmpOp → Bool
  | .eq, .Eq => true
  | .ne, .NotEq => true
  | .lt, .Lt => true
  | .le, .LtE => true
  | .gt, .Gt => true
  | .ge, .GtE => true
  | .isin, .In => true
  | .notin, .NotIn => true
  | .nec, .NotEq => true
  | _, _ => false
def rC (X : Cx) (G : GX) (op : Cop) : R2 := rB X G fun a b st => (cop op a b st).map .bl
theorem eqV_inv {a b : Val} {t : Bool} (h : eqD a b = some t) : ∃ d e, dataOf a = some d ∧ dataOf b = some e ∧ SeqAt.shaped d = true ∧ SeqAt.shaped e = true ∧ t = PyData.eqv d e := by
  unfold eqD at h
  split at h
  · rename_i d e h1 h2
    obtain ⟨⟨h3, h4⟩, h5⟩ := ite_some h
    exact ⟨d, e, h1, h2, h3, h4, h5.symm⟩
  · cases h
/-- x in c: what it leans on -/
theorem inV_inv {F H : Hp} {m : Nat → Addr} {st : Store} (r : RelH X.K G F m st H) {va vb : Val} {x y : V} {t : Bool} (ra : Rep X.K G F m st.length va x) (rb : Rep X.K G F m st.length vb y) (h : inV va vb st = some t) :
    (∃ d ds, Dp X.K H x d ∧ ((∃ a ys, y = .ref a ∧ (SqL X.K H a ys ∨ SqT X.K H a ys) ∧ DpAll X.K H ys ds)) ∧ SeqAt.shaped d = true ∧ SeqAt.shaped (.list ds) = true ∧ t = ds.any fun z => PyData.eqv z d) ∨
    (∃ z w, x = .str z ∧ y = .str w ∧ t = !(Builtin.Str.occurrences w z 0 w.length 1).isEmpty) ∨
    (∃ a o, y = .ref a ∧ DGet H a x o ∧ t = o.isSome) := by
  unfold inV at h
  split at h
  · rename_i ys hs
    split at h
    · rename_i d ds h1 h2
      obtain ⟨⟨h3, h4⟩, h5⟩ := ite_some h
      obtain ⟨a, zs, ey, q, hq⟩ := seq_of r rb hs
      refine .inl ⟨d, ds, dp_of r.fz ra h1, ⟨a, zs, ey, ?_, dps_of r.fz q h2⟩, h3, h4, h5.symm⟩
      rcases hq with ⟨q1, _⟩ | ⟨q1, _⟩
      · exact .inr q1
      · exact .inl (SqL.of q1)
    · cases h
  · split at h
    · rename_i w _
      split at h
      · rename_i z
        cases h; cases ra; cases rb
        exact .inr (.inl ⟨_, _, rfl, rfl, rfl⟩)
      · cases h
    · obtain ⟨o, h1, h2⟩ := Option.map_eq_some_iff.mp h
      obtain ⟨a, ea, q⟩ := dget_of r rb ra h1
      refine .inr (.inr ?_)
      rcases q with ⟨e, g⟩ | ⟨v, z, e, g, _⟩
      · subst e; exact ⟨a, _, ea, g, h2.symm⟩
      · subst e; exact ⟨a, _, ea, g, h2.symm⟩
/-- x in a tuple of data -/
theorem in_tupD (hu : X.A.units + 70 < cLine) {neg : Bool} {op : CmpOp} (ho : op = if neg = true then .NotIn else .In) {pins : List (Addr × Obj)} {s : Shared} {σ : L2.St} {H : Hp} {x : V} {v : Value} {a : Addr} {ys : List V} {d : PyData} {ds : List PyData} {Q : VK}
    (I : L2.Inv X pins σ H s) (rx : RelV x v) (hd : Dp X.K H x d) (hs : SqT X.K H a ys) (hds : DpAll X.K H ys ds) (h1 : SeqAt.shaped d = true) (h2 : SeqAt.shaped (.list ds) = true)
    (q : Q (.bl (if neg = true then !(ds.any fun z => PyData.eqv z d) else ds.any fun z => PyData.eqv z d)) H) : wpAny (model X.prog X.w) X.A (compareOp op v (.ref a)) (EP X pins σ Q) X.xe s := by
  obtain ⟨as, r1⟩ := Dp.reads I d x v hd rx
  obtain ⟨bs, r2⟩ := Dp.reads I (.tuple ds) (.ref a) (.ref a) (.tup hs hds) rfl
  subst ho
  cases neg with
  | true => exact SeqAt.notIn_tuple_reads r2 r1 (SeqAt.canLay_of_shaped h2) (SeqAt.canLay_of_shaped h1) (room_in_shaped h1 (by omega)) ⟨.bl _, H, I, rfl, q⟩
  | false => exact SeqAt.in_tuple_reads r2 r1 (SeqAt.canLay_of_shaped h2) (SeqAt.canLay_of_shaped h1) (room_in_shaped h1 (by omega)) ⟨.bl _, H, I, rfl, q⟩
theorem ltD_inv {a b : Val} {t : Bool} (h : ltD a b = some t) : ∃ d e, dataOf a = some d ∧ dataOf b = some e ∧ PySem.W.alike d e = true ∧ d ≠ .none ∧ d.depth ≤ 60 ∧ t = PySem.W.dataLt d e := by
  unfold ltD at h
  split at h
  · rename_i d e h1 h2
    obtain ⟨⟨h3, h4, h5⟩, h6⟩ := ite_some h
    exact ⟨d, e, h1, h2, h3, h4, h5, h6.symm⟩
  · cases h
theorem op_ltD (hu : X.A.units + 64 < cLine) : OpR X (compareOp .Lt) (fun x y H Q => ∃ d e, Dp X.K H x d ∧ Dp X.K H y e ∧ PySem.W.alike d e = true ∧ d ≠ .none ∧ d.depth ≤ 60 ∧ Q (.bl (PySem.W.dataLt d e)) H) := by
  intro pins s σ H x y v u Q I rx ry h
  obtain ⟨d, e, hd, he, sd, se, dd, q⟩ := h
  obtain ⟨as, r1⟩ := Dp.reads I d x v hd rx
  obtain ⟨bs, r2⟩ := Dp.reads I e y u he ry
  exact PySem.W.lt_data r1 r2 sd se (by have := Nat.min_le_left d.depth e.depth; omega) ⟨.bl _, H, I, rfl, q⟩
theorem op_cop (C : Cxt X G W) {op : Cop} {pop : CmpOp} (hm : copM op pop = true) : OpR X (compareOp pop) (rC X G op) := by
  have hu := C.units
  intro pins s σ H x y v u Q I rx ry h
  obtain ⟨F, m, st, va, vb, w, r, ra, rb, hv, fin⟩ := h
  obtain ⟨t, hc, rfl⟩ := Option.map_eq_some_iff.mp hv
  have fin' : Q (.bl t) H := fin.now r (.bl t)
  have isin : ∀ {neg : Bool} {op' : CmpOp} (ho : op' = if neg = true then .NotIn else .In) {b : Bool}, inV va vb st = some b → t = (if neg = true then !b else b) → wpAny (model X.prog X.w) X.A (compareOp op' v u) (EP X pins σ Q) X.xe s := by
    intro neg op' ho b hb et
    rcases inV_inv r ra rb hb with ⟨d, ds, hd, ⟨a, ys, ey, hq, hds⟩, h1, h2, e⟩ | ⟨z, w', ex, ey, e⟩ | ⟨a, o, ey, g, e⟩
    · subst ey e
      cases (show u = Value.ref a from ry)
      rcases hq with hq | hq
      · subst ho
        cases neg with
        | true => exact op_notInD (by omega) pins s σ H x (.ref a) v (.ref a) Q I rx rfl ⟨d, ds, hd, .lst hq hds, h1, h2, by rw [et] at fin'; exact fin'⟩
        | false => exact op_inD (by omega) pins s σ H x (.ref a) v (.ref a) Q I rx rfl ⟨d, ds, hd, .lst hq hds, h1, h2, by rw [et] at fin'; exact fin'⟩
      · exact in_tupD hu (neg := neg) ho I rx hd hq hds h1 h2 (by rw [et] at fin'; exact fin')
    · subst ex ey e ho
      cases neg with
      | true => exact op_notin_str pins s σ H _ _ v u Q I rx ry ⟨_, _, rfl, rfl, by rw [et] at fin'; exact fin'⟩
      | false => exact op_in_str pins s σ H _ _ v u Q I rx ry ⟨_, _, rfl, rfl, by rw [et] at fin'; exact fin'⟩
    · subst ey e
      cases (show u = Value.ref a from ry)
      subst ho
      cases neg with
      | true => exact d_notIn (by omega) I g rx fun s' I' => ⟨.bl _, H, I', rfl, by rw [et] at fin'; exact fin'⟩
      | false => exact d_in (by omega) I g rx fun s' I' => ⟨.bl _, H, I', rfl, by rw [et] at fin'; exact fin'⟩
  cases op <;> cases pop <;> simp only [copM] at hm <;> first | (exact absurd hm Bool.false_ne_true) | skip
  · simp only [cop, eqV] at hc
    split at hc
    · cases ra; cases rb; cases hc
      exact op_eq pins s σ H _ _ v u Q I rx ry ⟨rfl, by simpa using fin'⟩
    · cases ra; cases rb; cases hc
      exact op_eq pins s σ H _ _ v u Q I rx ry ⟨rfl, by simpa using fin'⟩
    obtain ⟨d, e, h1, h2, h3, h4, h5⟩ := eqV_inv hc
    exact op_eqD (by omega) pins s σ H x y v u Q I rx ry ⟨d, e, dp_of r.fz ra h1, dp_of r.fz rb h2, h3, h4, by rw [← h5]; exact fin'⟩
  · simp only [cop] at hc
    obtain ⟨b, hb, eb⟩ := Option.map_eq_some_iff.mp hc
    simp only [eqV] at hb
    split at hb
    · cases ra; cases rb; cases hb; subst eb
      exact op_ne pins s σ H _ _ v u Q I rx ry ⟨rfl, by simpa using fin'⟩
    · cases ra; cases rb; cases hb; subst eb
      exact op_ne pins s σ H _ _ v u Q I rx ry ⟨rfl, by simpa using fin'⟩
    obtain ⟨d, e, h1, h2, h3, h4, h5⟩ := eqV_inv hb
    exact op_neD (by omega) pins s σ H x y v u Q I rx ry ⟨d, e, dp_of r.fz ra h1, dp_of r.fz rb h2, h3, h4, by rw [← h5, eb]; exact fin'⟩
  · simp only [cop] at hc
    split at hc
    · cases hc; cases ra; cases rb
      exact op_lt pins s σ H _ _ v u Q I rx ry ⟨_, _, rfl, rfl, fin'⟩
    · obtain ⟨d, e, h1, h2, h3, h4, h5, h6⟩ := ltD_inv hc
      exact op_ltD (by omega) pins s σ H x y v u Q I rx ry ⟨d, e, dp_of r.fz ra h1, dp_of r.fz rb h2, h3, h4, h5, by rw [← h6]; exact fin'⟩
  · simp only [cop] at hc
    split at hc
    · cases hc; cases ra; cases rb
      exact op_le pins s σ H _ _ v u Q I rx ry ⟨_, _, rfl, rfl, fin'⟩
    · cases hc
  · simp only [cop] at hc
    split at hc
    · cases hc; cases ra; cases rb
      exact op_gt pins s σ H _ _ v u Q I rx ry ⟨_, _, rfl, rfl, fin'⟩
    · cases hc
  · simp only [cop] at hc
    split at hc
    · cases hc; cases ra; cases rb
      exact op_ge pins s σ H _ _ v u Q I rx ry ⟨_, _, rfl, rfl, fin'⟩
    · cases hc
  · exact isin (neg := false) rfl hc rfl
  · simp only [cop] at hc
    obtain ⟨b, hb, eb⟩ := Option.map_eq_some_iff.mp hc
    exact isin (neg := true) rfl hb eb.symm
  · simp only [cop] at hc
    unfold necV at hc
    split at hc
    · split at hc
      · rename_i n
        split at hc
        · rename_i xs hk
          split at hc
          · rename_i ds hds
            obtain ⟨h3, et⟩ := ite_some hc
            obtain ⟨a, ys, ex, q, hq⟩ := seq_of r ra (show seqOf (.ref n) st = some xs by simp only [seqOf, hk])
            have hl : SqL X.K H a ys := by
              rcases hq with ⟨_, q2⟩ | ⟨q1, _⟩
              · cases q2
              · exact SqL.of q1
            subst ex
            have dy : Dp X.K H y (.list []) := dp_of r.fz rb rfl
            exact op_neD (by omega) pins s σ H _ y v u Q I rx ry ⟨.list ds, .list [], .lst hl (dps_of r.fz q hds), dy, h3, rfl, by rw [et]; exact fin'⟩
          · cases hc
        · cases hc
      · cases hc
    · cases hc

theorem reps_ints {F : Hp} {m : Nat → Addr} {L : Nat} : ∀ ns : List Int, Reps X.K G F m L (ns.map Val.int) (ns.map V.int)
  | [] => .nil
  | n :: ns => .cons (.int n) (reps_ints ns)
/-! ### subscripts -/
theorem ix_idx (C : Cxt X G W) : IxR X (rB X G idxV) := by
  have hu := C.units
  intro value slice pins s σ H x y v u Q I rx ry h hs
  obtain ⟨F, m, st, va, vb, w, r, ra, rb, hv, fin⟩ := h
  have dict : (dgetV va vb st).bind id = some w → wpAny (model X.prog X.w) X.A (subscriptTail value slice v u) (EP X pins σ Q) X.xe s := by
    intro hd
    obtain ⟨o, h1, h2⟩ := Option.bind_eq_some_iff.mp hd
    obtain ⟨a, ea, q⟩ := dget_of r ra rb h1
    rcases q with ⟨e, g⟩ | ⟨v', z, e, g, rz⟩
    · rw [e] at h2; cases h2
    · rw [e] at h2
      have e2 : v' = w := Option.some.inj h2
      subst e2
      subst ea
      obtain rfl : v = Value.ref a := rx
      exact PyProof.Rows.tail_any (dict_typeIs I g) PySem.F.slot_dict_getitem.lookup (d_getItem (A := X.A) (by omega) I g ry fun w' s3 I3 rw' => ⟨z, H, I3, rw', fin.now r rz⟩) hs
  unfold idxV at hv
  split at hv
  · rename_i k
    cases rb
    split at hv
    · rename_i xs hq
      obtain ⟨a, ys, ex, q, hq⟩ := seq_of r ra hq
      obtain ⟨z, h1, h2⟩ := reps_atI q hv
      subst ex
      rcases hq with ⟨q1, _⟩ | ⟨q1, _⟩
      · exact ix_tup value slice pins s σ H _ _ v u Q I rx ry ⟨a, ys, _, z, rfl, rfl, q1, h1, fin.now r h2⟩ hs
      · exact ix_list value slice pins s σ H _ _ v u Q I rx ry ⟨a, ys, _, z, rfl, rfl, SqL.of q1, h1, fin.now r h2⟩ hs
    · split at hv
      · rename_i z _
        obtain ⟨hz, hv⟩ := (show z.length ≤ sizeLine ∧ (atI z.cps.toList k).map (fun c => Val.str ⟨#[c]⟩) = some w by
          split at hv
          · rename_i hz; exact ⟨hz, hv⟩
          · cases hv)
        obtain ⟨c, h1, h2⟩ := Option.map_eq_some_iff.mp hv
        subst h2
        cases ra
        exact ix_str value slice pins s σ H _ _ v u Q I rx ry ⟨_, _, _, rfl, rfl, hz, h1, fin.now r (.str _)⟩ hs
      · rename_i ns _
        cases ra with
        | slst h =>
          obtain ⟨z, h1, h2⟩ := reps_atI (reps_ints ns) hv
          exact ix_list value slice pins s σ H _ _ v u Q I rx ry ⟨_, _, _, z, rfl, rfl, r.fz.sqL h, h1, fin.now r h2⟩ hs
      · exact dict hv
  · exact dict hv

/-! ### slices -/
theorem cutL_cutV {F : Hp} {m : Nat → Addr} {L : Nat} {xs : List Val} {ys : List V} (q : Reps X.K G F m L xs ys) (lo hi : Option Int) : Reps X.K G F m L (cutL xs lo hi) (cutV ys lo hi) := by
  unfold cutL cutV
  rw [← q.length]
  exact Reps.take _ (Reps.drop _ q)
theorem cut_whole {α : Type} {xs : List α} {lo hi : Option Int} (h : HT.sIx xs.length 0 lo = 0 ∧ HT.sIx xs.length xs.length hi = xs.length) : cutL xs lo hi = xs := by
  unfold cutL
  rw [h.1, h.2]
  simp
theorem sl_slc : SlR X fun x lo hi H Q => ∃ F m st va v, RelH X.K G F m st H ∧ Rep X.K G F m st.length va x ∧ slcV va lo hi st = some v ∧ Fin X G Q F m st H v := by
  intro pins s σ H x v vl vu lo hi sl Q I rx hs pl pu h
  obtain ⟨F, m, st, va, w, r, ra, hv, fin⟩ := h
  unfold slcV at hv
  cases ra with
  | tup h q =>
    simp only [Option.some.injEq] at hv
    subst hv
    refine sl_tupA pins s σ H _ v vl vu lo hi sl Q I rx hs pl pu ⟨_, _, rfl, SqT.of (r.fz.tup h), fun e => ?_, fun _ => fin.tup r (cutL_cutV q lo hi)⟩
    rw [← q.length] at e
    rw [cut_whole e] at fin
    exact fin.now r (.tup h q)
  | lst h q =>
    simp only [Option.some.injEq] at hv
    subst hv
    exact sl_list pins s σ H _ v vl vu lo hi sl Q I rx hs pl pu ⟨_, _, rfl, SqL.of (r.fz.lst h), fin.lst r (cutL_cutV q lo hi)⟩
  | slst h =>
    rename_i a ns
    simp only [Option.some.injEq] at hv
    subst hv
    refine sl_list pins s σ H _ v vl vu lo hi sl Q I rx hs pl pu ⟨_, _, rfl, r.fz.sqL h, ?_⟩
    have e : cutV (ns.map V.int) lo hi = (cutL ns lo hi).map V.int := by
      unfold cutV cutL
      rw [List.length_map, List.map_take, List.map_drop]
    rw [e]
    exact fin.lst r (reps_ints _)
  | str z =>
    obtain ⟨hz, hv⟩ := ite_some hv
    subst hv
    exact sl_str pins s σ H _ v vl vu lo hi sl Q I rx hs pl pu ⟨z, rfl, hz, fin.now r (.str _)⟩
  | ref hn e =>
    rename_i n a
    subst e
    simp only at hv
    split at hv
    · rename_i xs hk
      cases hv
      obtain ⟨ys, h1, h2⟩ := r.cell n _ hk
      exact sl_list pins s σ H _ v vl vu lo hi sl Q I rx hs pl pu ⟨_, _, rfl, SqL.of h1, fin.lst r (cutL_cutV h2 lo hi)⟩
    · cases hv
  | _ => cases hv

/-! ### truth -/
theorem isEmpty_reps {F : Hp} {m : Nat → Addr} {L : Nat} {xs : List Val} {ys : List V} (q : Reps X.K G F m L xs ys) : xs.isEmpty = ys.isEmpty := by cases q <;> rfl
theorem truth_of {F H : Hp} {m : Nat → Addr} {st : Store} (r : RelH X.K G F m st H) {v : Val} {x : V} {b : Bool} (q : Rep X.K G F m st.length v x) (e : truth v st = some b) : TruV X.K x H b := by
  cases q <;> simp only [truth] at e <;> try cases e
  · exact rfl
  · exact rfl
  · exact rfl
  · rename_i a xs ys h q
    exact .inr (.inl ⟨ys, SqT.of (r.fz.tup h), by rw [isEmpty_reps q]⟩)
  · rename_i a xs ys h q
    exact .inl ⟨ys, SqL.of (r.fz.lst h), by rw [isEmpty_reps q]⟩
  · rename_i n a h q
    subst q
    split at e
    · rename_i xs hk
      cases e
      obtain ⟨ys, h1, h2⟩ := r.cell n _ hk
      exact .inl ⟨ys, SqL.of h1, by rw [isEmpty_reps h2]⟩
    · rename_i xs hk
      cases e
      obtain ⟨ys, h1, h2⟩ := r.cell n _ hk
      refine .inr (.inr ⟨ys, h1, ?_⟩)
      cases h2 <;> rfl
    · cases e

/-! ### isinstance -/
def tnName : Tn → String
  | .int => "int"
  | .bool => "bool"
  | .str => "str"
  | .tuple => "tuple"
  | .list => "list"
  | .dict => "dict"
theorem isi_of {F H : Hp} {m : Nat → Addr} {st : Store} (r : RelH X.K G F m st H) {v : Val} {x : V} {t : Tn} {b : Bool} (q : Rep X.K G F m st.length v x) (e : isInst v t st = some b) :
    ∃ u, TyX X.K H x u ∧ PySem.W.kitOne X.K u (.type (tnName t)) = some b := by
  have K1 : ∀ {a : String} {t : Tn} {b : Bool}, kitB a (tnName t) = some b → PySem.W.kitOne X.K (.type a) (.type (tnName t)) = some b := fun h => kit_ty h
  cases q <;> simp only [isInst] at e <;> try cases e
  · exact ⟨_, .base .non, K1 (by cases t <;> decide +kernel)⟩
  · exact ⟨_, .base (.bl _), K1 (by cases t <;> decide +kernel)⟩
  · exact ⟨_, .base (.int _), K1 (by cases t <;> decide +kernel)⟩
  · exact ⟨_, .base (.str _), K1 (by cases t <;> decide +kernel)⟩
  · rename_i a xs ys h q
    exact ⟨_, .base (.tup (r.fz.tup h)), K1 (by cases t <;> decide +kernel)⟩
  · rename_i a xs ys h q
    exact ⟨_, .base (.lst (r.fz.lst h)), K1 (by cases t <;> decide +kernel)⟩
  · rename_i a xs ys h q
    rcases r.fz.rdK h with z | ⟨o, z⟩
    · exact ⟨_, .base (.dK z), K1 (by cases t <;> decide +kernel)⟩
    · exact ⟨_, .fDict z, K1 (by cases t <;> decide +kernel)⟩
  · rename_i n a h q
    subst q
    split at e
    · rename_i xs hk
      cases e
      obtain ⟨ys, h1, h2⟩ := r.cell n _ hk
      exact ⟨_, .base (.lst h1), K1 (by cases t <;> decide +kernel)⟩
    · rename_i xs hk
      cases e
      obtain ⟨ys, h1, h2⟩ := r.cell n _ hk
      exact ⟨_, .base (.dK h1), K1 (by cases t <;> decide +kernel)⟩
    · rename_i xs hk
      cases e
      obtain ⟨ys, h1, h2⟩ := r.cell n _ hk
      exact ⟨_, .base (.dT h1), K1 (by cases t <;> decide +kernel)⟩
    · cases e
end
end MP
set_option maxHeartbeats 4000000
/-! MPSum: sum of a tuple of numbers -/
namespace MP
open PySem PySem.Spec PyProof.Rows L2
section
variable {prog : Program} {w : World} {A : Around} {E : Value → Shared → Prop} {s : Shared} {l : Addr}
theorem sum_tupI {xs : Array (Int × Tok)} {Q : Value → Shared → Prop} (hh : A.handled = none) (ht : IsTup s.heap l (intItems xs))
    (h : ∀ h' tk t', (∀ b o, s.heap.get? b = some o → h'.get? b = some o) → Q (.int (preSum (numAt xs) xs.size) t') { s with heap := h', toks := tk }) :
    wpAny (model prog w) A (call (.builtin "sum") [.ref l]) Q E s := by
  have hlt : l < s.heap.objs.size := by obtain ⟨_, e, _⟩ := ht; exact Heap.lt_size e
  refine call_sum_walkG (iter_tuple ht ?_)
  refine ⟨_, [s.heap.objs.size, l], [s.heap.objs.size], _, _, _, numAt xs, rfl, Walks.tuple (A := A.in1) hh _ l (Nat.ne_of_lt hlt) (intItems xs), ⟨⟨_, Heap.get?_push_size _ rfl, rfl, rfl⟩, ht.push _⟩, fun b hb => ?_, (fun _ _ => intItems_at), fun h' tk t' hk => ?_⟩
  · show b < (s.heap.push _).objs.size
    rw [Heap.size_push]
    simp only [List.mem_cons, List.not_mem_nil, or_false] at hb
    rcases hb with rfl | rfl
    · exact Nat.lt_succ_self _
    · exact Nat.lt_succ_of_lt hlt
  · have := h h' tk t' fun b o e => by
      refine hk b o (fun hm => ?_) (Heap.get?_push_of_some _ e)
      simp only [List.mem_cons, List.not_mem_nil, or_false] at hm
      subst hm
      exact absurd (Heap.lt_size e) (Nat.lt_irrefl _)
    simpa [intItems] using this
theorem sum_tup {its : List Value} {ns : List Int} {Q : Value → Shared → Prop} (hh : A.handled = none) (ht : IsTup s.heap l its.toArray) (hi : IntsAre its ns)
    (h : ∀ h' tk t', (∀ b o, s.heap.get? b = some o → h'.get? b = some o) → Q (.int ns.sum t') { s with heap := h', toks := tk }) : wpAny (model prog w) A (call (.builtin "sum") [.ref l]) Q E s := by
  obtain ⟨xs, e⟩ := hi.allInts.items
  have hn : numsOf (intItems xs).toList = ns := by rw [← e]; exact hi.numsOf
  rw [nums_intItems] at hn
  rw [e] at ht
  refine sum_tupI hh ht fun h' tk t' hk => ?_
  have := h h' tk t' hk
  rw [preSum_eq, List.take_of_length_le (by simp), hn]; exact this
end
theorem cr_sumT {X : Cx} (hc : X.calm = true) : CallR X (.builtin "sum") (fun vs H Q => ∃ (a : Addr) (ns : List Int), vs = [V.ref a] ∧ SqT X.K H a (ns.map V.int) ∧ Q (.int ns.sum) H) := by
  intro pins s σ H vs us Q I r h
  obtain ⟨a, ns, rfl, hs, q⟩ := h
  obtain ⟨its, rv, ht, _⟩ := I.tuple hs
  rw [Vals.ref1 r]
  exact sum_tup (I.ok.hd hc) ht rv.ints fun h' tk t' hk => ⟨.int _, H, I.kept hk, ⟨_, rfl⟩, q⟩
end MP
set_option maxHeartbeats 4000000
/-! MPBlt: built-in functions and methods. -/
namespace MP
open PySem PyProof.Rows L2
section
variable {X : Cx} {G : GX} {W : WX}
def rL (X : Cx) (G : GX) (f : List Val → Store → Option Val) : List V → Hp → VK → Prop := fun xs H Q =>
  ∃ F m st vs v, RelH X.K G F m st H ∧ Reps X.K G F m st.length vs xs ∧ f vs st = some v ∧ Fin X G Q F m st H v
theorem reps1 {F : Hp} {m : Nat → Addr} {L : Nat} {v : Val} {xs : List V} (q : Reps X.K G F m L [v] xs) : ∃ x, xs = [x] ∧ Rep X.K G F m L v x := by
  cases q with
  | cons r t => cases t; exact ⟨_, rfl, r⟩
theorem reps2 {F : Hp} {m : Nat → Addr} {L : Nat} {v w : Val} {xs : List V} (q : Reps X.K G F m L [v, w] xs) : ∃ x y, xs = [x, y] ∧ Rep X.K G F m L v x ∧ Rep X.K G F m L w y := by
  cases q with
  | cons r t =>
    obtain ⟨y, rfl, q⟩ := reps1 t
    exact ⟨_, _, rfl, r, q⟩
theorem bools_of {F : Hp} {m : Nat → Addr} {L : Nat} : ∀ {xs : List Val} {ys : List V} {bs : List Bool}, Reps X.K G F m L xs ys → boolsOf xs = some bs → ys = bs.map V.bl
  | _, _, _, .nil, e => by simp [boolsOf] at e; subst e; rfl
  | _, _, _, .cons r t, e => by
    cases r <;> simp only [boolsOf] at e <;> try cases e
    obtain ⟨bs, e1, rfl⟩ := Option.map_eq_some_iff.mp e
    rw [bools_of t e1]; rfl
theorem ints_of {F : Hp} {m : Nat → Addr} {L : Nat} : ∀ {xs : List Val} {ys : List V} {bs : List Int}, Reps X.K G F m L xs ys → intsOf xs = some bs → ys = bs.map V.int
  | _, _, _, .nil, e => by simp [intsOf] at e; subst e; rfl
  | _, _, _, .cons r t, e => by
    cases r <;> simp only [intsOf] at e <;> try cases e
    obtain ⟨bs, e1, rfl⟩ := Option.map_eq_some_iff.mp e
    rw [ints_of t e1]; rfl
theorem len_ref {pins : List (Addr × Obj)} {σ : L2.St} {H : Hp} {s : Shared} {a : Addr} {n : Nat} {Q : VK} (I : L2.Inv X pins σ H s)
    (h : (∃ ys, (SqL X.K H a ys ∨ SqT X.K H a ys) ∧ n = ys.length) ∨ (∃ kvs, Rd H a (.dK kvs) ∧ n = kvs.length) ∨ (∃ kvs, Rd H a (.dT kvs) ∧ n = kvs.length)) (q : Q (.int n) H) :
    wpAny (model X.prog X.w) X.A (call (.builtin "len") [.ref a]) (EP X pins σ Q) X.xe s := by
  rcases h with ⟨ys, h, e⟩ | ⟨kvs, h, e⟩ | ⟨kvs, h, e⟩
  · subst e
    exact call_len_seq pins s σ H [.ref a] [.ref a] Q I (.cons rfl .nil) ⟨a, ys, rfl, h, q⟩
  · subst e
    exact d_len I h fun t s' I' => ⟨.int kvs.length, H, I', ⟨t, rfl⟩, q⟩
  · subst e
    obtain ⟨z, hd, ys, rel, dd⟩ := dt_rd I.hok h
    have hl : kvs.length = ys.length := Paired.length rel
    refine call_len_dictH hd dd (by rw [← hl]; rw [sizeLine_eq] at z; omega) ?_
    rw [← hl]
    exact ⟨.int ((kvs.length : Nat) : Int), H, I.tok _, ⟨_, rfl⟩, q⟩
theorem cr_len : CallR X (.builtin "len") (rL X G (blt .len)) := by
  intro pins s σ H xs us Q I rv h
  obtain ⟨F, m, st, vs, w, r, q, hv, fin⟩ := h
  simp only [blt] at hv
  split at hv <;> try cases hv
  · rename_i v _
    obtain ⟨n, hn, rfl⟩ := Option.map_eq_some_iff.mp hv
    have fin' : Q (.int n) H := fin.now r (.int n)
    obtain ⟨x, rfl, rx⟩ := reps1 q
    obtain ⟨u, rfl, ru⟩ := vals1 rv
    cases rx <;> simp only [lenOf] at hn <;> try cases hn
    · obtain ⟨hz, hn⟩ := ite_some hn
      subst hn
      exact call_len_str pins s σ H _ _ Q I rv ⟨_, rfl, hz, fin'⟩
    · rename_i a xs ys h q2
      cases (show u = .ref a from ru)
      exact len_ref I (.inl ⟨ys, .inr (SqT.of (r.fz.tup h)), rfl⟩) (by rw [← q2.length]; exact fin')
    · rename_i a xs ys h q2
      cases (show u = .ref a from ru)
      exact len_ref I (.inl ⟨ys, .inl (SqL.of (r.fz.lst h)), rfl⟩) (by rw [← q2.length]; exact fin')
    · rename_i a ns h
      cases (show u = .ref a from ru)
      exact len_ref I (.inl ⟨_, .inl (r.fz.sqL h), rfl⟩) (by rw [List.length_map]; exact fin')
    · rename_i a xs ys h q2
      cases (show u = .ref a from ru)
      exact len_ref I (.inr (.inl ⟨ys, r.fz.rdK h, rfl⟩)) (by rw [← q2.length]; exact fin')
    · rename_i a xs ys h q2
      cases (show u = .ref a from ru)
      exact len_ref I (.inr (.inr ⟨ys, r.fz.rdT h, rfl⟩)) (by rw [← q2.length]; exact fin')
    · rename_i k a h q2
      subst q2
      cases (show u = .ref _ from ru)
      split at hn
      · rename_i zs hk
        cases hn
        obtain ⟨ys, h1, h2⟩ := r.cell k _ hk
        exact len_ref I (.inl ⟨ys, .inl (SqL.of h1), rfl⟩) (by rw [← h2.length]; exact fin')
      · rename_i zs hk
        cases hn
        obtain ⟨ys, h1, h2⟩ := r.cell k _ hk
        exact len_ref I (.inr (.inl ⟨ys, .inl h1, rfl⟩)) (by rw [← h2.length]; exact fin')
      · rename_i zs hk
        cases hn
        obtain ⟨ys, h1, h2⟩ := r.cell k _ hk
        exact len_ref I (.inr (.inr ⟨ys, .inl h1, rfl⟩)) (by rw [← h2.length]; exact fin')
      · cases hn
theorem cr_tuple : CallR X (.type "tuple") (rL X G (blt .tuple)) := by
  intro pins s σ H xs us Q I rv h
  obtain ⟨F, m, st, vs, w, r, q, hv, fin⟩ := h
  simp only [blt] at hv
  split at hv <;> try cases hv
  · rename_i v _
    obtain ⟨n, hn, rfl⟩ := Option.map_eq_some_iff.mp hv
    obtain ⟨x, rfl, rx⟩ := reps1 q
    obtain ⟨a, ys, rfl, q2, hq⟩ := seq_of r rx hn
    refine call_tuple_of pins s σ H _ _ Q I rv ⟨a, ys, rfl, ?_⟩
    rcases hq with ⟨h1, h2⟩ | ⟨h1, h2⟩
    · refine .inr ⟨h1, ?_⟩
      subst h2
      exact fin.now r rx
    · exact .inl ⟨SqL.of h1, fin.tup r q2⟩
theorem cr_list : CallR X (.type "list") (rL X G (blt .list)) := by
  intro pins s σ H xs us Q I rv h
  obtain ⟨F, m, st, vs, w, r, q, hv, fin⟩ := h
  simp only [blt] at hv
  split at hv <;> try cases hv
  · rename_i v _
    obtain ⟨n, hn, rfl⟩ := Option.map_eq_some_iff.mp hv
    obtain ⟨x, rfl, rx⟩ := reps1 q
    obtain ⟨a, ys, rfl, q2, hq⟩ := seq_of r rx hn
    refine call_list_of pins s σ H _ _ Q I rv ⟨a, ys, rfl, ?_, fin.lst r q2⟩
    rcases hq with ⟨h1, h2⟩ | ⟨h1, h2⟩
    · exact .inr h1
    · exact .inl (SqL.of h1)
theorem cr_all' (hc : X.calm = true) : CallR X (.builtin "all") (rL X G (blt .all)) := by
  intro pins s σ H xs us Q I rv h
  obtain ⟨F, m, st, vs, w, r, q, hv, fin⟩ := h
  simp only [blt] at hv
  split at hv <;> try cases hv
  · obtain ⟨n, hn, rfl⟩ := Option.map_eq_some_iff.mp hv
    obtain ⟨x, rfl, rx⟩ := reps1 q
    cases rx with
    | lst h q2 =>
      have e := bools_of q2 hn
      subst e
      exact cr_all hc pins s σ H _ _ Q I rv ⟨_, _, rfl, SqL.of (r.fz.lst h), fin.now r (.bl _)⟩
theorem cr_any' (hc : X.calm = true) : CallR X (.builtin "any") (rL X G (blt .any)) := by
  intro pins s σ H xs us Q I rv h
  obtain ⟨F, m, st, vs, w, r, q, hv, fin⟩ := h
  simp only [blt] at hv
  split at hv <;> try cases hv
  · obtain ⟨n, hn, rfl⟩ := Option.map_eq_some_iff.mp hv
    obtain ⟨x, rfl, rx⟩ := reps1 q
    cases rx with
    | lst h q2 =>
      have e := bools_of q2 hn
      subst e
      exact cr_any hc pins s σ H _ _ Q I rv ⟨_, _, rfl, SqL.of (r.fz.lst h), fin.now r (.bl _)⟩
theorem cr_sum' (hc : X.calm = true) : CallR X (.builtin "sum") (rL X G (blt .sum)) := by
  intro pins s σ H xs us Q I rv h
  obtain ⟨F, m, st, vs, w, r, q, hv, fin⟩ := h
  simp only [blt] at hv
  split at hv <;> try cases hv
  · obtain ⟨n, hn, rfl⟩ := Option.map_eq_some_iff.mp hv
    obtain ⟨x, rfl, rx⟩ := reps1 q
    cases rx with
    | lst h q2 =>
      have e := ints_of q2 hn
      subst e
      exact cr_sum hc pins s σ H _ _ Q I rv ⟨_, _, rfl, SqL.of (r.fz.lst h), fin.now r (.int _)⟩
  · obtain ⟨n, hn, rfl⟩ := Option.map_eq_some_iff.mp hv
    obtain ⟨x, rfl, rx⟩ := reps1 q
    cases rx with
    | tup h q2 =>
      have e := ints_of q2 hn
      subst e
      exact cr_sumT hc pins s σ H _ _ Q I rv ⟨_, _, rfl, SqT.of (r.fz.tup h), fin.now r (.int _)⟩
theorem cr_abs : CallR X (.builtin "abs") (rL X G (blt .abs)) := by
  intro pins s σ H xs us Q I rv h
  obtain ⟨F, m, st, vs, w, r, q, hv, fin⟩ := h
  simp only [blt] at hv
  split at hv <;> try cases hv
  · obtain ⟨x, rfl, rx⟩ := reps1 q
    cases rx
    exact call_abs pins s σ H _ _ Q I rv ⟨_, rfl, fin.now r (.int _)⟩
theorem cr_int : CallR X (.type "int") (rL X G (blt .int)) := by
  intro pins s σ H xs us Q I rv h
  obtain ⟨F, m, st, vs, w, r, q, hv, fin⟩ := h
  simp only [blt] at hv
  split at hv <;> try cases hv
  · obtain ⟨x, rfl, rx⟩ := reps1 q
    cases rx
    exact call_int1 pins s σ H _ _ Q I rv (.inl ⟨_, rfl, fin.now r (.int _)⟩)
  · obtain ⟨x, rfl, rx⟩ := reps1 q
    cases rx
    exact call_int1 pins s σ H _ _ Q I rv (.inr ⟨_, rfl, fin.now r (.int _)⟩)
theorem cr_max2 (hc : X.calm = true) : CallR X (.builtin "max") (rL X G (blt .max2)) := by
  intro pins s σ H xs us Q I rv h
  obtain ⟨F, m, st, vs, w, r, q, hv, fin⟩ := h
  simp only [blt] at hv
  split at hv <;> try cases hv
  · obtain ⟨x, y, rfl, rx, ry⟩ := reps2 q
    cases rx; cases ry
    exact call_max2 hc pins s σ H _ _ Q I rv ⟨_, _, rfl, fin.now r (.int _)⟩
theorem cr_min2 (hc : X.calm = true) : CallR X (.builtin "min") (rL X G (blt .min2)) := by
  intro pins s σ H xs us Q I rv h
  obtain ⟨F, m, st, vs, w, r, q, hv, fin⟩ := h
  simp only [blt] at hv
  split at hv <;> try cases hv
  · obtain ⟨x, y, rfl, rx, ry⟩ := reps2 q
    cases rx; cases ry
    exact call_min2 hc pins s σ H _ _ Q I rv ⟨_, _, rfl, fin.now r (.int _)⟩

theorem cr_str : CallR X (.type "str") (rL X G (blt .str)) := by
  intro pins s σ H xs us Q I rv h
  obtain ⟨F, m, st, vs, w, r, q, hv, fin⟩ := h
  simp only [blt] at hv
  split at hv <;> try cases hv
  · obtain ⟨x, rfl, rx⟩ := reps1 q
    cases rx
    obtain ⟨h1, h2⟩ := ite_some hv
    subst h2
    exact call_str_int pins s σ H _ _ Q I rv ⟨_, rfl, h1, fin.now r (.str _)⟩
theorem cr_repr (hg : X.A.guards = some []) (hu : X.A.units + 70 < cLine) : CallR X (.builtin "repr") (rL X G (blt .repr)) := by
  intro pins s σ H xs us Q I rv h
  obtain ⟨F, m, st, vs, w, r, q, hv, fin⟩ := h
  obtain ⟨v, rfl⟩ : ∃ v, vs = [v] := by
    match vs, hv with
    | [v], _ => exact ⟨v, rfl⟩
    | [], hv => cases hv
    | _ :: _ :: _, hv => cases hv
  simp only [blt] at hv
  obtain ⟨x, rfl, rx⟩ := reps1 q
  obtain ⟨u, rfl, ru⟩ := vals1 rv
  have go : ∀ {d : PyData} {a : Addr}, x = .ref a → Dp X.K H x d → SeqAt.shaped d = true → d.showable = true → d.hasDict = false → d.shown.length ≤ sizeLine → w = .str d.shown → wpAny (model X.prog X.w) X.A (call (.builtin "repr") [u]) (EP X pins σ Q) X.xe s := by
    intro d a ex hd h1 h2 h3 h4 e
    subst e ex
    obtain ⟨as, r1⟩ := Dp.reads I d _ u hd ru
    cases (show u = .ref a from ru)
    have hdep : d.depth ≤ 64 := by
      unfold SeqAt.shaped at h1
      simp only [Bool.and_eq_true, decide_eq_true_eq] at h1
      exact h1.2
    exact PySem.repr_of_reads' r1 h2 (fun z => by rw [h3] at z; cases z) hg (by omega) (fun _ _ e => e) (fun h' u tk hk => ⟨.str d.shown, H, I.kept hk, ⟨_, rfl⟩, fin.now r (.str _)⟩) h4
  cases v with
  | non =>
    cases hv; cases rx
    cases (show u = .none from ru)
    exact PySem.P.repr_of_none ⟨.str _, H, I.tok _, ⟨_, rfl⟩, fin.now r (.str _)⟩
  | bl b =>
    cases hv; cases rx
    cases (show u = .bool b from ru)
    exact PySem.P.repr_of_bool ⟨.str _, H, I.tok _, ⟨_, rfl⟩, fin.now r (.str _)⟩
  | tup xs =>
    simp only [shownV] at hv
    split at hv
    · rename_i d hd
      obtain ⟨⟨h1, h2, h3, h4⟩, h5⟩ := ite_some hv
      have hdp := dp_of r.fz rx hd
      cases rx
      exact go rfl hdp h1 h2 h3 h4 h5.symm
    · cases hv
  | lst xs =>
    simp only [shownV] at hv
    split at hv
    · rename_i d hd
      obtain ⟨⟨h1, h2, h3, h4⟩, h5⟩ := ite_some hv
      have hdp := dp_of r.fz rx hd
      cases rx
      exact go rfl hdp h1 h2 h3 h4 h5.symm
    · cases hv
  | _ => cases hv

/-! ### sorted, min -/
theorem sort_uniq {α : Type} {le : α → α → Prop} (anti : ∀ a b, le a b → le b a → a = b) : ∀ {l m : List α}, l.Perm m → l.Pairwise le → m.Pairwise le → l = m
  | [], m, p, _, _ => (List.Perm.nil_eq p)
  | a :: l, [], p, _, _ => absurd p.length_eq (by simp)
  | a :: l, b :: m, p, h1, h2 => by
    obtain ⟨a1, a2⟩ := List.pairwise_cons.mp h1
    obtain ⟨b1, b2⟩ := List.pairwise_cons.mp h2
    have e : a = b := by
      rcases List.mem_cons.mp (p.mem_iff.mp (.head _) : a ∈ b :: m) with e | ha
      · exact e
      · rcases List.mem_cons.mp (p.mem_iff.mpr (.head _) : b ∈ a :: l) with e | hb
        · exact e.symm
        · exact anti a b (a1 b hb) (b1 a ha)
    subst e
    rw [sort_uniq anti p.cons_inv a2 b2]
theorem sortI_uniq {l ns : List Int} (p : l.Perm ns) (h : l.Pairwise (· ≤ ·)) : l = sortI ns :=
  sort_uniq (fun a b h1 h2 => by omega) (p.trans (List.mergeSort_perm _ _).symm) h ((List.pairwise_mergeSort (le := fun a b => decide (a ≤ b)) (fun a b c h1 h2 => by simp at *; omega) (fun a b => by simp; omega) ns).imp fun h => of_decide_eq_true h)
theorem lexP_iff {p q : Int × Int} : lexP p q = true ↔ p.1 < q.1 ∨ (p.1 = q.1 ∧ p.2 < q.2) := by
  unfold lexP
  by_cases e : p.1 = q.1
  · rw [if_pos e, decide_eq_true_eq]; omega
  · rw [if_neg e, decide_eq_true_eq]; omega
theorem lexP_no {p q : Int × Int} : lexP p q = false ↔ ¬ (p.1 < q.1 ∨ (p.1 = q.1 ∧ p.2 < q.2)) := by
  rw [← lexP_iff, Bool.not_eq_true]
theorem sortP_pw (ps : List (Int × Int)) : (sortP ps).Pairwise fun a b => lexP b a = false :=
  (List.pairwise_mergeSort (le := fun a b => !lexP b a) (fun a b c h1 h2 => by
    simp only [Bool.not_eq_true', lexP_no] at *; omega) (fun a b => by
    cases h1 : lexP b a with
    | false => rfl
    | true =>
      have : lexP a b = false := by rw [lexP_no]; rw [lexP_iff] at h1; omega
      simp [this]) ps).imp fun h => by simpa using h
theorem sortP_uniq {l ps : List (Int × Int)} (p : l.Perm ps) (h : l.Pairwise fun a b => lexP b a = false) : l = sortP ps :=
  sort_uniq (fun a b h1 h2 => by
    rw [lexP_no] at h1 h2
    exact Prod.ext (by omega) (by omega)) (p.trans (List.mergeSort_perm _ _).symm) h (sortP_pw ps)
/-- pairs of numbers as they lie there -/
theorem pairs_rep {F : Hp} {m : Nat → Addr} {L : Nat} : ∀ {xs : List Val} {ys : List V} {ps : List (Int × Int)}, Reps X.K G F m L xs ys → pairsV xs = some ps → xs = ps.map pvV ∧ ∃ k : V → Int × Int, ys.map k = ps ∧ ∀ y ∈ ys, ∃ t, y = .ref t ∧ F t = some (.tup [.int (k y).1, .int (k y).2]) := by
  intro xs ys ps q e
  have all : ∀ {xs : List Val} {ys : List V} {ps : List (Int × Int)}, Reps X.K G F m L xs ys → pairsV xs = some ps → xs = ps.map pvV ∧ ys.length = ps.length ∧ ∀ (i : Nat) y p, ys[i]? = some y → ps[i]? = some p → ∃ t, y = .ref t ∧ F t = some (.tup [.int p.1, .int p.2]) := by
    intro xs
    induction xs with
    | nil => intro ys ps q e; cases q; simp [pairsV] at e; subst e; exact ⟨rfl, rfl, fun i y p h => by simp at h⟩
    | cons x xs ih =>
      intro ys ps q e
      cases q with
      | cons r t =>
        unfold pairsV at e
        split at e
        · rename_i h; cases h
        · rename_i a b xs' h
          cases h
          obtain ⟨qs, e1, rfl⟩ := Option.map_eq_some_iff.mp e
          obtain ⟨h1, h2, h3⟩ := ih t e1
          refine ⟨by rw [h1]; rfl, by simp [h2], fun i y p hy hp => ?_⟩
          cases i with
          | zero =>
            simp at hy hp
            subst hy hp
            cases r with
            | tup ht qt =>
              cases qt with
              | cons ra qt => cases qt with
                | cons rb qt =>
                  cases qt; cases ra; cases rb
                  exact ⟨_, rfl, ht⟩
          | succ i => exact h3 i y p (by simpa using hy) (by simpa using hp)
        · cases e
  obtain ⟨h1, h2, h3⟩ := all q e
  classical
  refine ⟨h1, fun y => match y with
    | .ref t => match F t with
      | some (.tup [.int a, .int b]) => (a, b)
      | _ => (0, 0)
    | _ => (0, 0), ?_, fun y hy => ?_⟩
  · apply List.ext_getElem?
    intro i
    rw [List.getElem?_map]
    cases hy : ys[i]? with
    | none =>
      have : ps[i]? = none := by rw [List.getElem?_eq_none_iff] at hy ⊢; omega
      rw [this]; rfl
    | some y =>
      have hl : i < ps.length := by have := (List.getElem?_eq_some_iff.mp hy).1; omega
      have hp : ps[i]? = some ps[i] := List.getElem?_eq_getElem hl
      obtain ⟨t, e1, e2⟩ := h3 i y _ hy hp
      rw [hp]
      subst e1
      simp [e2]
  · obtain ⟨i, hi⟩ := List.mem_iff_getElem?.mp hy
    have hl : i < ps.length := by have := (List.getElem?_eq_some_iff.mp hi).1; omega
    obtain ⟨t, e1, e2⟩ := h3 i y _ hi (List.getElem?_eq_getElem hl)
    subst e1
    exact ⟨t, rfl, by simp [e2]⟩
theorem reps_pairs {F : Hp} {m : Nat → Addr} {L : Nat} {k : V → Int × Int} : ∀ {zs : List V}, (∀ y ∈ zs, ∃ t, y = .ref t ∧ F t = some (.tup [.int (k y).1, .int (k y).2])) → Reps X.K G F m L ((zs.map k).map pvV) zs
  | [], _ => .nil
  | z :: zs, h => by
    obtain ⟨t, e, ht⟩ := h z (.head _)
    refine .cons ?_ (reps_pairs fun y hy => h y (.tail _ hy))
    show Rep X.K G F m L (.tup [.int (k z).1, .int (k z).2]) z
    rw [e] at ht ⊢
    exact .tup ht (.cons (.int _) (.cons (.int _) .nil))
/-! sorted, of data that are alike -/
def encP (b : Val × V) : PyData := (dataOf b.1).getD .none
theorem encs_of {F : Hp} {m : Nat → Addr} {L : Nat} : ∀ {xs : List Val} {ys : List V} {ds : List PyData}, Reps X.K G F m L xs ys → dataOfs xs = some ds → (xs.zip ys).map encP = ds
  | [], ys, ds, q, h => by cases h; cases q; rfl
  | x :: xs, ys, ds, q, h => by
    cases q with
    | cons r t =>
      simp only [dataOfs, Option.bind_eq_some_iff, Option.map_eq_some_iff] at h
      obtain ⟨d, h1, ds, h2, rfl⟩ := h
      rw [List.zip_cons_cons, List.map_cons, encs_of t h2]
      simp only [encP, h1, Option.getD_some]
theorem each_of {F : Hp} {m : Nat → Addr} {L : Nat} : ∀ {xs : List Val} {ys : List V} {us : List Value}, Reps X.K G F m L xs ys → Vals ys us → PySem.W.EachIs (fun u (b : Val × V) => RelV b.2 u) us (xs.zip ys)
  | [], ys, us, q, v => by cases q; cases v; exact .nil
  | x :: xs, ys, us, q, v => by
    cases q with
    | cons r t => cases v with
      | cons r2 t2 => exact .cons r2 (each_of t t2)
theorem vals_each : ∀ {bs : List (Val × V)} {us : List Value}, PySem.W.EachIs (fun u (b : Val × V) => RelV b.2 u) us bs → Vals (bs.map (·.2)) us
  | [], us, h => by cases h; exact .nil
  | b :: bs, us, h => by
    cases h with
    | cons r t => exact .cons r (vals_each t)
theorem zip_rep {F : Hp} {m : Nat → Addr} {L : Nat} : ∀ {xs : List Val} {ys : List V}, Reps X.K G F m L xs ys → ∀ {b : Val × V}, b ∈ xs.zip ys → Rep X.K G F m L b.1 b.2
  | [], ys, q, b, h => by simp at h
  | x :: xs, ys, q, b, h => by
    cases q with
    | cons r t =>
      rw [List.zip_cons_cons] at h
      rcases List.mem_cons.mp h with e | h
      · rw [e]; exact r
      · exact zip_rep t h
theorem reps_each {F : Hp} {m : Nat → Addr} {L : Nat} : ∀ {bs : List (Val × V)}, (∀ b ∈ bs, Rep X.K G F m L b.1 b.2) → Reps X.K G F m L (bs.map (·.1)) (bs.map (·.2))
  | [], _ => .nil
  | b :: bs, h => .cons (h b (.head _)) (reps_each fun c hc => h c (.tail _ hc))
theorem depth_in : ∀ {ds : List PyData} {d : PyData}, d ∈ ds → d.depth ≤ PyData.depthAll ds
  | e :: ds, d, h => by
    simp only [PyData.depthAll]
    rcases List.mem_cons.mp h with z | z
    · rw [z]; omega
    · have := depth_in z; omega
theorem dataOfs_mem : ∀ {xs : List Val} {ds : List PyData}, dataOfs xs = some ds → ∀ x ∈ xs, ∃ d, dataOf x = some d
  | x :: xs, ds, h, y, hy => by
    simp only [dataOfs, Option.bind_eq_some_iff, Option.map_eq_some_iff] at h
    obtain ⟨d, h1, ds, h2, rfl⟩ := h
    rcases List.mem_cons.mp hy with e | hy
    · rw [e]; exact ⟨d, h1⟩
    · exact dataOfs_mem h2 y hy
theorem zip_fst {F : Hp} {m : Nat → Addr} {L : Nat} : ∀ {xs : List Val} {ys : List V}, Reps X.K G F m L xs ys → (xs.zip ys).map (·.1) = xs
  | [], ys, q => by simp
  | x :: xs, ys, q => by
    cases q with
    | cons r t => rw [List.zip_cons_cons, List.map_cons, zip_fst t]
theorem sort_map {F : Hp} {m : Nat → Addr} {L : Nat} {xs : List Val} {ys : List V} {ds : List PyData} (q : Reps X.K G F m L xs ys) (h : dataOfs xs = some ds) : ((xs.zip ys).mergeSort (PySem.W.dataLe false encP)).map (·.1) = xs.mergeSort leB := by
  have key := List.map_mergeSort (r := PySem.W.dataLe false encP) (s := leB) (f := fun b : Val × V => b.1) (l := xs.zip ys) (fun a ha b hb => by
    have ma : a.1 ∈ xs := by rw [← zip_fst q]; exact List.mem_map.mpr ⟨a, ha, rfl⟩
    have mb : b.1 ∈ xs := by rw [← zip_fst q]; exact List.mem_map.mpr ⟨b, hb, rfl⟩
    obtain ⟨da, ea⟩ := dataOfs_mem h _ ma
    obtain ⟨db, eb⟩ := dataOfs_mem h _ mb
    rw [PySem.W.dataLe_eq]
    simp only [leB, ltB, encP, ea, eb, Option.getD_some, cond_false])
  rw [zip_fst q] at key
  exact key
theorem cr_sorted' (hu : X.A.units + 70 < cLine) : CallR X (.builtin "sorted") (rL X G (blt .sorted)) := by
  intro pins s σ H xs us Q I rv h
  obtain ⟨F, m, st, vs, w, r, q, hv, fin⟩ := h
  simp only [blt] at hv
  split at hv <;> try cases hv
  · rename_i xs0
    obtain ⟨x, rfl, rx⟩ := reps1 q
    cases rx with
    | lst h q2 =>
      split at hv
      · rename_i ns hn
        cases hv
        have e := ints_of q2 hn
        subst e
        refine cr_sortedI pins s σ H _ _ Q I rv ⟨_, ns, rfl, SqL.of (r.fz.lst h), fun ns' p hp1 hp2 hp => ?_⟩
        rw [sortI_uniq hp1 hp2]
        exact fin.lst r (reps_ints _) p hp
      · split at hv
        · rename_i ps hp
          cases hv
          obtain ⟨e1, k, e2, e3⟩ := pairs_rep q2 hp
          refine cr_sortedPO pins s σ H _ _ Q I rv ⟨_, _, k, rfl, SqL.of (r.fz.lst h), fun y hy => ?_, fun zs p hs hb hp => ?_⟩
          · obtain ⟨t, a, b⟩ := e3 y hy
            exact ⟨t, a, r.fz.tup b⟩
          · have pz := hb.perm
            have eq : zs.map k = sortP ps := sortP_uniq (by rw [← e2]; exact pz.map k) (List.pairwise_map.mpr hs)
            have rz : Reps X.K G F m st.length ((sortP ps).map pvV) zs := by
              rw [← eq]
              exact reps_pairs fun y hy => e3 y (pz.mem_iff.mp hy)
            exact fin.lst r rz p hp
        · obtain ⟨zs, hz, rfl⟩ := Option.map_eq_some_iff.mp hv
          unfold sortV at hz
          split at hz
          · rename_i ds hds
            obtain ⟨⟨hal, hso, hdep⟩, hw⟩ := ite_some hz
            subst hw
            obtain ⟨its, rel, hl, hsz⟩ := I.list (SqL.of (r.fz.lst h))
            obtain ⟨u, rfl, ru⟩ := vals1 rv
            obtain rfl := ru
            obtain ⟨as, ra⟩ := Dp.readsAll I ds _ its (dps_of r.fz q2 hds) rel
            rw [← encs_of q2 hds] at ra hal hso
            have er := PySem.W.readsAll_each encP ra
            refine PySem.W.sorted_data hl.isList (each_of q2 rel) er hal hso (by have := q2.length; rw [List.length_zip]; omega) (fun b hb => ?_) fun out h1 h2 => ?_
            · have : (encP b).depth ≤ PyData.depthAll ds := by
                rw [← encs_of q2 hds]
                exact depth_in (List.mem_map.mpr ⟨b, hb, rfl⟩)
              omega
            · obtain ⟨ep, he'⟩ := PyProof.Rows.sortedAll_at s.heap its out.toArray
              have hv2 := vals_each h2
              have hr2 : Reps X.K G F m st.length (((xs0.zip _).mergeSort (PySem.W.dataLe false encP)).map (·.1)) (((xs0.zip _).mergeSort (PySem.W.dataLe false encP)).map (·.2)) := reps_each fun b hb => zip_rep q2 ((List.mergeSort_perm _ _).mem_iff.mp hb)
              have em := sort_map q2 hds
              rw [em] at hr2
              exact ⟨.ref _, upd H (s.heap.objs.size + 1) (.lst _), I.laid (t' := s.toks) (fun _ _ => PyProof.Rows.sortedAll_old) (Nat.le_succ _) ⟨by
                have := q2.length
                rw [List.length_map, List.length_mergeSort, List.length_zip]; omega, out, ep, hv2, he'⟩, rfl, fin.lst r hr2 _ (I.hok.fresh (Nat.le_succ _))⟩
          · cases hz
theorem pairs_dat : ∀ ps : List (Int × Int), dataOfs (ps.map pvV) = some (ps.map (PySem.W.Datum.toD (α := Int × Int)))
  | [] => rfl
  | p :: ps => by
    simp only [List.map_cons, dataOfs, pairs_dat ps]
    rfl
mutual
theorem data_inj : ∀ (d : PyData) {a b : Val}, dataOf a = some d → dataOf b = some d → a = b
  | .none, a, b, h1, h2 => by cases a <;> simp [dataOf] at h1 <;> cases b <;> simp [dataOf] at h2 <;> rfl
  | .bool c, a, b, h1, h2 => by cases a <;> simp [dataOf] at h1 <;> cases b <;> simp [dataOf] at h2 <;> rw [h1, h2]
  | .int c, a, b, h1, h2 => by cases a <;> simp [dataOf] at h1 <;> cases b <;> simp [dataOf] at h2 <;> rw [h1, h2]
  | .str c, a, b, h1, h2 => by cases a <;> simp [dataOf] at h1 <;> cases b <;> simp [dataOf] at h2 <;> rw [h1, h2]
  | .tuple ds, a, b, h1, h2 => by
    cases a <;> simp [dataOf] at h1 <;> cases b <;> simp [dataOf] at h2
    rw [datas_inj ds h1 h2]
  | .list ds, a, b, h1, h2 => by
    cases a <;> simp [dataOf] at h1 <;> cases b <;> simp [dataOf] at h2
    rw [datas_inj ds h1 h2]
  | .dict ds, a, b, h1, h2 => by cases a <;> simp [dataOf] at h1
theorem datas_inj : ∀ (ds : List PyData) {a b : List Val}, dataOfs a = some ds → dataOfs b = some ds → a = b
  | [], a, b, h1, h2 => by
    cases a with
    | nil =>
      cases b with
      | nil => rfl
      | cons y b =>
        simp only [dataOfs, Option.bind_eq_some_iff, Option.map_eq_some_iff] at h2
        obtain ⟨_, _, _, _, e⟩ := h2
        cases e
    | cons x a =>
      simp only [dataOfs, Option.bind_eq_some_iff, Option.map_eq_some_iff] at h1
      obtain ⟨_, _, _, _, e⟩ := h1
      cases e
  | d :: ds, a, b, h1, h2 => by
    cases a with
    | nil => simp [dataOfs] at h1
    | cons x a =>
      cases b with
      | nil => simp [dataOfs] at h2
      | cons y b =>
        simp only [dataOfs, Option.bind_eq_some_iff, Option.map_eq_some_iff] at h1 h2
        obtain ⟨d1, a1, ds1, a2, e1⟩ := h1
        obtain ⟨d2, b1, ds2, b2, e2⟩ := h2
        cases e1
        cases e2
        rw [data_inj d a1 b1, datas_inj ds a2 b2]
end
theorem minL_data : ∀ (xs : List Val) (x : Val) {d : PyData} {ds : List PyData}, dataOf x = some d → dataOfs xs = some ds → dataOf (minL x xs) = some (PySem.W.minD d ds)
  | [], x, d, ds, h1, h2 => by
    cases h2
    exact h1
  | y :: ys, x, d, ds, h1, h2 => by
    simp only [dataOfs, Option.bind_eq_some_iff, Option.map_eq_some_iff] at h2
    obtain ⟨e, h3, es, h4, rfl⟩ := h2
    unfold minL PySem.W.minD
    rw [List.foldl_cons, List.foldl_cons]
    refine minL_data ys _ ?_ h4
    have : ltB y x = PySem.W.dataLt e d := by simp only [ltB, h3, h1]
    rw [this]
    split
    · exact h3
    · exact h1
theorem datas_at : ∀ {xs : List Val} {ds : List PyData}, dataOfs xs = some ds → ∀ {i : Nat} {v : Val}, xs[i]? = some v → dataOf v = some (ds.getD i .none)
  | [], _, _, _, _, h => by simp at h
  | x :: xs, ds, h, i, v, hv => by
    simp only [dataOfs, Option.bind_eq_some_iff, Option.map_eq_some_iff] at h
    obtain ⟨e, h3, es, h4, rfl⟩ := h
    cases i with
    | zero =>
      cases hv
      exact h3
    | succ i =>
      rw [List.getElem?_cons_succ] at hv
      exact datas_at h4 hv
theorem canLay_at : ∀ {ds : List PyData}, PyData.canLayAll0 ds = true → ∀ i, (ds.getD i .none).canLay0 = true
  | [], _, i => by simp; rfl
  | d :: ds, h, 0 => by
    simp only [PyData.canLayAll0, Bool.and_eq_true] at h
    exact h.1
  | d :: ds, h, i + 1 => by
    simp only [PyData.canLayAll0, Bool.and_eq_true] at h
    exact canLay_at h.2 i
theorem cr_min1 (hc : X.calm = true) (hu : X.A.units + 70 < cLine) : CallR X (.builtin "min") (rL X G (blt .min)) := by
  intro pins s σ H xs us Q I rv h
  obtain ⟨F, m, st, vs, w, r, q, hv, fin⟩ := h
  simp only [blt] at hv
  split at hv <;> try cases hv
  · rename_i xs0
    split at hv
    · rename_i p0 ps hp
      cases hv
      obtain ⟨x, rfl, rx⟩ := reps1 q
      cases rx with
      | lst h q2 =>
        rename_i a ys
        obtain ⟨e1, k, e2, e3⟩ := pairs_rep q2 hp
        obtain ⟨its, rel, hl, hz⟩ := I.list (SqL.of (r.fz.lst h) : SqL X.K H a ys)
        obtain ⟨u, rfl, ru⟩ := vals1 rv
        obtain rfl : u = Value.ref a := ru
        have dps : ∀ {zs : List V}, (∀ y ∈ zs, ∃ t, y = .ref t ∧ F t = some (.tup [.int (k y).1, .int (k y).2])) → DpAll X.K H zs ((zs.map k).map (PySem.W.Datum.toD (α := Int × Int))) := fun {zs} hz =>
          dps_of r.fz (reps_pairs (X := X) (G := G) (m := m) (L := st.length) hz) (pairs_dat _)
        obtain ⟨as, ra⟩ := Dp.readsAll I _ ys its (dps e3) rel
        have ra0 := ra
        rw [e2, List.map_cons] at ra
        have dep : PyData.depthAll ((p0 :: ps).map (PySem.W.Datum.toD (α := Int × Int))) ≤ 1 := PySem.W.depthAll_map (α := Int × Int) _
        refine PySem.W.min_list_data (vs := its.toArray) (I.ok.hd hc) hl.isList ra (PySem.W.alikeAll_datum (α := Int × Int) (p0 :: ps)) (by rw [← List.map_cons]; omega) fun i v h' tk bs hi rr hk => ?_
        have hi' : its[i]? = some v := by simpa using hi
        have hli0 : i < ys.length := by rw [rel.length]; exact (List.getElem?_eq_some_iff.mp hi').1
        obtain ⟨y, hy⟩ : ∃ y, ys[i]? = some y := ⟨_, List.getElem?_eq_getElem hli0⟩
        obtain ⟨u2, hu2, ry⟩ := rel.get hy
        rw [hi'] at hu2
        cases hu2
        obtain ⟨t, ey, ht⟩ := e3 y (List.mem_of_getElem? hy)
        obtain ⟨bs2, r2, _, _, _⟩ := PySem.W.readsAll_at ra0 i v (by simpa using hi')
        have hli : i < ys.length := (List.getElem?_eq_some_iff.mp hy).1
        have eD : ((ys.map k).map (PySem.W.Datum.toD (α := Int × Int))).getD i .none = PySem.W.Datum.toD (k y) := by
          rw [List.getD_eq_getElem?_getD, List.getElem?_map, List.getElem?_map, hy]; rfl
        rw [eD] at r2
        have em : PySem.W.minD (PySem.W.Datum.toD p0) (ps.map (PySem.W.Datum.toD (α := Int × Int))) = PySem.W.Datum.toD (minP p0 ps) := PySem.W.minD_map (α := Int × Int) p0 ps
        rw [em] at rr
        have un := PySem.SeqAt.Reads.unique (PySem.W.Datum.toD (k y)) _ v _ _ rfl (PySem.W.reads_keeps hk r2) rr
        have ek : k y = minP p0 ps := by
          have un : PyData.tuple [.int (k y).1, .int (k y).2] = .tuple [.int (minP p0 ps).1, .int (minP p0 ps).2] := un
          injection un with u1
          injection u1 with u1 u2
          injection u2 with u2 _
          injection u1 with u1
          injection u2 with u2
          exact Prod.ext u1 u2
        refine ⟨y, H, I.kept hk, ry, ?_⟩
        refine fin.now r (z := y) ?_
        rw [← ek]
        have := reps_pairs (X := X) (G := G) (F := F) (m := m) (L := st.length) (k := k) (zs := [y]) (fun z hz => by simp at hz; subst hz; exact ⟨t, ey, ht⟩)
        cases this with
        | cons a _ => exact a
    · unfold minV at hv
      split at hv
      · cases hv
      · rename_i xs0 x0 xs1 _
        split at hv
        · rename_i ds hds
          obtain ⟨⟨hal, hdep, hlay⟩, hw⟩ := ite_some hv
          subst hw
          obtain ⟨x, rfl, rx⟩ := reps1 q
          cases rx with
          | lst h q2 =>
            rename_i a ys
            obtain ⟨its, rel, hl, hz⟩ := I.list (SqL.of (r.fz.lst h) : SqL X.K H a ys)
            obtain ⟨u, rfl, ru⟩ := vals1 rv
            obtain rfl : u = Value.ref a := ru
            obtain ⟨as, ra⟩ := Dp.readsAll I ds ys its (dps_of r.fz q2 hds) rel
            have hds' := hds
            simp only [dataOfs, Option.bind_eq_some_iff, Option.map_eq_some_iff] at hds'
            obtain ⟨d0, h0, ds1, h1, rfl⟩ := hds'
            refine PySem.W.min_list_data (vs := its.toArray) (I.ok.hd hc) hl.isList ra hal (by omega) fun i v h' tk bs hi rr hk => ?_
            have hi' : its[i]? = some v := by simpa using hi
            have hli0 : i < ys.length := by rw [rel.length]; exact (List.getElem?_eq_some_iff.mp hi').1
            obtain ⟨y, hy⟩ : ∃ y, ys[i]? = some y := ⟨_, List.getElem?_eq_getElem hli0⟩
            obtain ⟨u2, hu2, ry⟩ := rel.get hy
            rw [hi'] at hu2
            cases hu2
            obtain ⟨bs2, r2, _, _, _⟩ := PySem.W.readsAll_at ra i v (by simpa using hi')
            obtain ⟨xv, hx, rep⟩ := q2.get' hy
            have dx := datas_at hds hx
            have un := PySem.SeqAt.Reads.unique _ _ v _ _ (canLay_at hlay i) (PySem.W.reads_keeps hk r2) rr
            have dm := minL_data xs1 x0 h0 h1
            rw [← un] at dm
            have ev := data_inj _ dx dm
            refine ⟨y, H, I.kept hk, ry, fin.now r (z := y) ?_⟩
            rw [← ev]
            exact rep
        · cases hv
/-! ### methods -/
def rM (X : Cx) (G : GX) (k : Mth) : V → List V → Hp → VK → Prop := fun x xs H Q =>
  ∃ F m st v vs, RelH X.K G F m st H ∧ Rep X.K G F m st.length v x ∧ Reps X.K G F m st.length vs xs ∧
    PostG X.K G (fun _ _ _ _ _ _ => True) (fun w F m st H => ∀ y, Rep X.K G F m st.length w y → Q y H) F m st H (mth k v vs st)
theorem mt_app : MtM X "list.append" (rM X G .append) := by
  intro pins s σ H x xs v us Q I rx rs h
  obtain ⟨F, m, st, w, ws, r, q, qs, p⟩ := h
  simp only [mth] at p
  split at p <;> try exact p.elim
  · rename_i n y
    cases q with
    | ref hn e =>
      subst e
      obtain ⟨z, rfl, rz⟩ := reps1 qs
      split at p
      · rename_i zs hk
        split at p
        · rename_i hlen
          obtain ⟨ys, h1, h2⟩ := r.cell n _ hk
          have hl : live st n := ⟨_, hk, by simp⟩
          exact mt_append pins s σ H _ _ v us Q I rx rs ⟨_, ys, z, rfl, rfl, h1, by rw [← h2.length]; exact hlen, p _ _ _ (Ext.write r hl) (r.write hl ⟨_, rfl, h2.append (.cons rz .nil)⟩) _ .non⟩
        · exact p.elim
      · exact p.elim
theorem mt_ext : MtM X "list.extend" (rM X G .extend) := by
  intro pins s σ H x xs v us Q I rx rs h
  obtain ⟨F, m, st, w, ws, r, q, qs, p⟩ := h
  simp only [mth] at p
  split at p <;> try exact p.elim
  · rename_i n y
    cases q with
    | ref hn e =>
      subst e
      obtain ⟨z, rfl, rz⟩ := reps1 qs
      cases rz with
      | lst hz qz =>
        split at p
        · rename_i zs hk
          split at p
          · rename_i hlen
            obtain ⟨ys, h1, h2⟩ := r.cell n _ hk
            have hl : live st n := ⟨_, hk, by simp⟩
            exact mt_extend pins s σ H _ _ v us Q I rx rs ⟨_, _, ys, _, rfl, rfl, h1, r.fz.lst hz, by rw [← h2.length, ← qz.length]; exact hlen, p _ _ _ (Ext.write r hl) (r.write hl ⟨_, rfl, h2.append qz⟩) _ .non⟩
          · exact p.elim
        · exact p.elim
theorem mt_pop' : MtM X "list.pop" (rM X G .pop) := by
  intro pins s σ H x xs v us Q I rx rs h
  obtain ⟨F, m, st, w, ws, r, q, qs, p⟩ := h
  simp only [mth] at p
  split at p <;> try exact p.elim
  · rename_i n
    cases q with
    | ref hn e =>
      subst e
      cases qs
      split at p
      · rename_i zs hk
        split at p
        · rename_i y hy
          obtain ⟨ys, h1, h2⟩ := r.cell n _ hk
          have hl : live st n := ⟨_, hk, by simp⟩
          obtain ⟨z, hz, rz⟩ := h2.get hy
          refine mt_pop pins s σ H _ _ v us Q I rx rs ⟨_, ys, z, rfl, rfl, h1, by rw [← h2.length]; exact hz, p _ _ _ (Ext.write r hl) (r.write hl ⟨_, rfl, h2.dropLast⟩) _ ?_⟩
          exact rz.mono (Same.refl F) (fun _ _ => rfl) (by simp [setCell])
        · exact p.elim
      · exact p.elim

/-! ### o[i] = v -/
def rSet (X : Cx) (G : GX) : V → V → V → Hp → (Hp → Prop) → Prop := fun x y z H Q =>
  ∃ F m st o i v, RelH X.K G F m st H ∧ Rep X.K G F m st.length o x ∧ Rep X.K G F m st.length i y ∧ Rep X.K G F m st.length v z ∧
    ∃ st', setIx o i v st = some st' ∧ ∀ H', Ext F m st H F m st' H' → RelH X.K G F m st' H' → Q H'
theorem repK_put {F : Hp} {m : Nat → Addr} {L : Nat} {k : L2.Key} {v : Val} {y : V} (r : Rep X.K G F m L v y) : ∀ {xs : List (L2.Key × Val)} {ys : List (L2.Key × V)}, RepK X.K G F m L xs ys → RepK X.K G F m L (putA xs k v) (putK ys k y) := by
  have any_eq : ∀ {xs : List (L2.Key × Val)} {ys : List (L2.Key × V)}, RepK X.K G F m L xs ys → (xs.any fun kv => decide (kv.1 = k)) = ys.any fun kv => decide (kv.1 = k) := by
    intro xs
    induction xs with
    | nil => intro ys h; cases h; rfl
    | cons p t ih => intro ys h; cases h with | cons _ q => simp only [List.any_cons]; rw [ih q]
  have map_ok : ∀ {xs : List (L2.Key × Val)} {ys : List (L2.Key × V)}, RepK X.K G F m L xs ys → RepK X.K G F m L (xs.map fun kv => if kv.1 = k then (kv.1, v) else kv) (ys.map fun kv => if kv.1 = k then (kv.1, y) else kv) := by
    intro xs
    induction xs with
    | nil => intro ys h; cases h; exact .nil
    | cons p t ih =>
      intro ys h
      cases h with
      | cons q1 q2 =>
        rename_i k' x' y' ys'
        simp only [List.map_cons]
        by_cases e : k' = k
        · simp only [e, if_true]; exact .cons r (ih q2)
        · simp only [e, if_false]; exact .cons q1 (ih q2)
  have app_ok : ∀ {xs : List (L2.Key × Val)} {ys : List (L2.Key × V)}, RepK X.K G F m L xs ys → RepK X.K G F m L (xs ++ [(k, v)]) (ys ++ [(k, y)]) := by
    intro xs
    induction xs with
    | nil => intro ys h; cases h; exact .cons r .nil
    | cons p t ih => intro ys h; cases h with | cons q1 q2 => exact .cons q1 (ih q2)
  intro xs ys h
  unfold putA putK
  rw [any_eq h]
  split
  · exact map_ok h
  · exact app_ok h
theorem repT_put {F : Hp} {m : Nat → Addr} {L : Nat} {k : List L2.Key} {v : Val} {y : V} (r : Rep X.K G F m L v y) : ∀ {xs : List (List L2.Key × Val)} {ys : List (List L2.Key × V)}, RepT X.K G F m L xs ys → RepT X.K G F m L (putA xs k v) (putK ys k y) := by
  have any_eq : ∀ {xs : List (List L2.Key × Val)} {ys : List (List L2.Key × V)}, RepT X.K G F m L xs ys → (xs.any fun kv => decide (kv.1 = k)) = ys.any fun kv => decide (kv.1 = k) := by
    intro xs
    induction xs with
    | nil => intro ys h; cases h; rfl
    | cons p t ih => intro ys h; cases h with | cons _ q => simp only [List.any_cons]; rw [ih q]
  have map_ok : ∀ {xs : List (List L2.Key × Val)} {ys : List (List L2.Key × V)}, RepT X.K G F m L xs ys → RepT X.K G F m L (xs.map fun kv => if kv.1 = k then (kv.1, v) else kv) (ys.map fun kv => if kv.1 = k then (kv.1, y) else kv) := by
    intro xs
    induction xs with
    | nil => intro ys h; cases h; exact .nil
    | cons p t ih =>
      intro ys h
      cases h with
      | cons q1 q2 =>
        rename_i k' x' y' ys'
        simp only [List.map_cons]
        by_cases e : k' = k
        · simp only [e, if_true]; exact .cons r (ih q2)
        · simp only [e, if_false]; exact .cons q1 (ih q2)
  have app_ok : ∀ {xs : List (List L2.Key × Val)} {ys : List (List L2.Key × V)}, RepT X.K G F m L xs ys → RepT X.K G F m L (xs ++ [(k, v)]) (ys ++ [(k, y)]) := by
    intro xs
    induction xs with
    | nil => intro ys h; cases h; exact .cons r .nil
    | cons p t ih => intro ys h; cases h with | cons q1 q2 => exact .cons q1 (ih q2)
  intro xs ys h
  unfold putA putK
  rw [any_eq h]
  split
  · exact map_ok h
  · exact app_ok h
theorem set_ix (C : Cxt X G W) : PSet X (rSet X G) := by
  have hu := C.units
  intro pins s σ H o i v ov iv u Q I ro ri rv h
  obtain ⟨F, m, st, vo, vi, vv, r, qo, qi, qv, st', hs, k⟩ := h
  unfold setIx at hs
  split at hs
  · rename_i n
    cases qo with
    | ref hn e =>
      subst e
      obtain rfl : ov = Value.ref (m n) := ro
      split at hs
      · rename_i xs hk
        split at hs
        · rename_i kk
          obtain ⟨j, hj, rfl⟩ := Option.map_eq_some_iff.mp hs
          obtain ⟨ys, h1, h2⟩ := r.cell n _ hk
          have hl : live st n := ⟨_, hk, by simp⟩
          cases qi
          exact set_list pins s σ H (.ref (m n)) (.int kk) v (.ref (m n)) iv u Q I rfl ri rv ⟨_, ys, _, j, rfl, rfl, h1, by rw [← h2.length]; exact hj, k _ (Ext.write r hl) (r.write hl ⟨_, rfl, h2.set qv j⟩)⟩
        · cases hs
      · rename_i xs hk
        obtain ⟨hz, hs⟩ := (show xs.length < sizeLine ∧ (keyOf vi).map (fun k => setCell st n (.dK (putA xs k vv))) = some st' by
          split at hs
          · rename_i hz; exact ⟨hz, hs⟩
          · cases hs)
        obtain ⟨kk, hj, rfl⟩ := Option.map_eq_some_iff.mp hs
        obtain ⟨ys, h1, h2⟩ := r.cell n _ hk
        have hl : live st n := ⟨_, hk, by simp⟩
        have ey := key_of_rep qi hj
        subst ey
        exact d_setItem (by omega) I (DPut.k h1 (by rw [← h2.length]; exact hz)) ri rv fun s' I' => ⟨_, I', k _ (Ext.write r hl) (r.write hl ⟨_, rfl, repK_put qv h2⟩)⟩
      · rename_i xs hk
        obtain ⟨hz, hs⟩ := (show xs.length < sizeLine ∧ (tkeyOf vi).map (fun k => setCell st n (.dT (putA xs k vv))) = some st' by
          split at hs
          · rename_i hz; exact ⟨hz, hs⟩
          · cases hs)
        obtain ⟨kk, hj, rfl⟩ := Option.map_eq_some_iff.mp hs
        obtain ⟨ys, h1, h2⟩ := r.cell n _ hk
        have hl : live st n := ⟨_, hk, by simp⟩
        cases qi <;> simp only [tkeyOf] at hj <;> try cases hj
        rename_i hs2 hq2 _
        have ek := keys_of_reps hq2 hj
        subst ek
        exact d_setItem (by omega) I (DPut.t h1 (r.fz.tup hs2) (by rw [← h2.length]; exact hz)) ri rv fun s' I' => ⟨_, I', k _ (Ext.write r hl) (r.write hl ⟨_, rfl, repT_put qv h2⟩)⟩
      · cases hs
  · cases hs
/-! ### d.update(e) -/
theorem kv_merge : ∀ {ys : List (L2.Key × V)} {ws : List (L2.Key × Value)}, L2.KV ys ws → ∀ {xs : List (L2.Key × V)} {vs : List (L2.Key × Value)}, L2.KV xs vs → L2.KV (ys.foldl (fun l p => putK l p.1 p.2) xs) (merged vs ws)
  | _, _, .nil, _, _, r => r
  | p :: _, q :: _, .cons h t, _, _, r => by
    obtain ⟨e, ry⟩ := h
    simp only [List.foldl_cons, merged]
    refine kv_merge t ?_
    rw [← e]
    exact r.put _ ry
theorem repK_fold {F : Hp} {m : Nat → Addr} {L : Nat} : ∀ {ys : List (L2.Key × Val)} {zs : List (L2.Key × V)}, RepK X.K G F m L ys zs → ∀ {xs : List (L2.Key × Val)} {ws : List (L2.Key × V)}, RepK X.K G F m L xs ws →
    RepK X.K G F m L (ys.foldl (fun l p => putA l p.1 p.2) xs) (zs.foldl (fun l p => putK l p.1 p.2) ws)
  | _, _, .nil, _, _, r => r
  | _, _, .cons h t, _, _, r => repK_fold t (repK_put h r)
theorem fold_len : ∀ (ys xs : List (L2.Key × V)), (ys.foldl (fun l p => putK l p.1 p.2) xs).length ≤ xs.length + ys.length
  | [], xs => Nat.le_refl _
  | y :: ys, xs => by
    have h1 := fold_len ys (putK xs y.1 y.2)
    have h2 := length_putK xs y.1 y.2
    simp only [List.foldl_cons, List.length_cons]
    omega
theorem mt_upd : MtM X "dict.update" (rM X G .update) := by
  intro pins s σ H x xs v us Q I rx rs h
  obtain ⟨F, m, st, w, ws, r, q, qs, p⟩ := h
  simp only [mth] at p
  split at p <;> try exact p.elim
  · rename_i n ys
    cases q with
    | ref hn e =>
      subst e
      obtain ⟨z, rfl, rz⟩ := reps1 qs
      cases rz with
      | dK hz qz =>
        rename_i b yv
        split at p
        · rename_i zs hk
          split at p
          · rename_i hlen
            obtain ⟨xv, h1, h2⟩ := r.cell n _ hk
            have hl : live st n := ⟨_, hk, by simp⟩
            obtain ⟨z1, hd1, vs1, rel1, dd1⟩ := dk_of I.hok h1
            obtain ⟨z2, hd2, vs2, rel2, dd2⟩ := dk_rd I.hok (r.fz.rdK hz)
            have hne : m n ≠ b := fun e => by
              have := r.off n hl
              rw [e, hz] at this; cases this
            cases rx
            obtain ⟨u, rfl, ru⟩ := rs.one
            cases ru
            refine call_meetsIn PySem.F.slot_dict_update dd1.typeIs PySem.F.entry_dict_update (PySem.F.args_dict_update_2 _ _) (meets_dict_update (mixKind X.prog X.w) (m n) b hne hd2) ⟨vs1, vs2, dd1, dd2, ?_, fun h' hm _ hs => ?_⟩
            · rw [← rel1.length, ← rel2.length, ← h2.length, ← qz.length]; exact hlen
            · have hl2 : (yv.foldl (fun l p => putK l p.1 p.2) xv).length ≤ sizeLine := by
                have := fold_len yv xv
                rw [← h2.length, ← qz.length] at this
                omega
              have he : ∃ q, h'.get? (m n) = some q := let ⟨q, _, _, hq, _⟩ := hm; ⟨q, hq⟩
              refine ⟨.non, _, d_write (t' := s.toks) I (by rw [h1]; exact True.intro) hs he (dk_new hl2 hd1 (kv_merge rel2 rel1) hm), rfl, ?_⟩
              exact p _ _ _ (Ext.write r hl) (r.write hl ⟨_, rfl, repK_fold qz h2⟩) _ .non
          · exact p.elim
        · exact p.elim
end
end MP
set_option maxHeartbeats 4000000
/-! MPMth: methods of values: d.get, l.index, l.count, l.pop(i); what a receiver must be. -/
namespace MP
open PySem PyProof.Rows L2
section
variable {X : Cx} {G : GX} {W : WX}
/-- what a receiver must be -/
def tyM (K : PySem.W.Frag) (T : String) (x : V) (H : Hp) : Prop := ∃ p, x = .ref p ∧ ((T = "list" ∧ ∃ xs, SqL K H p xs) ∨ (T = "dict" ∧ IsD H p))
theorem tyM_is {pins : List (Addr × Obj)} {σ : L2.St} {H : Hp} {s : Shared} {T : String} {x : V} {v : Value} (I : L2.Inv X pins σ H s) (r : RelV x v) (ty : tyM X.K T x H) :
    s.TypeIs v T ∧ ∀ a, v = .ref a → ∃ ob, s.heap.get? a = some ob ∧ ob.dict = none := by
  obtain ⟨p, rfl, h⟩ := ty
  obtain rfl : v = Value.ref p := r
  rcases h with ⟨rfl, xs, hq⟩ | ⟨rfl, hd⟩
  · obtain ⟨its, _, pl, _⟩ := I.list hq
    refine ⟨pl.isList.typeIs, fun a e => ?_⟩
    cases e
    obtain ⟨o, n, e, c, hd, _⟩ := pl
    exact ⟨o, e, hd⟩
  · obtain ⟨t1, t2, _⟩ := isD_at I hd
    exact ⟨t1, t2⟩
def tMM0 (K : PySem.W.Frag) (T : String) (r : V → List V → Hp → VK → Prop) (to : TE) : TE := fun σ H Q => to σ H fun x H1 => tyM K T x H1 ∧ r x [] H1 Q
def tMM (K : PySem.W.Frag) (T : String) (r : V → List V → Hp → VK → Prop) (to : TE) (t : TA) : TE := fun σ H Q => to σ H fun x H1 => tyM K T x H1 ∧ t σ H1 fun xs H2 => r x xs H2 Q
theorem pe_mm0 {T id : String} {name : PySem.Str} {o : PySem.Expr} {to : TE} {r : V → List V → Hp → VK → Prop} {apos cpos : Pos} (pa : PlainAttrs T) (slot : Slot T name id) (hty : typeOf (.builtin id) = pure (.type "method_descriptor")) (hm : MtM X id r) (ho : PE X o to)
    (hbase : attributeBase o name X.env (eval o X.env) = eval o X.env) (hline : (apos.endLine == cpos.line) = true) : PE X (.Call (.Attribute o name apos) [] [] cpos) (tMM0 X.K T r to) := by
  refine ⟨fun pins s σ H Q I h => ?_⟩
  refine wpAny_Call_method0_late hbase hline (thn (ho.run pins s σ H _ I h) fun v s1 ⟨x, H1, I1, r1, ty, q1⟩ => ?_)
  obtain ⟨h1, h2⟩ := tyM_is I1 r1 ty
  exact ⟨T, id, pa, slot, hty, h1, h2, Calls.callWith_builtin rfl (PySem.evalArgs_none (hm pins s1 σ H1 x [] v [] Q I1 r1 .nil q1))⟩
theorem pe_mm {T id : String} {name : PySem.Str} {o e : PySem.Expr} {es : List PySem.Expr} {to : TE} {t : TA} {r : V → List V → Hp → VK → Prop} {apos cpos : Pos} (pa : PlainAttrs T) (slot : Slot T name id) (hty : typeOf (.builtin id) = pure (.type "method_descriptor")) (hm : MtM X id r) (ho : PE X o to) (ha : PA X (e :: es) t)
    (hbase : attributeBase o name X.env (eval o X.env) = eval o X.env)
    (hfew : ((backTo cpos (starEach (e :: es) X.env)).all (fun x => !x.1) && (backToKw cpos (keywordEach [] X.env)).all (fun x => x.1.isSome)
      && decide ((e :: es).length + ([] : List Keyword).length + (if ([] : List Keyword).isEmpty then 0 else 1) < 30)) = true)
    (hline : (apos.endLine == cpos.line) = true) (hs : starEach (e :: es) X.env = (false, eval e X.env) :: starEach es X.env) (hplain : (backTo cpos (starEach es X.env)).any (·.1) = false) :
    PE X (.Call (.Attribute o name apos) (e :: es) [] cpos) (tMM X.K T r to t) := by
  refine ⟨fun pins s σ H Q I h => ?_⟩
  refine wpAny_Call_method_late hbase hfew hline rfl (thn (ho.run pins s σ H _ I h) fun v s1 ⟨x, H1, I1, r1, ty, q1⟩ => ?_)
  obtain ⟨h1, h2⟩ := tyM_is I1 r1 ty
  refine ⟨T, id, pa, slot, hty, h1, h2, ?_⟩
  have hA := ha.run cpos pins s1 σ H1 _ I1 q1
  rw [hs] at hA ⊢
  refine Calls.callWith_builtin (by show (false || (backTo cpos (starEach es X.env)).any (·.1)) = false; rw [hplain] <;> rfl) (Calls.evalArgs_plain ?_)
  exact thn hA fun us s2 ⟨vs, H2, I2, r2, q2⟩ => hm pins s2 σ H2 x vs v us Q I2 r1 r2 q2
/-! ### d.get -/
theorem mt_get' (hu : X.A.units + 1 < cLine) : MtM X "dict.get" (rM X G .get) := by
  intro pins s σ H x xs v us Q I rx rs h
  obtain ⟨F, m, st, w, ws, r, q, qs, p⟩ := h
  simp only [mth] at p
  have go : ∀ {k : Val} {y : V} {o : Option Val}, Rep X.K G F m st.length k y → dgetV w k st = some o → ∃ a, x = .ref a ∧ ∃ z : Option V, DGet H a y z ∧ (∀ {d : Val} {e : V}, Rep X.K G F m st.length d e → Rep X.K G F m st.length (o.getD d) (z.getD e)) := by
    intro k y o ry e
    obtain ⟨a, ea, g⟩ := dget_of r q ry e
    refine ⟨a, ea, ?_⟩
    rcases g with ⟨e1, g⟩ | ⟨v1, z1, e1, g, rz⟩
    · subst e1; exact ⟨none, g, fun h => h⟩
    · subst e1; exact ⟨some z1, g, fun _ => rz⟩
  split at p
  · rename_i k
    obtain ⟨y, rfl, ry⟩ := reps1 qs
    split at p
    · rename_i o ho
      obtain ⟨a, rfl, z, g, hz⟩ := go ry ho
      obtain rfl : v = Value.ref a := rx
      obtain ⟨u, rfl, ru⟩ := rs.one
      exact d_get1 hu I g ru fun w' s' I' rw' => ⟨_, H, I', rw', p F m H Ext.refl r _ (hz .non)⟩
    · exact p.elim
  · rename_i k d
    cases qs with
    | cons ry qs =>
      obtain ⟨e, rfl, rd⟩ := reps1 qs
      split at p
      · rename_i o ho
        obtain ⟨a, rfl, z, g, hz⟩ := go ry ho
        obtain rfl : v = Value.ref a := rx
        obtain ⟨u, u2, rfl, ru, ru2⟩ := rs.two
        exact d_get2 hu I g ru ru2 fun w' s' I' rw' => ⟨_, H, I', rw', p F m H Ext.refl r _ (hz rd)⟩
      · exact p.elim
  · exact p.elim
/-! ### l.index, l.count -/
theorem lst_of {F H : Hp} {m : Nat → Addr} {st : Store} (r : RelH X.K G F m st H) {v : Val} {x : V} {xs : List Val} (q : Rep X.K G F m st.length v x) (e : lstOf v st = some xs) :
    ∃ a ys, x = .ref a ∧ Reps X.K G F m st.length xs ys ∧ SqL X.K H a ys := by
  cases q <;> simp only [lstOf] at e <;> try cases e
  · rename_i a ys h q
    exact ⟨a, ys, rfl, q, SqL.of (r.fz.lst h)⟩
  · rename_i n a h q
    subst q
    split at e
    · rename_i zs hk
      cases e
      obtain ⟨ys, h1, h2⟩ := r.cell n _ hk
      exact ⟨_, ys, rfl, h2, SqL.of h1⟩
    · cases e
theorem data_in {F H : Hp} {m : Nat → Addr} {st : Store} (r : RelH X.K G F m st H) {w k : Val} {x y : V} {ds : List PyData} {d : PyData} (q : Rep X.K G F m st.length w x) (ry : Rep X.K G F m st.length k y) (e : dataIn w k st = some (ds, d)) :
    SeqAt.shaped d = true ∧ SeqAt.shaped (.list ds) = true ∧ Dp X.K H y d ∧ ∃ a ys, x = .ref a ∧ DpAll X.K H ys ds ∧ SqL X.K H a ys := by
  unfold dataIn at e
  split at e
  · rename_i xs hs
    split at e
    · rename_i ds' d' h1 h2
      split at e
      · rename_i hh
        cases e
        obtain ⟨a, zs, ea, q2, hq⟩ := lst_of r q hs
        exact ⟨hh.1, hh.2, dp_of r.fz ry h2, a, zs, ea, dps_of r.fz q2 h1, hq⟩
      · cases e
    · cases e
  · cases e
theorem mt_index' (hu : X.A.units + 65 < cLine) : MtM X "list.index" (rM X G .index) := by
  intro pins s σ H x xs v us Q I rx rs h
  obtain ⟨F, m, st, w, ws, r, q, qs, p⟩ := h
  simp only [mth] at p
  split at p
  · rename_i k
    obtain ⟨y, rfl, ry⟩ := reps1 qs
    split at p
    · rename_i ds d hd
      obtain ⟨s1, s2, dy, a, ys, rfl, dl, lst⟩ := data_in r q ry hd
      split at p
      · rename_i j hj
        obtain ⟨h1, h2, h3⟩ := List.findIdx?_eq_some_iff_getElem.mp hj
        exact mt_indexD hu pins s σ H _ _ v us Q I rx rs ⟨a, y, d, ds, j, ds[j], rfl, rfl, .lst lst dl, dy, s2, s1, List.getElem?_eq_getElem h1, h2, fun i z' hi hz => by
          have h4 := h3 i hi
          have : ds[i]? = some ds[i] := List.getElem?_eq_getElem (by omega)
          rw [this] at hz; cases hz
          simpa using h4, p F m H Ext.refl r _ (.int _)⟩
      · exact p.elim
    · exact p.elim
  · exact p.elim
theorem mt_count' (hu : X.A.units + 65 < cLine) : MtM X "list.count" (rM X G .count) := by
  intro pins s σ H x xs v us Q I rx rs h
  obtain ⟨F, m, st, w, ws, r, q, qs, p⟩ := h
  simp only [mth] at p
  split at p
  · rename_i k
    obtain ⟨y, rfl, ry⟩ := reps1 qs
    split at p
    · rename_i ds d hd
      obtain ⟨s1, s2, dy, a, ys, rfl, dl, lst⟩ := data_in r q ry hd
      cases rx
      obtain ⟨u, rfl, ru⟩ := rs.one
      obtain ⟨bs, r1⟩ := Dp.reads I d y u dy ru
      have hxs : PyData.canLayAll0 ds = true := SeqAt.canLay_of_shaped s2
      have hroom : X.A.units + 1 + min (PyData.depthAll ds) d.depth < cLine := room_in_shaped s1 hu
      obtain ⟨its, rv, ⟨⟨cls, dd, data, sls⟩, n, ho, hc, hdn, hdt⟩, hlen⟩ := I.list lst
      simp only at hc hdt
      subst hc hdt
      obtain ⟨as, h4⟩ := Dp.readsAll I ds _ its dl rv
      have hmap : its.map (SeqAt.readOf s.heap) = ds := SeqAt.readsAll_map ds its as hxs h4
      refine call_meets PySem.F.slot_list_count ⟨_, ho, rfl⟩ PySem.F.entry_list_count (PySem.F.args_list_count_2 _ _)
        (SeqAt.list_countAt a its.toArray n dd sls u (fun z => PyData.eqv (SeqAt.readOf s.heap z) d)) ⟨ho, SeqAt.items_eqAt (vs := its.toArray) (show ReadsAll s.heap its.toArray.toList ds as from h4) r1 hxs (SeqAt.canLay_of_shaped s1) hroom, ?_⟩
      have ec : its.toArray.toList.countP (fun z => PyData.eqv (SeqAt.readOf s.heap z) d) = ds.countP fun z => PyData.eqv z d := by
        rw [← hmap, List.countP_map]; rfl
      refine ⟨.int (ds.countP (fun z => PyData.eqv z d) : Nat), H, I.tok _, ⟨s.toks, ?_⟩, p F m H Ext.refl r _ (.int _)⟩
      show Value.int ((its.toArray.toList.countP _ : Nat) : Int) s.toks = Value.int _ s.toks
      rw [ec]
    · exact p.elim
  · exact p.elim
/-! ### l.pop(i) -/
theorem reps_erase {F : Hp} {m : Nat → Addr} {L : Nat} : ∀ {xs : List Val} {ys : List V} (k : Nat), Reps X.K G F m L xs ys → Reps X.K G F m L (xs.eraseIdx k) (ys.eraseIdx k)
  | _, _, _, .nil => .nil
  | _, _, 0, .cons _ t => t
  | _, _, k + 1, .cons r t => .cons r (reps_erase k t)
theorem mt_popAt' : MtM X "list.pop" (rM X G .popAt) := by
  intro pins s σ H x xs v us Q I rx rs h
  obtain ⟨F, m, st, w, ws, r, q, qs, p⟩ := h
  simp only [mth] at p
  split at p <;> try exact p.elim
  · rename_i n i
    cases q with
    | ref hn e =>
      subst e
      obtain ⟨z, rfl, rz⟩ := reps1 qs
      cases rz
      split at p
      · rename_i zs hk
        split at p
        · rename_i hi
          split at p
          · rename_i y hy
            obtain ⟨ys, h1, h2⟩ := r.cell n _ hk
            have hl : live st n := ⟨_, hk, by simp⟩
            obtain ⟨z, hz, rz⟩ := h2.get hy
            have hlt := (List.getElem?_eq_some_iff.mp hz).1
            have hix : seqIndex? i ys.length = some i.toNat := by
              unfold seqIndex?
              have e1 : ¬ i < 0 := by omega
              have e2 : i < (ys.length : Int) := by omega
              simp [e1, e2, hi.1]
            refine mt_popAt pins s σ H _ _ v us Q I rx rs ⟨_, ys, i, i.toNat, z, rfl, rfl, h1, by omega, by omega, hix, hz, p _ _ _ (Ext.write r hl) (r.write hl ⟨_, rfl, reps_erase _ h2⟩) _ ?_⟩
            exact rz.mono (Same.refl F) (fun _ _ => rfl) (by simp [setCell])
          · exact p.elim
        · exact p.elim
      · exact p.elim
end
end MP
set_option maxHeartbeats 4000000
/-! MPExpr: the small language's expressions, matched with the text's, keep their readings. -/
namespace MP
open PySem PyProof.Rows L2

/-! ### matching -/
def visB (sc : Scope) (x : PySem.Str) : Bool := match sc.names.lookup x with
  | some .local => true
  | some .cell => true
  | some .free => true
  | _ => false
def glB (sc : Scope) (x : PySem.Str) : Bool := match sc.names.lookup x with
  | some .globalImplicit => true
  | _ => false
def notDbg (x : PySem.Str) : Bool := !(x == ("__debug__" : PySem.Str)) && !(x == ("__classdict__" : PySem.Str))
def noStar : PySem.Expr → Bool
  | .Starred _ _ => false
  | _ => true
def noSet : PySem.Expr → Bool
  | .Set _ _ _ => false
  | _ => true
def noSlice : PySem.Expr → Bool
  | .Slice _ _ _ _ => false
  | _ => true
def noCall : PySem.Expr → Bool
  | .Call _ [] _ _ => false
  | _ => true
def litM : Val → Const → Bool
  | .non, .none => true
  | .bl b, .bool c => b == c
  | .int i, .int j => i == j
  | .str x, .str y => x == y
  | _, _ => false
def bltM : Blt → PySem.Str → Nat → Bool
  | .len, x, 1 => x == "len"
  | .tuple, x, 1 => x == "tuple"
  | .list, x, 1 => x == "list"
  | .all, x, 1 => x == "all"
  | .any, x, 1 => x == "any"
  | .abs, x, 1 => x == "abs"
  | .int, x, 1 => x == "int"
  | .sum, x, 1 => x == "sum"
  | .max2, x, 2 => x == "max"
  | .min2, x, 2 => x == "min"
  | .repr, x, 1 => x == "repr"
  | .sorted, x, 1 => x == "sorted"
  | .str, x, 1 => x == "str"
  | .min, x, 1 => x == "min"
  | _, _, _ => false
def mthM : Mth → PySem.Str → Nat → Bool
  | .append, x, 1 => x == "append"
  | .extend, x, 1 => x == "extend"
  | .pop, x, 0 => x == "pop"
  | .update, x, 1 => x == "update"
  | .popAt, x, 1 => x == "pop"
  | .get, x, 1 => x == "get"
  | .get, x, 2 => x == "get"
  | .index, x, 1 => x == "index"
  | .count, x, 1 => x == "count"
  | _, _, _ => false
mutual
def mT (N : List PySem.Str) (sc : Scope) (ck : Bool) : Tgt → PySem.Expr → Bool
  | .name i, .Name x _ => decide (N[i]? = some x) && (match sc.names.lookup x with
      | some .local => true
      | some .cell => ck
      | _ => false)
  | .tup ts, .Tuple xs _ _ => mTs N sc ck ts xs
  | _, _ => false
def mTs (N : List PySem.Str) (sc : Scope) (ck : Bool) : List Tgt → List PySem.Expr → Bool
  | [], [] => true
  | t :: ts, x :: xs => noStar x && mT N sc ck t x && mTs N sc ck ts xs
  | _, _ => false
end
def isnM : Bool → List CmpOp → Bool
  | false, [.Is] => true
  | true, [.IsNot] => true
  | _, _ => false
def isNoneC : List PySem.Expr → Bool
  | [.Constant .none _ _] => true
  | _ => false
def isBoolC (b : Bool) : List PySem.Expr → Bool
  | [.Constant (.bool c) _ _] => b == c
  | _ => false
def bltCalm : Blt → Bool
  | .all | .any | .sum | .max2 | .min2 | .min => true
  | _ => false
/-- an expression that a test takes as it is -/
def plainB : PySem.Expr → Bool
  | .Call _ _ _ _ => true
  | .DictComp _ _ _ _ _ => true
  | .SetComp _ _ _ _ => true
  | .Subscript _ _ _ => true
  | .JoinedStr _ _ => true
  | .Dict _ _ _ => true
  | .Tuple _ _ _ => true
  | .List _ _ => true
  | .BinOp _ _ _ _ => true
  | _ => false
def noParams : Arguments → Bool
  | ⟨[], [], none, [], [], none, []⟩ => true
  | _ => false
mutual
def mE (N : List PySem.Str) (sc : Scope) : E → PySem.Expr → Bool
  | .var i, .Name x _ => decide (N[i]? = some x) && visB sc x && notDbg x
  | .lit v, .Constant c _ _ => litM v c
  | .gcon x _, .Name y _ => x == y && glB sc y && notDbg y
  | .gfn x, .Name y _ => x == y && glB sc y && notDbg y
  | .bin op a b, .BinOp xa pop xb _ => opM op pop && mE N sc a xa && mE N sc b xb
  | .neg a, .UnaryOp op xa _ => (match op with | .USub => true | _ => false) && mE N sc a xa
  | .cmp op a b, .Compare xa ops xs _ => (match ops, xs with
      | [pop], [xb] => copM op pop && mE N sc a xa && mE N sc b xb && noSet xb
      | _, _ => false)
  | .chain op op' a b c, .Compare xa ops xs _ => (match ops, xs with
      | [pop, pop'], [xb, xc] => copM op pop && copM op' pop' && mE N sc a xa && mE N sc b xb && mE N sc c xc && noSet xc
      | _, _ => false)
  | .isn n a, .Compare xa ops xs _ => isnM n ops && isNoneC xs && mE N sc a xa
  | .isb n a b, .Compare xa ops xs _ => isnM n ops && isBoolC b xs && mE N sc a xa
  | .and a b, .BoolOp op xs pos => (match op, xs with
      | .And, xa :: xb :: rest => mE N sc a xa && (match rest with
        | [] => mE N sc b xb
        | _ => mE N sc b (.BoolOp .And (xb :: rest) pos))
      | _, _ => false)
  | .or a b, .BoolOp op xs pos => (match op, xs with
      | .Or, xa :: xb :: rest => mE N sc a xa && (match rest with
        | [] => mE N sc b xb
        | _ => mE N sc b (.BoolOp .Or (xb :: rest) pos))
      | _, _ => false)
  | .not a, .UnaryOp op xa _ => (match op with | .Not => true | _ => false) && mE N sc a xa
  | .ite c a b, .IfExp xc xa xb _ => mE N sc c xc && mE N sc a xa && mE N sc b xb
  | .tup es, .Tuple xs _ _ => mEs N sc es xs
  | .val n, x => mN N sc n x
  | .cell n, x => mN N sc n x
  | .idx o i, .Subscript xo xi _ => mE N sc o xo && mE N sc i xi && noSlice xi
  | .slc o lo hi, .Subscript xo xi _ => (match xi with
      | .Slice xl xh none _ => mE N sc o xo && mEo N sc lo xl && mEo N sc hi xh
      | _ => false)
  | .lenset e, .Call xf xs ks _ => (match xf, xs, ks with
      | .Name x _, [.Call yf ys kk _], [] => (match yf, ys, kk with
        | .Name y _, [a], [] => x == "len" && y == "set" && glB sc x && glB sc y && noStar a && mE N sc e a
        | _, _, _ => false)
      | _, _, _ => false)
  | .litems e, .Call xf xs ks _ => (match xf, xs, ks with
      | .Name x _, [.Call (.Attribute (.Name y yp) nm ap) [] [] cp], [] => x == "list" && nm == "items" && glB sc x && (ap.endLine == cp.line) && mE N sc e (.Name y yp)
      | _, _, _ => false)
  | .blt f es, .Call xf xs ks _ => (match xf, xs, ks with
      | .Name x _, xe :: xr, [] => bltM f x (xe :: xr).length && glB sc x && mEs N sc es (xe :: xr)
      | _, _, _ => false)
  | .isi a t, .Call xf xs ks _ => (match xf, xs, ks with
      | .Name x _, [xa, .Name y _], [] => x == "isinstance" && y == PySem.Str.ofString (tnName t) && glB sc x && glB sc y && noStar xa && mE N sc a xa
      | _, _, _ => false)
  | .call x _ es, .Call xf xs ks _ => (match xf, ks with
      | .Name y _, [] => x == y && glB sc y && notDbg y && mEs N sc es xs
      | _, _ => false)
  | .word x _ e, .Call xf xs ks _ => (match xf, xs, ks with
      | .Name y _, [.Lambda params body scope _], [] => x == y && glB sc y && notDbg y && noParams params && LamX.lamSB sc scope && mE N scope e body
      | _, _, _ => false)
  | .any, x => plainB x
  | .mth m o es, .Call xf xs ks cpos => (match xf, ks with
      | .Attribute xo name apos, [] => mthM m name xs.length && (apos.endLine == cpos.line) && noCall xo && mE N sc o xo && mEs N sc es xs
      | _, _ => false)
  | .rev o, .Subscript xo xi _ => (match xi with
      | .Slice none none (some (.UnaryOp .USub (.Constant (.int z) _ _) _)) _ => decide (z = 1) && mE N sc o xo
      | _ => false)
  | .isx i _ c _, .Call xf xs ks _ => (match xf, xs, ks with
      | .Name x _, [.Name y _, .Name z _], [] => x == "isinstance" && glB sc x && decide (N[i]? = some y) && visB sc y && notDbg y && z == c && glB sc z && notDbg z
      | _, _, _ => false)
  | .callv i _ es, .Call xf xs ks _ => (match xf, xs, ks with
      | .Name y _, xe :: xr, [] => decide (N[i]? = some y) && visB sc y && notDbg y && mEs N sc es (xe :: xr)
      | _, _, _ => false)
  | _, _ => false
def mEo (N : List PySem.Str) (sc : Scope) : Eo → Option PySem.Expr → Bool
  | .none, none => true
  | .some e, some x => mE N sc e x
  | _, _ => false
def mEs (N : List PySem.Str) (sc : Scope) : Es → List PySem.Expr → Bool
  | .nil, [] => true
  | .cons e es, x :: xs => noStar x && mE N sc e x && mEs N sc es xs
  | _, _ => false
def mC (N : List PySem.Str) (sc : Scope) : Eo → List PySem.Expr → Bool
  | .none, xs => (match xs with
      | [] => true
      | _ => false)
  | .some e, xs => (match xs with
      | [x] => mE N sc e x
      | _ => false)
def mN (N : List PySem.Str) (sc : Scope) : Nw → PySem.Expr → Bool
  | .lst es, .List xs _ => mEs N sc es xs
  | .comp e t it c own, .ListComp xe gs scope _ => (match gs with
      | [⟨xt, xi, ifs, 0⟩] => mIt N sc it xt xi && noSet xi && blkC N sc scope own && (tgtSlots t).all (fun i => (own.map (·.2)).contains i) && mT N (relS scope sc) false t xt && mC N (relS scope sc) c ifs && mE N (relS scope sc) e xe
      | _ => false)
  | .dct _, .Dict ks vs _ => ks.isEmpty && vs.isEmpty
  | .cat a b, .BinOp xa pop xb _ => (match pop with
      | .Add => mE N sc a xa && mE N sc b xb
      | _ => false)
  | .rep a b, .BinOp xa pop xb _ => (match pop with
      | .Mult => mE N sc a xa && mE N sc b xb
      | _ => false)
  | .ls a, .Call xf xs ks _ => (match xf, xs, ks with
      | .Name x _, [xa], [] => x == "list" && glB sc x && noStar xa && mE N sc a xa
      | _, _, _ => false)
  | .dct1 k e, .Dict ks vs _ => (match ks, vs with
      | [some xk], [xv] => mE N sc k xk && mE N sc e xv
      | _, _ => false)
  | .dcomp k e t it c own, .DictComp xk xe gs scope _ => (match gs with
      | [⟨xt, xi, ifs, 0⟩] => mIt N sc it xt xi && noSet xi && blkC N sc scope own && (tgtSlots t).all (fun i => (own.map (·.2)).contains i) && mT N (relS scope sc) false t xt && mC N (relS scope sc) c ifs && mE N (relS scope sc) k xk && mE N (relS scope sc) e xe
      | _ => false)
  | _, _ => false
def mIt (N : List PySem.Str) (sc : Scope) : It → PySem.Expr → PySem.Expr → Bool
  | .range1 a, _, x => (match x with
      | .Call (.Name x _) [xa] [] _ => x == "range" && glB sc x && noStar xa && mE N sc a xa
      | _ => false)
  | .range2 a b, _, x => (match x with
      | .Call (.Name x _) [xa, xb] [] _ => x == "range" && glB sc x && noStar xa && noStar xb && mE N sc a xa && mE N sc b xb
      | _ => false)
  | .enum a, t, x => (match t, x with
      | .Tuple _ _ _, .Call (.Name x _) [xa] [] _ => x == "enumerate" && glB sc x && noStar xa && mE N sc a xa
      | _, _ => false)
  | .zip a b, t, x => (match t, x with
      | .Tuple _ _ _, .Call (.Name x _) [xa, xb] [] _ => x == "zip" && glB sc x && noStar xa && noStar xb && mE N sc a xa && mE N sc b xb
      | _, _ => false)
  | .zip3 a b c, t, x => (match t, x with
      | .Tuple _ _ _, .Call (.Name x _) [xa, xb, xc] [] _ => x == "zip" && glB sc x && noStar xa && noStar xb && noStar xc && mE N sc a xa && mE N sc b xb && mE N sc c xc
      | _, _ => false)
  | .seq a, _, x => mE N sc a x
end

/-! ### what the names must be -/
/-- what a program's defs share -/
structure Stat where
  prog : Program
  w : World
  K : PySem.W.Frag
  mg : PySem.Str → Option Value
  base : Heap
def stat (X : Cx) : Stat := ⟨X.prog, X.w, X.K, X.mg, X.base⟩
/-- a def's promise; g: it is called where nothing is being shown -/
structure FnG (T : Stat) (g : Bool) (k : Nat) (f : Addr) (fd : FuncData) (ps : List PySem.Str) (sp : Sp) : Prop where
  len : ∀ vs H Q E, sp vs H Q E → vs.length = ps.length
  run : ∀ (A : Around) (outer : List PySem.Env) (s : Shared) (H : Hp) (args : Args) (us : List Value) (vs : List V) (Q : VK) (E : XK), Room k A → (g = true → A.guards = some []) → Env0 T.prog T.w T.K T.mg T.base A outer s H → BindsTo s fd args (ps.zip us) → Vals vs us → sp vs H Q E →
    codeAny (model T.prog T.w) A (.call (.ref f) args) (CR (L2.CX T.prog T.w) outer T.prog T.w H s Q E) s
theorem FnG.mono {T : Stat} {g g' : Bool} {k k' : Nat} {f : Addr} {fd : FuncData} {ps : List PySem.Str} {sp : Sp} (F : FnG T g k f fd ps sp) (hk : k ≤ k') (hg : g = true → g' = true) : FnG T g' k' f fd ps sp :=
  ⟨F.len, fun A outer s H args us vs Q E hr h => F.run A outer s H args us vs Q E (hr.mono hk) fun z => h (hg z)⟩
/-- room for calls; whether repr, lambdas, loops may stand here; what a called argument does -/
structure Lv where
  k : Nat
  g : Bool
  l : Bool
  c : Bool
  t : Option (Nat × Val × (Store → Out Val))
  x : Option (Nat × Val × List (PySem.Str × Bool))
def Lv.blk (v : Lv) : Lv := { v with l := false, t := none, x := none }
section
variable (T : Stat) (G : GX)
def litV : Val → Option V
  | .non => some .non
  | .bl b => some (.bl b)
  | .int i => some (.int i)
  | .str x => some (.str x)
  | _ => none
def GconOk (x : PySem.Str) (v : Val) : Prop := ∃ u y, T.mg x = some u ∧ RelV y u ∧ litV v = some y
def GfnOk (x : PySem.Str) : Prop := ∃ a, G.f x = some a ∧ T.mg x = some (.ref a)
def CallOk (v : Lv) (x : PySem.Str) (D : Den) : Prop := ∃ f fd ps, T.mg x = some (.ref f) ∧ PySem.W.keepIn T.K (.ref f) = true ∧ FnG T v.g v.k f fd ps (spOf T.K T.mg G D) ∧ Binds T.K fd ps []
/-- what a def makes of the thing that it is handed to call -/
def TTof (wd : (Store → Out Val) → Store → Out Val) : (XK → Hp → VK → Prop) → Hp → VK → Prop := fun tl H Q =>
  ∃ F m st th, RelH T.K G F m st H ∧
    (∀ E F' m' st' H' Q', Same F F' → (∀ n, n < st.length → m' n = m n) → st.length ≤ st'.length → RelH T.K G F' m' st' H' → PostG T.K G (exOf T.K T.mg G E) (fun v F m st H => ∀ y, Rep T.K G F m st.length v y → Q' y H) F' m' st' H' (th st') → tl E H' Q') ∧
    PostG T.K G (fun _ _ _ _ _ _ => False) (fun v F m st H => ∀ y, Rep T.K G F m st.length v y → Q y H) F m st H (wd th st)
def WordOk (v : Lv) (x : PySem.Str) (wd : (Store → Out Val) → Store → Out Val) : Prop :=
  ∃ (g : Addr) (pg : Arguments) (bg : List PySem.Stmt) (sg : Scope) (dV kV doc pm cdv ct oc : Value) (an od : Option Addr) (osl : Array (Option Value)) (Ng : List PySem.Str) (a : PySem.Str),
    T.mg x = some (.ref g) ∧ PySem.W.keepIn T.K (.ref g) = true ∧ T.K.lookup g = some ⟨oc, od, .func (PySem.W.fnOf x x pg bg sg dV kV doc pm an cdv ct), osl⟩ ∧ PySem.W.codeIn T.K cdv x = true ∧
    Binds T.K (PySem.W.fnOf x x pg bg sg dV kV doc pm an cdv ct) [a] [] ∧ FnScope Ng [a] sg ∧ Ng[0]? = some a ∧ Vis sg a ∧ notDbg a = true ∧
    ∀ (X : Cx) (q : PySem.Str), stat X = T → 1 ≤ v.k → Room v.k X.A → LamX.GivesTo X Ng x sg g cdv bg a q (TTof T G wd)
mutual
def okE : Lv → E → Prop
  | _, .gcon x w => GconOk T x w
  | _, .gfn x => GfnOk T G x
  | v, .bin _ a b => okE v a ∧ okE v b
  | v, .neg a => okE v a
  | v, .cmp _ a b => okE v a ∧ okE v b
  | v, .chain _ _ a b c => okE v a ∧ okE v b ∧ okE v c
  | v, .isn _ a => okE v a
  | v, .isb _ a _ => okE v a
  | v, .and a b => okE v a ∧ okE v b
  | v, .or a b => okE v a ∧ okE v b
  | v, .not a => okE v a
  | v, .ite c a b => okE v c ∧ okE v a ∧ okE v b
  | v, .tup es => okEs v es
  | v, .val n => okN v n
  | v, .cell n => okN v n
  | v, .idx o i => okE v o ∧ okE v i
  | v, .slc o lo hi => okE v o ∧ okEo v lo ∧ okEo v hi
  | v, .blt f es => (f = .repr → v.g = true) ∧ (bltCalm f = true → v.c = true) ∧ okEs v es
  | v, .isi a _ => okE v a
  | v, .call x D es => (CallOk T G v x D ∧ v.c = true) ∧ okEs v es
  | v, .mth _ o es => okE v o ∧ okEs v es
  | v, .rev o => okE v o
  | v, .lenset o => v.c = true ∧ okE v o
  | v, .litems o => v.c = true ∧ okE v o
  | v, .callv _ ds es => ((∀ p ∈ ds, CallOk T G v p.1 p.2 ∧ GfnOk T G p.1) ∧ v.c = true) ∧ okEs v es
  | v, .isx i w c b => ∃ tb, v.x = some (i, w, tb) ∧ tb.lookup c = some b
  | v, .word x wd e => WordOk T G v x wd ∧ v.c = true ∧ v.l = true ∧ 2 ≤ v.k ∧ okE ⟨v.k - 2, false, false, true, none, none⟩ e
  | _, _ => True
def okEo : Lv → Eo → Prop
  | _, .none => True
  | v, .some e => okE v e
def okEs : Lv → Es → Prop
  | _, .nil => True
  | v, .cons e es => okE v e ∧ okEs v es
def okN : Lv → Nw → Prop
  | v, .lst es => okEs v es
  | v, .comp e _ it c _ => v.c = true ∧ okE v.blk e ∧ okIt v it ∧ okEo v.blk c
  | _, .dct _ => True
  | v, .ls a => okE v a
  | v, .cat a b => okE v a ∧ okE v b
  | v, .rep a b => okE v a ∧ okE v b
  | v, .dct1 k e => okE v k ∧ okE v e
  | v, .dcomp k e _ it c _ => v.c = true ∧ okE v.blk k ∧ okE v.blk e ∧ okIt v it ∧ okEo v.blk c
def okIt : Lv → It → Prop
  | v, .seq e => okE v e
  | v, .range1 a => okE v a
  | v, .range2 a b => okE v a ∧ okE v b
  | v, .enum e => okE v e
  | v, .zip a b => okE v a ∧ okE v b
  | v, .zip3 a b c => okE v a ∧ okE v b ∧ okE v c
end
end
/-- what a def's context must give -/
def LamC (X : Cx) (G : GX) : Prop := ∃ c P, LamX.TabB X.base X.mg c P ∧ X.env.code = .ref c ∧ (P, X.env.qual ++ "<lambda>") ∈ G.T ∧ ∀ p ∈ G.T, p.1 = P → p.2 = X.env.qual ++ "<lambda>"
structure RmG (X : Cx) (G : GX) (W : WX) (v : Lv) : Prop where
  room : v.c = true → Room v.k X.A
  gd : v.g = true → X.A.guards = some []
  lam : v.l = true → LamC X G
  calm : v.c = true → X.calm = true
  exi : ∀ i w tb, v.x = some (i, w, tb) → ∀ c b, tb.lookup c = some b → ∀ y p1 p2 p3 pos, X.N[i]? = some y → Vis X.env.scope y → notDbg y = true → Gl X "isinstance" → Gl X c → notDbg c = true → PE X (.Call (.Name "isinstance" p1) [.Name y p2, .Name c p3] [] pos) (tE X G W (.isx i w c b))
structure At (X : Cx) (N : List PySem.Str) (sc : Scope) : Prop where
  n : X.N = N
  s : X.env.scope = sc

section
variable {X : Cx} {G : GX} {W : WX} {N : List PySem.Str} {sc : Scope}
theorem At.gl (A : At X N sc) {x : PySem.Str} (h : glB sc x = true) : Gl X x := by
  show X.env.scope.names.lookup x = some .globalImplicit
  rw [A.s]
  unfold glB at h
  split at h
  · assumption
  · cases h
theorem At.vis (A : At X N sc) {x : PySem.Str} (h : visB sc x = true) : Vis X.env.scope x := by
  rw [A.s]
  unfold visB at h
  split at h
  · exact .inl (by assumption)
  · exact .inr (.inl (by assumption))
  · exact .inr (.inr (by assumption))
  · cases h
theorem At.ix (A : At X N sc) {i : Nat} {x : PySem.Str} (h : decide (N[i]? = some x) = true) : X.N[i]? = some x := by
  rw [A.n]; exact of_decide_eq_true h
theorem dbg {x : PySem.Str} (h : notDbg x = true) : (x == ("__debug__" : PySem.Str)) = false := by
  simp only [notDbg, Bool.and_eq_true, Bool.not_eq_true'] at h
  exact h.1
theorem dbg2 {x : PySem.Str} (h : notDbg x = true) : (x == ("__classdict__" : PySem.Str)) = false := by
  simp only [notDbg, Bool.and_eq_true, Bool.not_eq_true'] at h
  exact h.2

/-! ### the steps -/
theorem s_var (C : Cxt X G W) {i : Nat} {x : PySem.Str} {pos : Pos} (h1 : X.N[i]? = some x) (h2 : Vis X.env.scope x) (h3 : notDbg x = true) : PE X (.Name x pos) (tE X G W (.var i)) := by
  refine PE.imp (pe_var h1 h2 (dbg h3) (dbg2 h3)) fun σ H Q h => ?_
  obtain ⟨F, m, env, st, r, rs, p⟩ := h
  obtain ⟨v, hv, q⟩ := p.of r
  obtain ⟨y, h1, h2⟩ := rs.get hv
  exact ⟨y, h1, q y h2⟩
theorem bin_of {a b : E} {xa xb : PySem.Expr} {f : Val → Val → Store → Option Val} {σ : L2.St} {H : Hp} {Q : VK}
    (h : tRd X.K G (exW X G W) (fun env st => (evalE a env st).bind fun x st1 => (evalE b env st1).bind fun y st2 => Out.of (f x y st2) st2) (fun v F m st H => ∀ y, Rep X.K G F m st.length v y → Q y H) σ H) :
    tOp (rB X G f) (tE X G W a) (tE X G W b) σ H Q := by
  obtain ⟨F, m, env, st, r, rs, p⟩ := h
  refine ⟨F, m, env, st, r, rs, p.bind.mono fun va F1 m1 st1 H1 e1 r1 q1 y1 k1 => ?_⟩
  refine ⟨F1, m1, env, st1, r1, rs.ext e1, q1.bind.mono fun vb F2 m2 st2 H2 e2 r2 q2 y2 k2 => ?_⟩
  obtain ⟨w, hw, _⟩ := q2.of r2
  rw [hw] at q2
  exact ⟨F2, m2, st2, va, vb, w, r2, e2.rep k1, k2, hw, Fin.of q2⟩
theorem s_bin {op : Bop} {pop : Operator} {a b : E} {xa xb : PySem.Expr} {pos : Pos} (hm : opM op pop = true) (ha : PE X xa (tE X G W a)) (hb : PE X xb (tE X G W b)) : PE X (.BinOp xa pop xb pos) (tE X G W (.bin op a b)) :=
  PE.imp (pe_op (op_bop hm) ha hb) fun σ H Q h => bin_of (xa := xa) (xb := xb) h
theorem s_neg {a : E} {xa : PySem.Expr} {pos : Pos} (ha : PE X xa (tE X G W a)) : PE X (.UnaryOp .USub xa pos) (tE X G W (.neg a)) := by
  refine PE.imp (pe_un un_neg ha) fun σ H Q h => ?_
  obtain ⟨F, m, env, st, r, rs, p⟩ := h
  refine ⟨F, m, env, st, r, rs, (PostG.bind p).mono fun va F1 m1 st1 H1 e1 r1 q1 y1 k1 => ?_⟩
  cases k1 <;> first | exact q1.elim | skip
  exact ⟨_, rfl, q1.ok r1 _ (.int _)⟩
theorem s_cmp (C : Cxt X G W) {op : Cop} {pop : CmpOp} {a b : E} {xa xb : PySem.Expr} {pos : Pos} (hm : copM op pop = true) (hs : noSet xb = true) (ha : PE X xa (tE X G W a)) (hb : PE X xb (tE X G W b)) : PE X (.Compare xa [pop] [xb] pos) (tE X G W (.cmp op a b)) :=
  PE.imp (pe_cmpR (op_cop C hm) ha hb (by cases xb <;> first | rfl | cases hs)) fun σ H Q h => bin_of (xa := xa) (xb := xb) h
theorem PostG.bindT {α : Type} {E : EX} {R : Bool → RT} {F H : Hp} {m : Nat → Addr} {st : Store} {x : Out Val} (h : PostG X.K G E R F m st H (x.bind fun v st1 => Out.of (truth v st1) st1)) :
    PostG X.K G E (fun v F1 m1 st1 H1 => ∃ b, truth v st1 = some b ∧ PostG X.K G E R F1 m1 st1 H1 (.ok b st1)) F m st H x :=
  h.bind.mono fun va F1 m1 st1 H1 e1 r1 q1 => by
    obtain ⟨b, hb, _⟩ := q1.of r1
    rw [hb] at q1
    exact ⟨b, hb, q1⟩
theorem chain_of {op op' : Cop} {a b c : E} {σ : L2.St} {H : Hp} {Q : VK} (h : tE X G W (.chain op op' a b c) σ H Q) : tChain (rC X G op) (rC X G op') (tE X G W a) (tE X G W b) (tE X G W c) σ H Q := by
  obtain ⟨F, m, env, st, r, rs, p⟩ := h
  refine ⟨F, m, env, st, r, rs, (PostG.bind p).mono fun va F1 m1 st1 H1 e1 r1 q1 y1 k1 => ?_⟩
  refine ⟨F1, m1, env, st1, r1, rs.ext e1, (PostG.bind q1).mono fun vb F2 m2 st2 H2 e2 r2 q2 y2 k2 => ?_⟩
  obtain ⟨t, ht, q3⟩ := (PostG.bind q2).of r2
  refine ⟨F2, m2, st2, va, vb, .bl t, r2, e2.rep k1, k2, by show (cop op va vb st2).map Val.bl = _; rw [ht]; rfl, fun F3 m3 H3 e3 r3 z hz => ?_⟩
  cases hz
  refine ⟨t, rfl, ?_⟩
  have q3 := PostG.step q3 e3
  cases t with
  | true =>
    rw [if_pos rfl] at q3 ⊢
    refine ⟨F3, m3, env, st2, r3, (rs.ext e1).ext (e2.trans e3), (PostG.bind q3).mono fun vc F4 m4 st4 H4 e4 r4 q4 y4 k4 => ?_⟩
    obtain ⟨w, hw, _⟩ := q4.of r4
    rw [hw] at q4
    exact ⟨F4, m4, st4, vb, vc, w, r4, (e3.trans e4).rep k2, k4, hw, Fin.of q4⟩
  | false =>
    rw [if_neg (by decide)] at q3 ⊢
    exact q3.ok r3 _ (.bl _)
theorem s_chain (C : Cxt X G W) {op op' : Cop} {pop pop' : CmpOp} {a b c : E} {xa xb xc : PySem.Expr} {pos : Pos} (hm : copM op pop = true) (hm' : copM op' pop' = true) (hs : noSet xc = true)
    (ha : PE X xa (tE X G W a)) (hb : PE X xb (tE X G W b)) (hc : PE X xc (tE X G W c)) : PE X (.Compare xa [pop, pop'] [xb, xc] pos) (tE X G W (.chain op op' a b c)) :=
  PE.imp (pe_chain (op_cop C hm) (op_cop C hm') ha hb hc (by cases xc <;> first | rfl | cases hs)) fun σ H Q h => chain_of h
theorem non_iff {F : Hp} {m : Nat → Addr} {L : Nat} {v : Val} {y : V} (k : Rep X.K G F m L v y) : decide (y = .non) = isNon v := by
  cases k <;> simp [isNon]
theorem s_isn {n : Bool} {a : E} {xa : PySem.Expr} {pop : CmpOp} {j : Nat} {p pos : Pos} (hm : isnM n [pop] = true) (ha : PE X xa (tE X G W a)) :
    PE X (.Compare xa [pop] [.Constant .none j p] pos) (tE X G W (.isn n a)) := by
  cases n <;> cases pop <;> simp only [isnM] at hm <;> first | (exact absurd hm Bool.false_ne_true) | skip
  · refine PE.imp (pe_cmp (pc_isN ha)) fun σ H Q h => ?_
    obtain ⟨F, m, env, st, r, rs, p⟩ := h
    refine ⟨F, m, env, st, r, rs, (PostG.bind p).mono fun va F1 m1 st1 H1 e1 r1 q1 y1 k1 => ?_⟩
    show Q (.bl (decide (y1 = .non))) H1
    rw [non_iff k1]
    have z := q1.ok r1 _ (.bl _)
    simpa using z
  · refine PE.imp (pe_cmp (pc_notN ha)) fun σ H Q h => ?_
    obtain ⟨F, m, env, st, r, rs, p⟩ := h
    refine ⟨F, m, env, st, r, rs, (PostG.bind p).mono fun va F1 m1 st1 H1 e1 r1 q1 y1 k1 => ?_⟩
    show Q (.bl (!decide (y1 = .non))) H1
    rw [non_iff k1]
    have z := q1.ok r1 _ (.bl _)
    simpa using z
theorem s_isb {n : Bool} {b : Bool} {a : E} {xa : PySem.Expr} {pop : CmpOp} {j : Nat} {p pos : Pos} (hm : isnM n [pop] = true) (ha : PE X xa (tE X G W a)) :
    PE X (.Compare xa [pop] [.Constant (.bool b) j p] pos) (tE X G W (.isb n a b)) := by
  cases n <;> cases pop <;> simp only [isnM] at hm <;> first | (exact absurd hm Bool.false_ne_true) | skip
  · refine PE.imp (pe_cmpR op_isBl ha pe_bl rfl) fun σ H Q h => ?_
    obtain ⟨F, m, env, st, r, rs, p⟩ := h
    refine ⟨F, m, env, st, r, rs, (PostG.bind p).mono fun va F1 m1 st1 H1 e1 r1 q1 y1 k1 => ?_⟩
    cases k1 <;> try exact q1.elim
    refine ⟨_, b, rfl, rfl, ?_⟩
    have z := q1.ok r1 _ (.bl _)
    simpa using z
  · refine PE.imp (pe_cmpR op_notBl ha pe_bl rfl) fun σ H Q h => ?_
    obtain ⟨F, m, env, st, r, rs, p⟩ := h
    refine ⟨F, m, env, st, r, rs, (PostG.bind p).mono fun va F1 m1 st1 H1 e1 r1 q1 y1 k1 => ?_⟩
    cases k1 <;> try exact q1.elim
    refine ⟨_, b, rfl, rfl, ?_⟩
    have z := q1.ok r1 _ (.bl _)
    simpa using z
theorem s_and {a b : E} {xa xb : PySem.Expr} {rest : List PySem.Expr} {pos : Pos} (ha : PE X xa (tE X G W a)) (hb : PE X (.BoolOp .And (xb :: rest) pos) (tE X G W b)) : PE X (.BoolOp .And (xa :: xb :: rest) pos) (tE X G W (.and a b)) := by
  refine PE.imp (pe_andT ha hb) fun σ H Q h => ?_
  obtain ⟨F, m, env, st, r, rs, p⟩ := h
  refine ⟨F, m, env, st, r, rs, (PostG.bind p).mono fun va F1 m1 st1 H1 e1 r1 q1 y1 k1 => ?_⟩
  obtain ⟨t, ht, q2⟩ := (PostG.bind q1).of r1
  refine ⟨t, truth_of r1 k1 ht, ?_⟩
  cases t with
  | true => rw [if_pos rfl] at q2 ⊢; exact ⟨F1, m1, env, st1, r1, rs.ext e1, q2⟩
  | false => rw [if_neg (by decide)] at q2 ⊢; exact q2.ok r1 _ k1
theorem s_or {a b : E} {xa xb : PySem.Expr} {rest : List PySem.Expr} {pos : Pos} (ha : PE X xa (tE X G W a)) (hb : PE X (.BoolOp .Or (xb :: rest) pos) (tE X G W b)) : PE X (.BoolOp .Or (xa :: xb :: rest) pos) (tE X G W (.or a b)) := by
  refine PE.imp (pe_orT ha hb) fun σ H Q h => ?_
  obtain ⟨F, m, env, st, r, rs, p⟩ := h
  refine ⟨F, m, env, st, r, rs, (PostG.bind p).mono fun va F1 m1 st1 H1 e1 r1 q1 y1 k1 => ?_⟩
  obtain ⟨t, ht, q2⟩ := (PostG.bind q1).of r1
  refine ⟨t, truth_of r1 k1 ht, ?_⟩
  cases t with
  | true => rw [if_pos rfl] at q2 ⊢; exact q2.ok r1 _ k1
  | false => rw [if_neg (by decide)] at q2 ⊢; exact ⟨F1, m1, env, st1, r1, rs.ext e1, q2⟩
theorem s_not {a : E} {xa : PySem.Expr} {pos : Pos} (ha : PE X xa (tE X G W a)) : PE X (.UnaryOp .Not xa pos) (tE X G W (.not a)) := by
  refine PE.imp (pe_notT ha) fun σ H Q h => ?_
  obtain ⟨F, m, env, st, r, rs, p⟩ := h
  refine ⟨F, m, env, st, r, rs, (PostG.bind p).mono fun va F1 m1 st1 H1 e1 r1 q1 y1 k1 => ?_⟩
  obtain ⟨w, hw, q2⟩ := q1.of r1
  obtain ⟨t, ht, rfl⟩ := Option.map_eq_some_iff.mp hw
  exact ⟨t, truth_of r1 k1 ht, q2 _ (.bl _)⟩
theorem s_ite {c a b : E} {xc xa xb : PySem.Expr} {pos : Pos} (hc : PT X xc (tT X G W c)) (ha : PE X xa (tE X G W a)) (hb : PE X xb (tE X G W b)) : PE X (.IfExp xc xa xb pos) (tE X G W (.ite c a b)) := by
  refine PE.imp (pe_ifExp hc ha hb) fun σ H Q h => ?_
  obtain ⟨F, m, env, st, r, rs, p⟩ := h
  refine ⟨F, m, env, st, r, rs, ?_⟩
  have p' : PostG X.K G (exW X G W σ) (fun v F m st H => ∀ y, Rep X.K G F m st.length v y → Q y H) F m st H (((evalE c env st).bind fun x st1 => Out.of (truth x st1) st1).bind fun t st2 => if t = true then evalE a env st2 else evalE b env st2) := by
    cases hcc : evalE c env st with
    | ok v st1 => simpa [evalE, hcc] using p
    | exc c' xs st1 => simpa [evalE, hcc] using p
    | bad => simpa [evalE, hcc] using p
  refine (PostG.bind p').mono fun t F1 m1 st1 H1 e1 r1 q1 => ?_
  cases t with
  | true => rw [if_pos rfl] at q1 ⊢; exact ⟨F1, m1, env, st1, r1, rs.ext e1, q1⟩
  | false => rw [if_neg (by decide)] at q1 ⊢; exact ⟨F1, m1, env, st1, r1, rs.ext e1, q1⟩
theorem s_nil : PA X [] (tA X G W .nil) := by
  refine PA.imp pa_nil fun σ H Q h => ?_
  obtain ⟨F, m, env, st, r, rs, p⟩ := h
  exact p.ok r _ .nil
theorem star_of {e : PySem.Expr} {es : List PySem.Expr} {env : PySem.Env} (h : noStar e = true) : starEach (e :: es) env = (false, eval e env) :: starEach es env := by
  cases e <;> first | rfl | cases h
theorem s_cons {e : E} {es : Es} {x : PySem.Expr} {xs : List PySem.Expr} (hs : noStar x = true) (he : PE X x (tE X G W e)) (hes : PA X xs (tA X G W es)) : PA X (x :: xs) (tA X G W (.cons e es)) := by
  refine PA.imp (pa_cons he hes (star_of hs)) fun σ H Q h => ?_
  obtain ⟨F, m, env, st, r, rs, p⟩ := h
  refine ⟨F, m, env, st, r, rs, (PostG.bind p).mono fun va F1 m1 st1 H1 e1 r1 q1 y1 k1 => ?_⟩
  refine ⟨F1, m1, env, st1, r1, rs.ext e1, (PostG.bind q1).mono fun vs F2 m2 st2 H2 e2 r2 q2 ys ks => ?_⟩
  exact q2.ok r2 _ (.cons (e2.rep k1) ks)
theorem s_tup {es : Es} {xs : List PySem.Expr} {k : Nat} {pos : Pos} (h : PA X xs (tA X G W es)) : PE X (.Tuple xs k pos) (tE X G W (.tup es)) := by
  refine PE.imp (pe_tup h) fun σ H Q h => ?_
  obtain ⟨F, m, env, st, r, rs, p⟩ := h
  refine ⟨F, m, env, st, r, rs, (PostG.bind p).mono fun vs F1 m1 st1 H1 e1 r1 q1 ys ks => ?_⟩
  split at q1
  · rename_i hl
    exact ⟨by rw [← ks.length]; exact hl, fun p hp => (Fin.of q1).tup r1 ks p hp⟩
  · exact q1.elim
theorem s_nlst {es : Es} {xs : List PySem.Expr} {pos : Pos} (h : PA X xs (tA X G W es)) : PE X (.List xs pos) (tN X G W (.lst es)) := by
  refine PE.imp (pe_lst h) fun σ H Q h => ?_
  obtain ⟨F, m, env, st, r, rs, p⟩ := h
  refine ⟨F, m, env, st, r, rs, (PostG.bind p).mono fun vs F1 m1 st1 H1 e1 r1 q1 ys ks => ?_⟩
  split at q1
  · rename_i hl
    refine ⟨by rw [← ks.length]; exact hl, fun p hp => ?_⟩
    exact q1 _ _ _ (Ext.lay hp _) (r1.lay hp _) p _ (e1.there p (nu.of hp)) (r1.fz.free hp) (fun n l => r1.ne l (nu.of hp)) upd_same ⟨ys, rfl, ks⟩
  · exact q1.elim
theorem s_dct {t : Bool} {pos : Pos} : PE X (.Dict [] [] pos) (tN X G W (.dct t)) := by
  cases t with
  | true =>
    refine PE.imp pe_dnewT fun σ H Q h => ?_
    obtain ⟨F, m, env, st, r, rs, p⟩ := h
    intro q hp
    have p' : PostG X.K G (exW X G W σ) _ F m st H (Out.ok (Cell.dT []) st) := p
    exact p' _ _ _ (Ext.lay hp _) (r.lay hp _) q _ (nu.of hp) (r.fz.free hp) (fun n l => r.ne l (nu.of hp)) upd_same ⟨[], rfl, .nil⟩
  | false =>
    refine PE.imp pe_dnewK fun σ H Q h => ?_
    obtain ⟨F, m, env, st, r, rs, p⟩ := h
    intro q hp
    have p' : PostG X.K G (exW X G W σ) _ F m st H (Out.ok (Cell.dK []) st) := p
    exact p' _ _ _ (Ext.lay hp _) (r.lay hp _) q _ (nu.of hp) (r.fz.free hp) (fun n l => r.ne l (nu.of hp)) upd_same ⟨[], rfl, .nil⟩
/-- {k: v}, k a tuple -/
theorem pe_disp1 (hu : X.A.units < cLine) {xk xv : PySem.Expr} {tk tv : TE} {pos : Pos} (hk : PE X xk tk) (hv : PE X xv tv) : PE X (.Dict [some xk] [xv] pos) (fun σ H Q => ∀ p, H p = none → tk σ (upd H p (.dT [])) fun x H1 => tv σ H1 fun y H2 =>
    ∃ (k : List L2.Key) (b : Addr), x = .ref b ∧ H2 b = some (.tup (k.map kV)) ∧ H2 p = some (.dT []) ∧ Q (.ref p) (upd H2 p (.dT [(k, y)]))) := by
  refine ⟨fun pins s σ H Q I h => ?_⟩
  have hn := I.hok.fresh (Nat.le_refl s.heap.objs.size)
  have I1 := I.laid (a := s.heap.objs.size) (o := .dT []) (h' := s.heap.push { cls := .type "dict", data := .dict #[] }) (t' := s.toks) (fun _ _ q => Heap.get?_push_of_some _ q) (Nat.le_refl _) (dt_empty s.heap I.big)
  have hs : (evalEachOpt [some xk] X.env).zip ((evalEach [xv] X.env).map fun v => do let x ← v; standAt pos; pure x) = [(eval xk X.env, do let x ← eval xv X.env; standAt pos; pure x)].map fun p => (some p.1, p.2) := rfl
  rw [arm_eval_Dict, hs, dictDisplay_pairs _ (by simp) (by simp)]
  refine wpAny_bind (wpAny_standAt (wpAny_bind ?_))
  unfold subDict
  refine wpAny_bind (wpAny_alloc ?_)
  refine wpAny_bind (wpAny_holding ?_)
  rw [if_pos (by simp)]
  refine wpAny_bind (evalPairs_cons (thn (hk.run pins _ σ _ _ I1 (h _ hn)) fun u s2 ⟨x, H2, I2, rx, q⟩ => wpAny_bind (thn (hv.run pins s2 σ H2 _ I2 q) fun u2 s3 ⟨y, H3, I3, ry, k, b, ex, hb, hp, q3⟩ => wpAny_bind (wpAny_standAt (wpAny_pure (evalPairs_nil ?_))))))
  subst ex
  obtain rfl : u = Value.ref b := rx
  refine wpAny_holding ?_
  obtain ⟨z, hd, xs, rel, dd⟩ := dt_of I3.hok hp
  cases rel
  rw [List.forIn_cons]
  refine wpAny_bind (wpAny_bind (wpAny_bind (wpAny_dictSet_heap (knd := tupleKind (mixKind X.prog X.w)) (hsz := Nat.zero_le _) hu (key_of I3.hok hb) dd fun h' dd' hs => ?_)))
  have e1 : putK ([] : List (List L2.Key × V)) k y = [(k, y)] := rfl
  obtain ⟨o, es, ep, g1, g2, g3, g4, g5, g6⟩ := dd'
  have I4 : L2.Inv X pins σ (upd H3 s.heap.objs.size (.dT [(k, y)])) { s3 with heap := h', toks := s3.toks + (tupleKind (mixKind X.prog X.w)).draws k } := by
    have rl : KT H3 [(k, y)] (storedH [] k b u2) := by
      have := KT.put (H := H3) (kvs := []) (xs := []) .nil k hb ry
      rw [e1] at this; exact this
    refine d_write I3 (by rw [hp]; exact True.intro) hs ⟨o, g1⟩ ⟨by show (1 : Nat) ≤ sizeLine; decide, hd, _, rl.keeps fun c ys ec => ?_, o, es, ep, g1, g2, g3, g4, g6⟩
    rw [upd_ne (ne_of ec hp (fun z => nomatch z))]
    exact ec
  refine wpAny_pure ?_
  dsimp only
  rw [List.forIn_nil]
  exact wpAny_pure (wpAny_pure (wpAny_pure (wpAny_pure ⟨.ref s.heap.objs.size, _, I4, rfl, q3⟩)))
theorem s_dct1 (C : Cxt X G W) {k e : E} {xk xv : PySem.Expr} {pos : Pos} (hk : PE X xk (tE X G W k)) (he : PE X xv (tE X G W e)) : PE X (.Dict [some xk] [xv] pos) (tN X G W (.dct1 k e)) := by
  refine PE.imp (pe_disp1 (by have := C.units; omega) hk he) fun σ H Q h => ?_
  obtain ⟨F, m, env, st, r, rs, p⟩ := h
  intro D hD
  have e0 : Ext F m st H F m st (upd H D (.dT [])) := Ext.lay hD _
  have r0 := r.lay hD (.dT [])
  simp only [evalN] at p
  refine ⟨F, m, env, st, r0, rs, ?_⟩
  cases hE : evalE k env st with
  | bad => rw [hE] at p; exact p
  | exc c xs st1 => rw [hE] at p; exact fun F' m' H' e' r' => p F' m' H' (e0.trans e') r'
  | ok kv st1 =>
    rw [hE] at p
    intro F1 m1 H1 e1 r1 y1 k1
    refine ⟨F1, m1, env, st1, r1, rs.ext e1, ?_⟩
    simp only [Out.bind_ok] at p
    cases hV : evalE e env st1 with
    | bad => rw [hV] at p; exact p
    | exc c xs st2 => rw [hV] at p; exact fun F' m' H' e' r' => p F' m' H' ((e0.trans e1).trans e') r'
    | ok v st2 =>
      rw [hV] at p
      intro F2 m2 H2 e2 r2 y2 k2
      simp only [Out.bind_ok] at p
      cases hK : tkeyOf kv with
      | none => rw [hK] at p; exact p.elim
      | some kk =>
        rw [hK] at p
        cases kv <;> simp only [tkeyOf] at hK <;> try cases hK
        have k1' := e2.rep k1
        cases k1' with
        | tup hb qb =>
          rename_i b ys
          have ek := keys_of_reps qb hK
          subst ek
          have e12 := e1.trans e2
          have hne : ∀ n, live st n → m n ≠ D := fun n l => r.ne l (nu.of hD)
          have hF2 : F2 D = none := by
            cases q : F2 D with
            | none => rfl
            | some o =>
              rcases e12.fnew D (by rw [q]; simp) with z | z | ⟨n, l, z⟩
              · exact absurd (r.fz.free hD) z
              · exact absurd True.intro (z _ upd_same)
              · exact absurd z (hne n l)
          have hD2 : H2 D = some (.dT []) := (e12.keep D _ upd_same (by intro _ z; cases z) hne).resolve_right (fun z => nomatch hF2.symm.trans z.2.1)
          have hne2 : ∀ n, live st2 n → m2 n ≠ D := fun n l => by
            by_cases hn : n < st.length
            · rw [e12.mm n hn]; exact hne n (e12.lv n hn l)
            · intro z
              have z2 := e12.nw n (Nat.not_lt.mp hn) l
              rw [z] at z2; obtain ⟨ps, z2⟩ := z2 _ upd_same; cases z2
          refine ⟨_, b, rfl, r2.fz.tup hb, hD2, ?_⟩
          have ee := e0.trans e12
          refine p F2 m2 _ ⟨ee.same, ee.len, ee.mm, ee.lv, ee.nw, fun a o ha nt nl => ?_, fun a ha => ?_, ee.fnew⟩ ?_ D _ (nu.of hD) hF2 hne2 upd_same ⟨_, rfl, .cons k2 .nil⟩
          · have ne : a ≠ D := fun z => by rw [z, hD] at ha; cases ha
            rw [upd_ne ne]; exact ee.keep a o ha nt nl
          · by_cases z : a = D
            · rw [z]; exact nu.of hD
            · exact ee.there a fun o q => ha o (by rw [upd_ne z]; exact q)
          · refine ⟨fun a u hu => ?_, fun n cc hn => (r2.cell n cc hn).mono (Same.refl _) (fun _ _ => rfl) (Nat.le_refl _) fun hcc => upd_ne (hne2 n ⟨cc, hn, hcc⟩), r2.inj, r2.off, r2.nt, tabs_upd hD2 (by intro _ z; cases z) (by intro _ _ z; unfold LamX.CodeO at z; cases z) r2.tb⟩
            have ne : a ≠ D := fun z => by rw [z, hF2] at hu; cases hu
            rw [upd_ne ne]; exact r2.fz a u hu
theorem val_of {n : Nw} {σ : L2.St} {H : Hp} {Q : VK} (h : tE X G W (.val n) σ H Q) : tN X G W n σ H Q := by
  obtain ⟨F, m, env, st, r, rs, p⟩ := h
  refine ⟨F, m, env, st, r, rs, ?_⟩
  simp only [evalE] at p
  cases hN : evalN n env st with
  | bad => rw [hN] at p; exact p
  | exc c xs st1 => rw [hN] at p; exact p
  | ok c st1 =>
    rw [hN] at p
    intro F1 m1 H1 e1 r1 q o hq hF hn hH ho
    cases c with
    | dead => exact ho.elim
    | lst xs =>
      obtain ⟨ys, eo, k⟩ := ho
      subst eo
      exact p _ _ _ (e1.take hq hF) (r1.take hF hn hH) _ (.lst upd_same (k.mono (Same.upd hF) (fun _ _ => rfl) (Nat.le_refl _)))
    | dK xs =>
      obtain ⟨ys, eo, k⟩ := ho
      subst eo
      exact p _ _ _ (e1.take hq hF) (r1.take hF hn hH) _ (.dK upd_same (k.mono (Same.upd hF) (fun _ _ => rfl) (Nat.le_refl _)))
    | dT xs =>
      obtain ⟨ys, eo, k⟩ := ho
      subst eo
      exact p _ _ _ (e1.take hq hF) (r1.take hF hn hH) _ (.dT upd_same (k.mono (Same.upd hF) (fun _ _ => rfl) (Nat.le_refl _)))
theorem s_val {n : Nw} {x : PySem.Expr} (h : PE X x (tN X G W n)) : PE X x (tE X G W (.val n)) := PE.imp h fun σ H Q h => val_of h
theorem cell_of {n : Nw} {σ : L2.St} {H : Hp} {Q : VK} (h : tE X G W (.cell n) σ H Q) : tN X G W n σ H Q := by
  obtain ⟨F, m, env, st, r, rs, p⟩ := h
  refine ⟨F, m, env, st, r, rs, ?_⟩
  simp only [evalE] at p
  cases hN : evalN n env st with
  | bad => rw [hN] at p; exact p
  | exc c xs st1 => rw [hN] at p; exact p
  | ok c st1 =>
    rw [hN] at p
    intro F1 m1 H1 e1 r1 q o hq hF hn hH ho
    exact p _ _ _ (e1.newCell hq) (r1.newCell hF hn hH ho) _ (.ref (by simp) mAt_same)
theorem s_cell {n : Nw} {x : PySem.Expr} (h : PE X x (tN X G W n)) : PE X x (tE X G W (.cell n)) := PE.imp h fun σ H Q h => cell_of h
theorem plain_ix {xi : PySem.Expr} (h : noSlice xi = true) : PlainIx xi := by
  intro o i
  cases xi <;> first | rfl | cases h
theorem s_idx (C : Cxt X G W) {o i : E} {xo xi : PySem.Expr} {pos : Pos} (hn : noSlice xi = true) (ho : PE X xo (tE X G W o)) (hi : PE X xi (tE X G W i)) : PE X (.Subscript xo xi pos) (tE X G W (.idx o i)) :=
  PE.imp (pe_ix (ix_idx C) ho hi (plain_ix hn)) fun σ H Q h => bin_of (xa := xo) (xb := xi) h
theorem s_onone : PO X none (tO X G W .none) := by
  refine ⟨fun pins s σ H Q I h => (po_none (X := X)).run pins s σ H Q I ?_⟩
  obtain ⟨F, m, env, st, r, rs, p⟩ := h
  exact p.ok r
theorem s_osome {e : E} {x : PySem.Expr} (he : PE X x (tE X G W e)) : PO X (some x) (tO X G W (.some e)) := by
  refine ⟨fun pins s σ H Q I h => (po_some he).run pins s σ H Q I ?_⟩
  obtain ⟨F, m, env, st, r, rs, p⟩ := h
  refine ⟨F, m, env, st, r, rs, (PostG.bind p).mono fun va F1 m1 st1 H1 e1 r1 q1 y1 k1 => ?_⟩
  cases k1 <;> try exact q1.elim
  exact ⟨_, rfl, q1.ok r1⟩
theorem s_slc {o : E} {lo hi : Eo} {xo : PySem.Expr} {xl xh : Option PySem.Expr} {p2 pos : Pos} (ho : PE X xo (tE X G W o)) (hl : PO X xl (tO X G W lo)) (hh : PO X xh (tO X G W hi)) : PE X (.Subscript xo (.Slice xl xh none p2) pos) (tE X G W (.slc o lo hi)) := by
  refine PE.imp (pe_slice (sl_slc (G := G)) ho hl hh) fun σ H Q h => ?_
  obtain ⟨F, m, env, st, r, rs, p⟩ := h
  refine ⟨F, m, env, st, r, rs, (PostG.bind p).mono fun va F1 m1 st1 H1 e1 r1 q1 y1 k1 => ?_⟩
  refine ⟨F1, m1, env, st1, r1, rs.ext e1, (PostG.bind q1).mono fun l F2 m2 st2 H2 e2 r2 q2 => ?_⟩
  refine ⟨F2, m2, env, st2, r2, (rs.ext e1).ext e2, (PostG.bind q2).mono fun u F3 m3 st3 H3 e3 r3 q3 => ?_⟩
  obtain ⟨w, hw, _⟩ := q3.of r3
  rw [hw] at q3
  exact ⟨F3, m3, st3, va, w, r3, (e2.trans e3).rep k1, hw, Fin.of q3⟩
theorem s_rev {o : E} {xo : PySem.Expr} {k : Nat} {p1 p2 p3 pos : Pos} (ho : PE X xo (tE X G W o)) : PE X (.Subscript xo (.Slice none none (some (.UnaryOp .USub (.Constant (.int 1) k p1) p2)) p3) pos) (tE X G W (.rev o)) := by
  refine PE.imp (pe_back ho) fun σ H Q h => ?_
  obtain ⟨F, m, env, st, r, rs, p⟩ := h
  refine ⟨F, m, env, st, r, rs, (PostG.bind p).mono fun va F1 m1 st1 H1 e1 r1 q1 y1 k1 => ?_⟩
  obtain ⟨w, hw, _⟩ := q1.of r1
  rw [hw] at q1
  have fz := Fin.of q1
  unfold revV at hw
  split at hw
  · cases hw
    cases k1 with
    | tup ha q => exact ⟨_, _, rfl, .inr ⟨SqT.of (r1.fz.tup ha), fz.tup r1 q.reverse⟩⟩
  · cases hw
    cases k1 with
    | lst ha q => exact ⟨_, _, rfl, .inl ⟨SqL.of (r1.fz.lst ha), fz.lst r1 q.reverse⟩⟩
  · split at hw
    · rename_i n _ xs hk
      cases hw
      cases k1 with
      | ref hn z =>
        subst z
        obtain ⟨ys, h1, h2⟩ := r1.cell n _ hk
        exact ⟨_, _, rfl, .inl ⟨SqL.of h1, fz.lst r1 h2.reverse⟩⟩
    · cases hw
  · cases hw
theorem ints_reps : ∀ {F : Hp} {m : Nat → Addr} {L : Nat} {xs : List Val} {ys : List V} {ns : List Int}, Reps X.K G F m L xs ys → intsOf xs = some ns → ys = ns.map V.int
  | _, _, _, [], _, _, .nil, h => by cases h; rfl
  | _, _, _, x :: xs, _, _, .cons r t, h => by
    cases x <;> simp only [intsOf] at h <;> try cases h
    obtain ⟨ms, h1, rfl⟩ := Option.map_eq_some_iff.mp h
    cases r
    rw [ints_reps t h1]
    rfl
theorem s_lenset (C : Cxt X G W) {o : E} {xo : PySem.Expr} {p1 p2 q pos : Pos} (hg : Gl X "len") (hg2 : Gl X "set") (hs : noStar xo = true) (hca : X.calm = true) (ho : PE X xo (tE X G W o)) : PE X (.Call (.Name "len" p1) [.Call (.Name "set" p2) [xo] [] q] [] pos) (tE X G W (.lenset o)) := by
  refine PE.imp (pe_lenSetT hg (C.bl _ (by decide)) hg2 (C.bl _ (by decide)) ho hca (star_of hs)) fun σ H Q h => ?_
  obtain ⟨F, m, env, st, r, rs, p⟩ := h
  refine ⟨F, m, env, st, r, rs, (PostG.bind p).mono fun va F1 m1 st1 H1 e1 r1 q1 y1 k1 => ?_⟩
  obtain ⟨w, hw, _⟩ := q1.of r1
  rw [hw] at q1
  have fz := Fin.of q1
  unfold lensV at hw
  split at hw
  · split at hw
    · rename_i ns hn
      obtain ⟨hl, hw⟩ := ite_some hw
      subst hw
      cases k1 with
      | tup ha q =>
        have e := ints_reps q hn
        subst e
        exact ⟨_, ns, rfl, SqT.of (r1.fz.tup ha), hl, fz.now r1 (.int _)⟩
    · cases hw
  · cases hw
/-- many new things taken among what never changes -/
theorem take_many {F0 : Hp} {m0 m : Nat → Addr} {st0 st : Store} {H0 H : Hp} : ∀ {ts : List Addr} {qs : List (L2.Key × V)}, Paired (fun (t : Addr) (q : L2.Key × V) => H t = some (.tup [kV q.1, q.2])) ts qs → ∀ {F : Hp}, Ext F0 m0 st0 H0 F m st H → RelH X.K G F m st H → (∀ t ∈ ts, nu H0 t ∧ ∀ n, live st n → m n ≠ t) →
    ∃ F', Ext F0 m0 st0 H0 F' m st H ∧ RelH X.K G F' m st H ∧ Same F F' ∧ (∀ a, a ∉ ts → F' a = F a) ∧ Paired (fun (t : Addr) (q : L2.Key × V) => F' t = some (.tup [kV q.1, q.2])) ts qs
  | [], _, .nil, F, e, r, _ => ⟨F, e, r, Same.refl F, fun _ _ => rfl, .nil⟩
  | t :: ts, _, .cons (b := q) h p, F, e, r, hn => by
    have hs : ∃ F1, Ext F0 m0 st0 H0 F1 m st H ∧ RelH X.K G F1 m st H ∧ Same F F1 ∧ (∀ a, a ≠ t → F1 a = F a) ∧ F1 t = some (.tup [kV q.1, q.2]) := by
      cases hF : F t with
      | none => exact ⟨upd F t _, e.take (hn t (.head _)).1 hF, r.take hF (hn t (.head _)).2 h, Same.upd hF, fun a ha => upd_ne ha, upd_same⟩
      | some o =>
        refine ⟨F, e, r, Same.refl F, fun _ _ => rfl, ?_⟩
        rcases r.fz t o hF with z | ⟨_, ob, z⟩
        · rw [h] at z; rw [hF]; exact z.symm
        · rw [h] at z; cases z
    obtain ⟨F1, e1, r1, s1, o1, t1⟩ := hs
    obtain ⟨F2, e2, r2, s2, o2, p2⟩ := take_many p e1 r1 fun x hx => hn x (.tail _ hx)
    exact ⟨F2, e2, r2, s1.trans s2, fun a ha => by
      rw [o2 a (fun z => ha (.tail _ z)), o1 a (fun z => ha (by rw [z]; exact .head _))], .cons (s2 t _ t1) p2⟩
theorem items_reps {F F' : Hp} {m : Nat → Addr} {L : Nat} (s : Same F F') : ∀ {kvs : List (L2.Key × Val)} {qs : List (L2.Key × V)} {ts : List Addr}, RepK X.K G F m L kvs qs → Paired (fun (t : Addr) (q : L2.Key × V) => F' t = some (.tup [kV q.1, q.2])) ts qs → Reps X.K G F' m L (kvs.map fun p => .tup [vOfKey p.1, p.2]) (ts.map V.ref)
  | [], _, _, .nil, .nil => .nil
  | (k, x) :: kvs, _, _, .cons r t, .cons h p => by
    refine .cons (.tup h (.cons ?_ (.cons (r.mono s (fun _ _ => rfl) (Nat.le_refl _)) .nil))) (items_reps s t p)
    cases k with
    | inl i => exact .int i
    | inr w => exact .str w
theorem s_litems (C : Cxt X G W) {o : E} {y : PySem.Str} {p1 yp ap cp pos : Pos} (hg : Gl X "list") (hl : (ap.endLine == cp.line) = true) (hca : X.calm = true) (ho : PE X (.Name y yp) (tE X G W o)) : PE X (.Call (.Name "list" p1) [.Call (.Attribute (.Name y yp) "items" ap) [] [] cp] [] pos) (tE X G W (.litems o)) := by
  refine PE.imp (LiI.pe_listItems hca ho hg (C.bl _ (by decide)) (by decide +kernel) rfl hl rfl) fun σ H Q h => ?_
  obtain ⟨F, m, env, st, r, rs, p⟩ := h
  refine ⟨F, m, env, st, r, rs, (PostG.bind p).mono fun va F1 m1 st1 H1 e1 r1 q1 y1 k1 => ?_⟩
  obtain ⟨w, hw, _⟩ := q1.of r1
  rw [hw] at q1
  unfold litemsV at hw
  split at hw
  · rename_i n
    split at hw
    · rename_i kvs hk0
      cases hw
      cases k1 with
      | ref hn hz =>
        rename_i a
        obtain ⟨qs, hf, q⟩ := r1.cell n _ hk0
        rw [hz] at hf
        refine ⟨a, qs, rfl, hf, fun H' pl ts hk hp hts hpt hl hpr => ?_⟩
        have nts : ∀ t ∈ ts, nu H1 t ∧ ∀ n, live st1 n → m1 n ≠ t := fun t ht => ⟨nu.of (hts t ht), fun n lv => r1.ne lv (nu.of (hts t ht))⟩
        have r2 : RelH X.K G F1 m1 st1 H' := r1.grow (LamX.ExtN.of hk) (fun pp hpp => (r1.tb pp hpp).ext hk)
        obtain ⟨F2, e2, r3, s2, o2, p2⟩ := take_many hpr (Ext.grow (F := F1) (m := m1) (st := st1) (LamX.ExtN.of hk)) r2 nts
        have fp : F2 pl = none := by rw [o2 pl hpt]; exact r1.freeF (nu.of hp)
        have np : ∀ n, live st1 n → m1 n ≠ pl := fun n lv => r1.ne lv (nu.of hp)
        refine q1 _ _ _ (e2.take (o := .lst (ts.map V.ref)) (nu.of hp) fp) (r3.take fp np hl) _ (.lst upd_same ?_)
        exact (items_reps s2 q p2).mono (Same.upd fp) (fun _ _ => rfl) (Nat.le_refl _)
    · cases hw
  · cases hw
theorem blt_of {f : Blt} {es : Es} {σ : L2.St} {H : Hp} {Q : VK} (h : tE X G W (.blt f es) σ H Q) : tCB (rL X G (blt f)) (tA X G W es) σ H Q := by
  obtain ⟨F, m, env, st, r, rs, p⟩ := h
  refine ⟨F, m, env, st, r, rs, (PostG.bind p).mono fun vs F1 m1 st1 H1 e1 r1 q1 ys ks => ?_⟩
  obtain ⟨w, hw, _⟩ := q1.of r1
  rw [hw] at q1
  exact ⟨F1, m1, st1, vs, w, r1, ks, hw, Fin.of q1⟩
theorem any_of {es : List PySem.Expr} {pos : Pos} {env : PySem.Env} (h : es.all noStar = true) : (backTo pos (starEach es env)).any (·.1) = false := by
  induction es with
  | nil => rfl
  | cons e es ih =>
    simp only [List.all_cons, Bool.and_eq_true] at h
    rw [star_of h.1]
    show (false || (backTo pos (starEach es env)).any (·.1)) = false
    rw [ih h.2]
    rfl
theorem s_blt (C : Cxt X G W) {f : Blt} (hgd : f = .repr → X.A.guards = some []) (hca : bltCalm f = true → X.calm = true) {es : Es} {x : PySem.Str} {p pos : Pos} {e : PySem.Expr} {xs : List PySem.Expr} (hm : bltM f x (e :: xs).length = true) (hg : Gl X x) (hs : (e :: xs).all noStar = true) (ha : PA X (e :: xs) (tA X G W es)) :
    PE X (.Call (.Name x p) (e :: xs) [] pos) (tE X G W (.blt f es)) := by
  have h1 : noStar e = true := by simp only [List.all_cons, Bool.and_eq_true] at hs; exact hs.1
  have h2 : xs.all noStar = true := by simp only [List.all_cons, Bool.and_eq_true] at hs; exact hs.2
  have go : ∀ {id : String}, CallR X (.builtin id) (rL X G (blt f)) → X.mg x = none → bootBuiltins x = some (.builtin id) → x ≠ "__name__" → (x == ("__debug__" : PySem.Str)) = false → PE X (.Call (.Name x p) (e :: xs) [] pos) (tE X G W (.blt f es)) :=
    fun hc hm hv hn hd => PE.imp (pe_callB hc hg hm hv ha hn hd (star_of h1) (any_of h2)) fun σ H Q h => blt_of h
  have goT : ∀ {T : String}, CallR X (.type T) (rL X G (blt f)) → X.mg x = none → bootBuiltins x = some (.type T) → x ≠ "__name__" → (x == ("__debug__" : PySem.Str)) = false → PE X (.Call (.Name x p) (e :: xs) [] pos) (tE X G W (.blt f es)) :=
    fun hc hm hv hn hd => PE.imp (pe_callTy hc hg hm hv ha hn hd (star_of h1) (any_of h2)) fun σ H Q h => blt_of h
  unfold bltM at hm
  split at hm <;> (try cases hm) <;> (have hx := eq_of_beq hm; subst hx)
  · exact go cr_len (C.bl _ (by decide)) (by decide +kernel) (by decide) (by decide)
  · exact goT cr_tuple (C.bl _ (by decide)) (by decide +kernel) (by decide) (by decide)
  · exact goT cr_list (C.bl _ (by decide)) (by decide +kernel) (by decide) (by decide)
  · exact go (cr_all' (hca rfl)) (C.bl _ (by decide)) (by decide +kernel) (by decide) (by decide)
  · exact go (cr_any' (hca rfl)) (C.bl _ (by decide)) (by decide +kernel) (by decide) (by decide)
  · exact go cr_abs (C.bl _ (by decide)) (by decide +kernel) (by decide) (by decide)
  · exact goT cr_int (C.bl _ (by decide)) (by decide +kernel) (by decide) (by decide)
  · exact go (cr_sum' (hca rfl)) (C.bl _ (by decide)) (by decide +kernel) (by decide) (by decide)
  · exact go (cr_max2 (hca rfl)) (C.bl _ (by decide)) (by decide +kernel) (by decide) (by decide)
  · exact go (cr_min2 (hca rfl)) (C.bl _ (by decide)) (by decide +kernel) (by decide) (by decide)
  · exact go (cr_repr (hgd rfl) C.units) (C.bl _ (by decide)) (by decide +kernel) (by decide) (by decide)
  · exact go (cr_sorted' C.units) (C.bl _ (by decide)) (by decide +kernel) (by decide) (by decide)
  · exact goT cr_str (C.bl _ (by decide)) (by decide +kernel) (by decide) (by decide)
  · exact go (cr_min1 (hca rfl) C.units) (C.bl _ (by decide)) (by decide +kernel) (by decide) (by decide)
theorem s_ls (C : Cxt X G W) {a : E} {xa : PySem.Expr} {p pos : Pos} (hg : Gl X "list") (hs : noStar xa = true) (ha : PE X xa (tE X G W a)) : PE X (.Call (.Name "list" p) [xa] [] pos) (tN X G W (.ls a)) := by
  have hA : PA X [xa] (tCons (tE X G W a) tNil) := pa_cons ha pa_nil (star_of hs)
  refine PE.imp (pe_callTy call_list_of hg (C.bl _ (by decide)) (by decide +kernel) hA (by decide) (by decide) (star_of hs) (any_of (by rfl))) fun σ H Q h => ?_
  obtain ⟨F, m, env, st, r, rs, p⟩ := h
  refine ⟨F, m, env, st, r, rs, (PostG.bind p).mono fun va F1 m1 st1 H1 e1 r1 q1 y1 k1 => ?_⟩
  split at q1
  · rename_i zs hz
    obtain ⟨a', ys, rfl, q2, hq⟩ := seq_of r1 k1 hz
    refine ⟨a', ys, rfl, ?_, fun l hl => q1 _ _ _ (Ext.lay hl _) (r1.lay hl _) l _ (e1.there l (nu.of hl)) (r1.fz.free hl) (fun n lv => r1.ne lv (nu.of hl)) upd_same ⟨ys, rfl, q2⟩⟩
    rcases hq with ⟨h1, _⟩ | ⟨h1, _⟩
    · exact .inr h1
    · exact .inl (SqL.of h1)
  · exact q1.elim
theorem s_cat {a b : E} {xa xb : PySem.Expr} {pos : Pos} (ha : PE X xa (tE X G W a)) (hb : PE X xb (tE X G W b)) : PE X (.BinOp xa .Add xb pos) (tN X G W (.cat a b)) := by
  refine PE.imp (pe_op op_cat ha hb) fun σ H Q h => ?_
  obtain ⟨F, m, env, st, r, rs, p⟩ := h
  refine ⟨F, m, env, st, r, rs, (PostG.bind p).mono fun va F1 m1 st1 H1 e1 r1 q1 x1 k1 => ⟨F1, m1, env, st1, r1, rs.ext e1, (PostG.bind q1).mono fun vb F2 m2 st2 H2 e2 r2 q2 y2 k2 => ?_⟩⟩
  split at q2
  · split at q2
    · rename_i hl
      have ka := e2.rep k1
      cases ka with
      | lst h1 g1 =>
        cases k2 with
        | lst h2 g2 =>
          refine ⟨_, _, _, _, rfl, rfl, r2.fz.lst h1, r2.fz.lst h2, by rw [← g1.length, ← g2.length]; exact hl, fun l hn => q2 _ _ _ (Ext.lay hn _) (r2.lay hn _) l _ (e1.there l (e2.there l (nu.of hn))) ?_ ?_ upd_same ⟨_, rfl, g1.append g2⟩⟩
          · exact r2.fz.free hn
          · exact fun n lv => r2.ne lv (nu.of hn)
    · exact q2.elim
  · split at q2
    · rename_i hk
      split at q2
      · rename_i hl
        have ka := e2.rep k1
        cases ka with
        | ref hn hz =>
          obtain ⟨zs, hf, g1⟩ := r2.cell _ _ hk
          rw [hz] at hf
          cases k2 with
          | lst h2 g2 =>
            refine ⟨_, _, _, _, rfl, rfl, hf, r2.fz.lst h2, by rw [← g1.length, ← g2.length]; exact hl, fun l hn => q2 _ _ _ (Ext.lay hn _) (r2.lay hn _) l _ (e1.there l (e2.there l (nu.of hn))) ?_ ?_ upd_same ⟨_, rfl, g1.append g2⟩⟩
            · exact r2.fz.free hn
            · exact fun n lv => r2.ne lv (nu.of hn)
      · exact q2.elim
    · exact q2.elim
  · exact q2.elim
theorem s_rep {a b : E} {xa xb : PySem.Expr} {pos : Pos} (ha : PE X xa (tE X G W a)) (hb : PE X xb (tE X G W b)) : PE X (.BinOp xa .Mult xb pos) (tN X G W (.rep a b)) := by
  refine PE.imp (pe_op op_rep ha hb) fun σ H Q h => ?_
  obtain ⟨F, m, env, st, r, rs, p⟩ := h
  refine ⟨F, m, env, st, r, rs, (PostG.bind p).mono fun va F1 m1 st1 H1 e1 r1 q1 x1 k1 => ⟨F1, m1, env, st1, r1, rs.ext e1, (PostG.bind q1).mono fun vb F2 m2 st2 H2 e2 r2 q2 y2 k2 => ?_⟩⟩
  split at q2
  · split at q2
    · rename_i hl
      have ka := e2.rep k1
      cases ka with
      | lst h1 g1 =>
        cases k2
        refine ⟨_, _, _, rfl, rfl, r2.fz.lst h1, hl.2.1, hl.1, by rw [← g1.length]; exact hl.2.2, fun l hn => q2 _ _ _ (Ext.lay hn _) (r2.lay hn _) l _ (e1.there l (e2.there l (nu.of hn))) ?_ ?_ upd_same ⟨_, rfl, g1.rep _⟩⟩
        · exact r2.fz.free hn
        · exact fun n lv => r2.ne lv (nu.of hn)
    · exact q2.elim
  · exact q2.elim
theorem tn_boot (t : Tn) : bootBuiltins (PySem.Str.ofString (tnName t)) = some (.type (tnName t)) := by cases t <;> decide +kernel
theorem tn_bl (t : Tn) : PySem.Str.ofString (tnName t) ∈ bltNames := by cases t <;> decide
theorem s_isi (C : Cxt X G W) {a : E} {t : Tn} {xa : PySem.Expr} {p p2 pos : Pos} (hg : Gl X "isinstance") (hg2 : Gl X (PySem.Str.ofString (tnName t))) (hs : noStar xa = true) (ha : PE X xa (tE X G W a)) :
    PE X (.Call (.Name "isinstance" p) [xa, .Name (PySem.Str.ofString (tnName t)) p2] [] pos) (tE X G W (.isi a t)) := by
  have hA : PA X [xa, .Name (PySem.Str.ofString (tnName t)) p2] (tCons (tE X G W a) (tCons (tC (.ty (tnName t))) tNil)) :=
    pa_cons ha (pa_cons (pe_bltn hg2 (C.bl _ (tn_bl t)) (tn_boot t) rfl (by cases t <;> decide) (by cases t <;> decide)) pa_nil) (star_of hs)
  refine PE.imp (pe_callB call_isi hg (C.bl _ (by decide)) (by decide +kernel) hA (by decide) (by decide) (star_of hs) (any_of (by rfl))) fun σ H Q h => ?_
  obtain ⟨F, m, env, st, r, rs, p⟩ := h
  refine ⟨F, m, env, st, r, rs, (PostG.bind p).mono fun va F1 m1 st1 H1 e1 r1 q1 y1 k1 => ?_⟩
  obtain ⟨w, hw, q2⟩ := q1.of r1
  obtain ⟨b, hb, rfl⟩ := Option.map_eq_some_iff.mp hw
  obtain ⟨u, h1, h2⟩ := isi_of r1 k1 hb
  exact ⟨y1, .ty (tnName t), u, .type (tnName t), b, rfl, .ty _, h1, h2, q2 _ (.bl _)⟩
/-- the callee runs -/
theorem run_fnG {g : Bool} {k : Nat} {f : Addr} {fd : FuncData} {ps : List PySem.Str} {sp : Sp} {pins : List (Addr × Obj)} {σ : L2.St} {H : Hp} {s : Shared} {Q : VK} {us : List Value} {vs : List V} (C : Cxt X G W) (F : FnG (stat X) g k f fd ps sp) (hr : Room k X.A) (hg : g = true → X.A.guards = some []) (hb : Binds X.K fd ps [])
    (I : L2.Inv X pins σ H s) (r : Vals vs us) (h : sp vs H Q (WE W σ)) : wpAny (model X.prog X.w) X.A (call (.ref f) us) (EP X pins σ Q) X.xe s := by
  have hl : us.length = ps.length := by rw [← r.length]; exact F.len _ _ _ _ h
  have b := hb s us I.kIn (by rw [List.append_nil]; exact hl)
  rw [List.append_nil] at b
  refine wpAny_call (codeAny_mono (F.run X.A X.stack s H ⟨us, []⟩ us vs Q (WE W σ) hr hg I.env0 b r h) fun r s' hq => ?_)
  cases r with
  | error e => exact passAt C.takes σ pins H s e s' I hq
  | ok fl =>
    cases fl with
    | ret u => exact I.after hq
    | next => exact False.elim hq
    | brk => exact False.elim hq
    | cont => exact False.elim hq
theorem s_call (C : Cxt X G W) {v : Lv} {D : Den} {es : Es} {x : PySem.Str} {p pos : Pos} {xs : List PySem.Expr} (hd : notDbg x = true) (hg : Gl X x) (ok : CallOk (stat X) G v x D) (hr : Room v.k X.A) (hgd : v.g = true → X.A.guards = some []) (hs : xs.all noStar = true) (hz : xs = [] → es = .nil) (ha : PA X xs (tA X G W es)) :
    PE X (.Call (.Name x p) xs [] pos) (tE X G W (.call x D es)) := by
  obtain ⟨f, fd, ps, gm, kp, F, hb⟩ := ok
  cases xs with
  | nil =>
    rw [hz rfl]
    refine ⟨fun pins s σ H Q I h => ?_⟩
    obtain ⟨F', m, env, st, r, rs, p⟩ := h
    refine wpAny_Call_Name_kw (ld_glob I hg gm ?_ (dbg hd))
    exact PySem.W.callWith_K0 I.kIn kp (run_fnG (us := []) (vs := []) C F hr hgd hb I .nil ⟨F', m, st, [], r, .nil, p⟩)
  | cons e xs =>
    have h1 : noStar e = true := by simp only [List.all_cons, Bool.and_eq_true] at hs; exact hs.1
    have h2 : xs.all noStar = true := by simp only [List.all_cons, Bool.and_eq_true] at hs; exact hs.2
    refine ⟨fun pins s σ H Q I h => ?_⟩
    obtain ⟨F', m, env, st, r, rs, p⟩ := h
    refine wpAny_Call_Name_kw (ld_glob I hg gm ?_ (dbg hd))
    refine PySem.W.callWith_K (h₀ := X.base) I.ok.mod.kin kp (thn (ha.run pos pins s σ H (fun vs H1 => spOf X.K X.mg G D vs H1 Q (WE W σ)) I ⟨F', m, env, st, r, rs, (PostG.bind p).mono fun vs F1 m1 st1 H1 e1 r1 q1 ys ks => ⟨F1, m1, st1, vs, r1, ks, q1⟩⟩) fun us s1 ⟨vs, H1, I1, r, q⟩ => ⟨I1.kIn, ?_⟩) (star_of h1) (any_of h2)
    exact run_fnG C F hr hgd hb I1 r q
theorem lookup_mem {α : Type} {x : PySem.Str} {a : α} : ∀ {l : List (PySem.Str × α)}, l.lookup x = some a → (x, a) ∈ l
  | [], h => by cases h
  | (y, b) :: l, h => by
    rw [List.lookup_cons] at h
    split at h
    · rename_i e
      have := eq_of_beq e
      subst this
      cases h
      exact .head _
    · exact .tail _ (lookup_mem h)
theorem s_callv (C : Cxt X G W) {v : Lv} {i : Nat} {ds : List (PySem.Str × Den)} {es : Es} {x : PySem.Str} {p pos : Pos} {e : PySem.Expr} {xs : List PySem.Expr} (hN : X.N[i]? = some x) (hv : Vis X.env.scope x) (hd : notDbg x = true) (ok : ∀ p ∈ ds, CallOk (stat X) G v p.1 p.2 ∧ GfnOk (stat X) G p.1) (hr : Room v.k X.A) (hgd : v.g = true → X.A.guards = some []) (hs : (e :: xs).all noStar = true) (ha : PA X (e :: xs) (tA X G W es)) :
    PE X (.Call (.Name x p) (e :: xs) [] pos) (tE X G W (.callv i ds es)) := by
  have h1 : noStar e = true := by simp only [List.all_cons, Bool.and_eq_true] at hs; exact hs.1
  have h2 : xs.all noStar = true := by simp only [List.all_cons, Bool.and_eq_true] at hs; exact hs.2
  refine ⟨fun pins s σ H Q I h => ?_⟩
  obtain ⟨F', m, env, st, r, rs, q⟩ := h
  obtain ⟨D, hD, q⟩ := (PostG.bind q).of r
  cases hE : env.getD i none with
  | none => rw [hE] at hD; cases hD
  | some fv =>
    rw [hE, Option.bind_some] at hD
    unfold fnIn at hD
    split at hD
    · rename_i x0
      obtain ⟨⟨f, fd, ps, gm, kp, F, hb⟩, a', g1, g2⟩ := ok _ (lookup_mem hD)
      have ea : f = a' := by
        have z := gm.symm.trans g2
        cases z; rfl
      subst ea
      obtain ⟨y, hy, ry⟩ := rs.get hE
      have ey : y = .ref f := by
        cases ry with
        | fn z => rw [g1] at z; cases z; rfl
      subst ey
      refine wpAny_Call_Name_kw (thn ((pe_var (pos := p) hN hv (dbg hd) (dbg2 hd)).run pins s σ H (fun z Hb => z = .ref f ∧ Hb = H) I ⟨.ref f, hy, rfl, rfl⟩) fun u s1 ⟨z, H1, I1, r1, q1⟩ => ?_)
      obtain ⟨rfl, rfl⟩ := q1
      cases r1
      refine PySem.W.callWith_K (h₀ := X.base) I1.ok.mod.kin kp (thn (ha.run pos pins s1 σ H1 (fun vs Hb => spOf X.K X.mg G D vs Hb Q (WE W σ)) I1 ⟨F', m, env, st, r, rs, (PostG.bind q).mono fun vs F1 m1 st1 Hc e1 r1 q1 ys ks => ⟨F1, m1, st1, vs, r1, ks, q1⟩⟩) fun us s2 ⟨vs, H2, I2, r2, q2⟩ => ⟨I2.kIn, ?_⟩) (star_of h1) (any_of h2)
      exact run_fnG C F hr hgd hb I2 r2 q2
    · cases hD
end
end MP
set_option maxHeartbeats 4000000
/-! MPExpr2: targets, walks, comprehensions, methods, tests. -/
namespace MP
open PySem PyProof.Rows L2
section
variable {X : Cx} {G : GX} {W : WX} {N : List PySem.Str} {sc : Scope}

/-! ### targets -/
def gT (K : PySem.W.Frag) (G : GX) (t : Tgt) : TG := fun x σ H Q => ∃ F m st v env env', RelH K G F m st H ∧ Rep K G F m st.length v x ∧ RepS K G F m st.length env σ ∧ bindT t v env = some env' ∧
  ∀ σ', RepS K G F m st.length env' σ' → σ'.length = σ.length → (∀ i, i ∉ tgtSlots t → σ'[i]? = σ[i]?) → Q σ' H
def gTs (K : PySem.W.Frag) (G : GX) (ts : List Tgt) : TGs := fun xs σ H Q => ∃ F m st vs env env', RelH K G F m st H ∧ Reps K G F m st.length vs xs ∧ RepS K G F m st.length env σ ∧ bindTs ts vs env = some env' ∧
  ∀ σ', RepS K G F m st.length env' σ' → σ'.length = σ.length → (∀ i, i ∉ tgtsSlots ts → σ'[i]? = σ[i]?) → Q σ' H
theorem PGs.imp {es : List PySem.Expr} {t t' : TGs} (h : PGs X es t) (i : ∀ vs σ H Q, t' vs σ H Q → t vs σ H Q) : PGs X es t' := ⟨fun pins s σ H vs us Q I r q => h.run pins s σ H vs us Q I r (i vs σ H Q q)⟩
theorem assign_cons {e : PySem.Expr} {es : List PySem.Expr} {env : PySem.Env} (h : noStar e = true) : (assignEach (e :: es) env).map (·.2) = assign e env :: (assignEach es env).map (·.2) := by
  cases e <;> first | rfl | cases h
theorem assign_len {env : PySem.Env} : ∀ {es : List PySem.Expr}, es.all noStar = true → (assignEach es env).length = es.length ∧ (assignEach es env).findIdx? (·.1) = none
  | [], _ => ⟨rfl, rfl⟩
  | e :: es, h => by
    simp only [List.all_cons, Bool.and_eq_true] at h
    obtain ⟨h1, h2⟩ := assign_len (env := env) h.2
    have e1 : ∃ f, assignEach (e :: es) env = (false, f) :: assignEach es env := by
      cases e <;> first | exact ⟨_, rfl⟩ | exact absurd h.1 (by simp [noStar])
    obtain ⟨f, e1⟩ := e1
    rw [e1]
    refine ⟨by simp [h1], ?_⟩
    rw [List.findIdx?_cons]
    simp only [Bool.false_eq_true, if_false]
    rw [h2]
    rfl
theorem mTs_star {ck : Bool} : ∀ {ts : List Tgt} {xs : List PySem.Expr}, mTs N sc ck ts xs = true → xs.all noStar = true ∧ ts.length = xs.length
  | [], [], _ => ⟨rfl, rfl⟩
  | [], _ :: _, h => by simp [mTs] at h
  | _ :: _, [], h => by simp [mTs] at h
  | t :: ts, x :: xs, h => by
    simp only [mTs, Bool.and_eq_true] at h
    obtain ⟨h1, h2⟩ := mTs_star h.2
    simp [h.1.1, h1, h2]
theorem bindTs_len : ∀ {ts : List Tgt} {vs : List Val} {env env' : Env}, bindTs ts vs env = some env' → ts.length = vs.length
  | [], [], _, _, _ => rfl
  | [], _ :: _, _, _, h => by simp [bindTs] at h
  | _ :: _, [], _, _, h => by simp [bindTs] at h
  | t :: ts, x :: xs, env, env', h => by
    simp only [bindTs, Option.bind_eq_some_iff] at h
    obtain ⟨e1, _, h2⟩ := h
    simp [bindTs_len h2]
mutual
theorem pg_T {ck : Bool} (hc : X.calm = true) (nd : X.N.Nodup) (A : At X N sc) (hk : ck = true → ∀ x, X.fn x = true) : ∀ (t : Tgt) (x : PySem.Expr), mT N sc ck t x = true → PG X x (gT X.K G t)
  | .name i, x, h => by
    cases x <;> simp only [mT, Bool.false_eq_true] at h
    rename_i x pos
    simp only [Bool.and_eq_true] at h
    have h1 := A.ix h.1
    have h2 := h.2
    have loc : Loc X.env.scope x ∧ (X.fn x = true ∨ X.env.scope.names.lookup x = some .local) := by
      rw [A.s]
      split at h2
      · rename_i e; exact ⟨.inl e, .inr e⟩
      · rename_i e; exact ⟨.inr e, .inl (hk h2 x)⟩
      · cases h2
    refine PG.imp (pg_name nd h1 loc.1 loc.2) fun v σ H Q h => ?_
    obtain ⟨F, m, st, w, env, env', r, q, rs, hb, k⟩ := h
    simp only [bindT, Option.some.injEq] at hb
    subst hb
    refine k _ (rs.set q) (by simp) fun j hj => ?_
    have : i ≠ j := fun e => hj (by simp [tgtSlots, e])
    rw [List.getElem?_set_ne this]
  | .tup ts, x, h => by
    cases x <;> simp only [mT, Bool.false_eq_true] at h
    rename_i xs k pos
    obtain ⟨hs, hl⟩ := mTs_star h
    obtain ⟨h1, h2⟩ := assign_len (env := X.env) hs
    refine PG.imp (pg_tup hc (pg_Ts hc nd A hk ts xs h) h1 h2) fun v σ H Q h => ?_
    obtain ⟨F, m, st, w, env, env', r, q, rs, hb, k⟩ := h
    cases w <;> simp only [bindT] at hb <;> try cases hb
    cases q with
    | tup ha qs =>
      exact ⟨_, _, rfl, SqT.of (r.fz.tup ha), by rw [← qs.length, ← bindTs_len hb, hl], F, m, st, _, env, env', r, qs, rs, hb, k⟩
theorem pg_Ts {ck : Bool} (hc : X.calm = true) (nd : X.N.Nodup) (A : At X N sc) (hk : ck = true → ∀ x, X.fn x = true) : ∀ (ts : List Tgt) (xs : List PySem.Expr), mTs N sc ck ts xs = true → PGs X xs (gTs X.K G ts)
  | [], xs, h => by
    cases xs <;> simp only [mTs, Bool.false_eq_true] at h
    refine PGs.imp pgs_nil fun vs σ H Q h => ?_
    obtain ⟨F, m, st, w, env, env', r, q, rs, hb, k⟩ := h
    cases w <;> simp only [bindTs] at hb <;> try cases hb
    cases q
    exact ⟨rfl, k σ rs rfl fun _ _ => rfl⟩
  | t :: ts, xs, h => by
    cases xs <;> simp only [mTs, Bool.false_eq_true] at h
    rename_i x xs
    simp only [Bool.and_eq_true] at h
    refine PGs.imp (pgs_cons (pg_T hc nd A hk t x h.1.2) (pg_Ts hc nd A hk ts xs h.2) (assign_cons h.1.1)) fun vs σ H Q h => ?_
    obtain ⟨F, m, st, w, env, env', r, q, rs, hb, k⟩ := h
    cases w <;> simp only [bindTs] at hb <;> try cases hb
    obtain ⟨env1, hb1, hb2⟩ := Option.bind_eq_some_iff.mp hb
    cases q with
    | cons q1 q2 =>
      refine ⟨_, _, rfl, F, m, st, _, env, env1, r, q1, rs, hb1, fun σ1 rs1 l1 k1 => ?_⟩
      refine ⟨F, m, st, _, env1, env', r, q2, rs1, hb2, fun σ2 rs2 l2 k2 => ?_⟩
      refine k σ2 rs2 (l2.trans l1) fun i hi => ?_
      simp only [tgtsSlots, List.mem_append, not_or] at hi
      rw [k2 i hi.2, k1 i hi.1]
end

/-! ### walks -/
structure WalkOf (K : PySem.W.Frag) (G : GX) (items : List Val) (J : L2.It) (F0 : Hp) (m0 : Nat → Addr) (L0 : Nat) (H0 : Hp) : Prop where
  go : ∀ i F m st H, i < items.length → RelH K G F m st H → Same F0 F → Frs H0 H → J.go i H
  stop : ∀ F m st H, RelH K G F m st H → Same F0 F → Frs H0 H → J.stop items.length H
  yld : ∀ i F m st H x H' v, items[i]? = some v → RelH K G F m st H → Same F0 F → Frs H0 H → (∀ n, n < L0 → m n = m0 n) → L0 ≤ st.length → J.yld i H x H' → ∃ F', Ext F m st H F' m st H' ∧ RelH K G F' m st H' ∧ Rep K G F' m st.length v x
def tIt (X : Cx) (G : GX) (W : WX) (it : It) : TI := fun σ H R => tRd X.K G (exW X G W) (evalIt it) (fun items F m st H => ∀ J, WalkOf X.K G items J F m st.length H → R J H) σ H
theorem walk_seqT {F0 H0 : Hp} {m0 : Nat → Addr} {L0 : Nat} {a : Addr} {xs : List Val} {ys : List V} (h : F0 a = some (.tup ys)) (q : Reps X.K G F0 m0 L0 xs ys) : WalkOf X.K G xs (Itt X.K a) F0 m0 L0 H0 where
  go := fun i F m st H hi r e _ => by
    have hl : i < ys.length := by rw [← q.length]; exact hi
    exact ⟨ys, ys[i], SqT.of (r.fz.tup (e _ _ h)), by simp [hl]⟩
  stop := fun F m st H r e _ => ⟨ys, SqT.of (r.fz.tup (e _ _ h)), by rw [q.length]; exact Nat.le_refl _⟩
  yld := fun i F m st H x H' v hv r e _ hm hL y => by
    obtain ⟨e1, y2⟩ := y
    subst e1
    obtain ⟨z, h1, h2⟩ := q.get hv
    have h3 := y2 ys (SqT.of (r.fz.tup (e _ _ h)))
    rw [h1] at h3
    cases h3
    exact ⟨F, .refl, r, h2.mono e hm hL⟩
theorem walk_seqL {F0 H0 : Hp} {m0 : Nat → Addr} {L0 : Nat} {a : Addr} {xs : List Val} {ys : List V} (h : SqL X.K F0 a ys) (q : Reps X.K G F0 m0 L0 xs ys) : WalkOf X.K G xs (Itl X.K a) F0 m0 L0 H0 where
  go := fun i F m st H hi r e _ => by
    have hl : i < ys.length := by rw [← q.length]; exact hi
    exact ⟨ys, ys[i], r.fz.sqL (Same.sqL e h), by simp [hl]⟩
  stop := fun F m st H r e _ => ⟨ys, r.fz.sqL (Same.sqL e h), by rw [q.length]; exact Nat.le_refl _⟩
  yld := fun i F m st H x H' v hv r e _ hm hL y => by
    obtain ⟨e1, y2⟩ := y
    subst e1
    obtain ⟨z, h1, h2⟩ := q.get hv
    have h3 := y2 ys (r.fz.sqL (Same.sqL e h))
    rw [h1] at h3
    cases h3
    exact ⟨F, .refl, r, h2.mono e hm hL⟩
theorem walk_rng {F0 H0 : Hp} {m0 : Nat → Addr} {L0 : Nat} {lo : Int} {n : Nat} : WalkOf X.K G (rangeVs lo n) (Itr lo n) F0 m0 L0 H0 where
  go := fun i F m st H hi r e _ => by
    have z : i < n := by simpa [rangeVs] using hi
    exact z
  stop := fun F m st H r e _ => by
    show n ≤ _
    simp [rangeVs]
  yld := fun i F m st H x H' v hv r e _ hm hL y => by
    obtain ⟨e1, y2⟩ := y
    subst e1; subst y2
    have : v = .int (lo + i) := by
      simp only [rangeVs, List.getElem?_map] at hv
      cases q : (List.range n)[i]? with
      | none => rw [q] at hv; cases hv
      | some k =>
        rw [q] at hv
        have hk := List.getElem?_eq_some_iff.mp q
        obtain ⟨_, hk⟩ := hk
        simp at hk
        subst hk
        simpa using hv.symm
    subst this
    exact ⟨F, .refl, r, .int _⟩
theorem walk_str' {F0 H0 : Hp} {m0 : Nat → Addr} {L0 : Nat} {z : PySem.Str} : WalkOf X.K G (z.cps.toList.map fun c => .str ⟨#[c]⟩) (Its z) F0 m0 L0 H0 where
  go := fun i F m st H hi r e _ => by
    have w : i < z.cps.size := by simpa using hi
    exact w
  stop := fun F m st H r e _ => by
    show z.cps.size ≤ _
    simp
  yld := fun i F m st H x H' v hv r e _ hm hL y => by
    obtain ⟨e1, c, hc, y2⟩ := y
    subst e1; subst y2
    have : v = .str ⟨#[c]⟩ := by
      simp only [List.getElem?_map, Array.getElem?_toList, hc] at hv
      simpa using hv.symm
    subst this
    exact ⟨F, .refl, r, .str _⟩
theorem walk_enumL {F0 H0 : Hp} {m0 : Nat → Addr} {L0 : Nat} {a : Addr} {xs : List Val} {ys : List V} (h : F0 a = some (.lst ys)) (q : Reps X.K G F0 m0 L0 xs ys) : WalkOf X.K G (enumUp xs) (Ite X.K a) F0 m0 L0 H0 where
  go := fun i F m st H hi r e _ => by
    have hl : i < ys.length := by rw [← q.length]; simpa [enumUp] using hi
    exact ⟨ys, ys[i], SqL.of (r.fz.lst (e _ _ h)), by simp [hl]⟩
  stop := fun F m st H r e _ => ⟨ys, SqL.of (r.fz.lst (e _ _ h)), by simp [enumUp, q.length]⟩
  yld := fun i F m st H x H' v hv r e _ hm hL y => by
    obtain ⟨T, z, e1, hT, e2, y2⟩ := y
    subst e1; subst e2
    have h3 := y2 ys (SqL.of (r.fz.lst (e _ _ h)))
    obtain ⟨w, h1, h2⟩ := q.get' h3
    have : v = .tup [.int (i : Nat), w] := by
      simp only [enumUp, List.getElem?_map, List.getElem?_zipIdx, h1] at hv
      simpa using hv.symm
    subst this
    refine ⟨_, Ext.fresh r hT _, r.fresh hT _, .tup upd_same (.cons (.int _) (.cons ?_ .nil))⟩
    exact h2.mono (e.trans (Same.upd (r.fz.free hT))) hm hL

theorem repK_keys {F : Hp} {m : Nat → Addr} {L : Nat} : ∀ {xs : List (L2.Key × Val)} {ys : List (L2.Key × V)}, RepK X.K G F m L xs ys → xs.map (·.1) = ys.map (·.1)
  | _, _, .nil => rfl
  | _, _, .cons _ t => by simp [repK_keys t]
theorem repT_keys {F : Hp} {m : Nat → Addr} {L : Nat} : ∀ {xs : List (List L2.Key × Val)} {ys : List (List L2.Key × V)}, RepT X.K G F m L xs ys → xs.map (·.1) = ys.map (·.1)
  | _, _, .nil => rfl
  | _, _, .cons _ t => by simp [repT_keys t]
theorem rep_key {F : Hp} {m : Nat → Addr} {L : Nat} : ∀ k : L2.Key, Rep X.K G F m L (vOfKey k) (kV k)
  | .inl i => .int i
  | .inr x => .str x
theorem reps_keys {F : Hp} {m : Nat → Addr} {L : Nat} : ∀ ks : List L2.Key, Reps X.K G F m L (ks.map vOfKey) (ks.map kV)
  | [] => .nil
  | k :: ks => .cons (rep_key k) (reps_keys ks)
/-- a tuple that lies there is taken among what never changes -/
theorem adopt {F H : Hp} {m : Nat → Addr} {st : Store} {q : Addr} {ks : List V} (r : RelH X.K G F m st H) (h : H q = some (.tup ks)) : ∃ F', Ext F m st H F' m st H ∧ RelH X.K G F' m st H ∧ F' q = some (.tup ks) := by
  have nl : ∀ n, live st n → m n ≠ q := fun n ⟨c, hc, hn⟩ z => by
    have w := r.cell n c hc
    rw [z] at w
    cases c with
    | dead => exact hn rfl
    | lst xs => obtain ⟨ys, w, _⟩ := w; rw [h] at w; cases w
    | dK xs => obtain ⟨ys, w, _⟩ := w; rw [h] at w; cases w
    | dT xs => obtain ⟨ys, w, _⟩ := w; rw [h] at w; cases w
  cases hF : F q with
  | none =>
    refine ⟨upd F q (.tup ks), ⟨Same.upd hF, Nat.le_refl _, fun _ _ => rfl, fun _ _ h => h, fun n h l => absurd l.lt (Nat.not_lt.mpr h), fun _ _ h _ _ => .inl h, fun _ h => h, fun a ha => ?_⟩, r.take hF nl h, upd_same⟩
    by_cases e : a = q
    · subst e
      refine .inr (.inl fun o z d => ?_)
      rw [h] at z; cases z; exact d
    · rw [upd_ne e] at ha; exact .inl ha
  | some o =>
    refine ⟨F, .refl, r, ?_⟩
    rcases r.fz q o hF with z | ⟨_, ob, z⟩
    · rw [h] at z; cases z; exact hF
    · rw [h] at z; cases z
theorem walk_keysK {F0 H0 : Hp} {m0 : Nat → Addr} {L0 : Nat} {a : Addr} {od : Obj} {xs : List (L2.Key × Val)} {ys : List (L2.Key × V)} (h : H0 a = some (.frz od (.dK ys))) (q : xs.map (·.1) = ys.map (·.1)) : WalkOf X.K G (xs.map fun kv => vOfKey kv.1) (Itk a od ys) F0 m0 L0 H0 where
  go := fun i F m st H hi r e f => by
    have := congrArg List.length q
    simp at this hi
    exact ⟨f _ _ _ h, by omega⟩
  stop := fun F m st H r e f => by
    have := congrArg List.length q
    simp at this
    exact ⟨f _ _ _ h, by simp; omega⟩
  yld := fun i F m st H x H' v hv r e f hm hL y => by
    obtain ⟨e1, k, w, hk, e2⟩ := y
    subst e1; subst e2
    have : (xs.map (·.1))[i]? = some k := by rw [q, List.getElem?_map, hk]; rfl
    have hv2 : ((xs.map (·.1)).map vOfKey)[i]? = some v := by rw [List.map_map]; exact hv
    rw [List.getElem?_map, this] at hv2
    cases hv2
    exact ⟨F, .refl, r, rep_key k⟩
theorem walk_keysT {F0 H0 : Hp} {m0 : Nat → Addr} {L0 : Nat} {a : Addr} {od : Obj} {xs : List (List L2.Key × Val)} {ys : List (List L2.Key × V)} (h : H0 a = some (.frz od (.dT ys))) (q : xs.map (·.1) = ys.map (·.1)) : WalkOf X.K G (xs.map fun kv => .tup (kv.1.map vOfKey)) (Itkt a od ys) F0 m0 L0 H0 where
  go := fun i F m st H hi r e f => by
    have := congrArg List.length q
    simp at this hi
    exact ⟨f _ _ _ h, by omega⟩
  stop := fun F m st H r e f => by
    have := congrArg List.length q
    simp at this
    exact ⟨f _ _ _ h, by simp; omega⟩
  yld := fun i F m st H x H' v hv r e f hm hL y => by
    obtain ⟨e1, k, w, p, hk, e2, hp⟩ := y
    subst e1; subst e2
    have : (xs.map (·.1))[i]? = some k := by rw [q, List.getElem?_map, hk]; rfl
    have hv2 : ((xs.map (·.1)).map fun k => Val.tup (k.map vOfKey))[i]? = some v := by rw [List.map_map]; exact hv
    rw [List.getElem?_map, this] at hv2
    cases hv2
    obtain ⟨F', x1, r1, h1⟩ := adopt r hp
    exact ⟨F', x1, r1, .tup h1 (reps_keys k)⟩
/-- a dict walked, locked if it is not yet -/
def iKeysL (td : TE) : TI := fun σ H R => td σ H fun x H1 => ∃ d, x = .ref d ∧
  ((∃ o kvs, H1 d = some (.frz o (.dK kvs)) ∧ R (Itk d o kvs) H1) ∨ (∃ o kvs, H1 d = some (.frz o (.dT kvs)) ∧ R (Itkt d o kvs) H1) ∨
   (∃ kvs, H1 d = some (.dK kvs) ∧ ∀ o, R (Itk d o kvs) (upd H1 d (.frz o (.dK kvs)))) ∨ (∃ kvs, H1 d = some (.dT kvs) ∧ ∀ o, R (Itkt d o kvs) (upd H1 d (.frz o (.dT kvs)))))
theorem pi_keysL {tg e : PySem.Expr} {td : TE} (he : PE X e td) : PI X tg e (iKeysL td) := by
  refine ⟨fun pins s σ H R I h => ?_⟩
  refine thn (he.run pins s σ H _ I h) fun u s1 ⟨x, H1, I1, rx, d, ex, q⟩ => ?_
  subst ex
  obtain rfl : u = Value.ref d := rx
  have goK : ∀ (H2 : Hp) (o : Obj) (kvs : List (L2.Key × V)), L2.Inv X pins σ H2 s1 → H2 d = some (.frz o (.dK kvs)) → R (Itk d o kvs) H2 → wpAny (model X.prog X.w) X.A (pyIter (.ref d)) (PIE X pins σ tg R) X.xe s1 := fun H2 o kvs I2 hd q => by
    obtain ⟨z1, z2, z3, es, ep, vs, z4, z5, z6, z7⟩ := I2.frzK hd
    refine iter_keys z1 z2 z3 z4 (pi_one (tk := s1.toks) I2 _ (turn_keys _ z4) ⟨_, Heap.get?_push_size _ rfl, rfl, ?_⟩ q)
    rw [z5] <;> rfl
  have goT : ∀ (H2 : Hp) (o : Obj) (kvs : List (List L2.Key × V)), L2.Inv X pins σ H2 s1 → H2 d = some (.frz o (.dT kvs)) → R (Itkt d o kvs) H2 → wpAny (model X.prog X.w) X.A (pyIter (.ref d)) (PIE X pins σ tg R) X.xe s1 := fun H2 o kvs I2 hd q => by
    obtain ⟨z1, z2, z3, es, ep, z4, z5, z6⟩ := I2.frzT hd
    refine iter_keys z1 z2 z3 z4 (pi_one (tk := s1.toks) I2 _ (turn_keysT _ z4) ⟨_, Heap.get?_push_size _ rfl, rfl, ?_⟩ q)
    rw [z5] <;> rfl
  rcases q with ⟨o, kvs, hd, q⟩ | ⟨o, kvs, hd, q⟩ | ⟨kvs, hd, q⟩ | ⟨kvs, hd, q⟩
  · exact goK _ o kvs I1 hd q
  · exact goT _ o kvs I1 hd q
  · obtain ⟨o, I2⟩ := I1.lock hd True.intro
    exact goK _ o kvs I2 upd_same (q o)
  · obtain ⟨o, I2⟩ := I1.lock hd True.intro
    exact goT _ o kvs I2 upd_same (q o)
theorem s_seq {e : E} {tg x : PySem.Expr} (he : PE X x (tE X G W e)) : PI X tg x (tIt X G W (.seq e)) := by
  refine ⟨fun pins s σ H R I h => ?_⟩
  obtain ⟨F, m, env, st, r, rs, p⟩ := h
  have p := PostG.bind p
  cases hE : evalE e env st with
  | bad => rw [hE] at p; exact p.elim
  | exc c xs st1 =>
    rw [hE] at p
    exact (pi_list he).run pins s σ H R I ⟨F, m, env, st, r, rs, by rw [hE]; exact p⟩
  | ok v st1 =>
    rw [hE] at p
    cases v with
    | tup xs =>
      refine (pi_tup he).run pins s σ H R I ⟨F, m, env, st, r, rs, ?_⟩
      rw [hE]
      intro F1 m1 H1 e1 r1 y k
      have q := p F1 m1 H1 e1 r1
      cases k with
      | tup ha qs => exact ⟨_, rfl, ⟨_, SqT.of (r1.fz.tup ha)⟩, q.ok r1 _ (walk_seqT ha qs)⟩
    | lst xs =>
      refine (pi_list he).run pins s σ H R I ⟨F, m, env, st, r, rs, ?_⟩
      rw [hE]
      intro F1 m1 H1 e1 r1 y k
      have q := p F1 m1 H1 e1 r1
      cases k with
      | lst ha qs => exact ⟨_, rfl, ⟨_, SqL.of (r1.fz.lst ha)⟩, q.ok r1 _ (walk_seqL (SqL.of ha) qs)⟩
    | slst ns =>
      refine (pi_list he).run pins s σ H R I ⟨F, m, env, st, r, rs, ?_⟩
      rw [hE]
      intro F1 m1 H1 e1 r1 y k
      have q := p F1 m1 H1 e1 r1
      cases k with
      | slst ha => exact ⟨_, rfl, ⟨_, r1.fz.sqL ha⟩, q.ok r1 _ (walk_seqL ha (reps_ints ns))⟩
    | str z =>
      refine (pi_str he).run pins s σ H R I ⟨F, m, env, st, r, rs, ?_⟩
      rw [hE]
      intro F1 m1 H1 e1 r1 y k
      have q := p F1 m1 H1 e1 r1
      cases k
      exact ⟨z, rfl, q.ok r1 _ walk_str'⟩
    | dK xs =>
      refine (pi_keysL he).run pins s σ H R I ⟨F, m, env, st, r, rs, ?_⟩
      rw [hE]
      intro F1 m1 H1 e1 r1 y k
      have q := p F1 m1 H1 e1 r1
      cases k with
      | dK ha qs =>
        rcases r1.fz _ _ ha with hh | ⟨_, ob, hh⟩
        · refine ⟨_, rfl, .inr (.inr (.inl ⟨_, hh, fun o => ?_⟩))⟩
          exact PostG.ok (PostG.step q (Ext.lock ha True.intro hh o)) (r1.lock ha True.intro hh o) _ (walk_keysK upd_same (repK_keys qs))
        · exact ⟨_, rfl, .inl ⟨ob, _, hh, q.ok r1 _ (walk_keysK hh (repK_keys qs))⟩⟩
    | dT xs =>
      refine (pi_keysL he).run pins s σ H R I ⟨F, m, env, st, r, rs, ?_⟩
      rw [hE]
      intro F1 m1 H1 e1 r1 y k
      have q := p F1 m1 H1 e1 r1
      cases k with
      | dT ha qs =>
        rcases r1.fz _ _ ha with hh | ⟨_, ob, hh⟩
        · refine ⟨_, rfl, .inr (.inr (.inr ⟨_, hh, fun o => ?_⟩))⟩
          exact PostG.ok (PostG.step q (Ext.lock ha True.intro hh o)) (r1.lock ha True.intro hh o) _ (walk_keysT upd_same (repT_keys qs))
        · exact ⟨_, rfl, .inr (.inl ⟨ob, _, hh, q.ok r1 _ (walk_keysT hh (repT_keys qs))⟩)⟩
    | _ =>
      refine (pi_list he).run pins s σ H R I ⟨F, m, env, st, r, rs, ?_⟩
      rw [hE]
      intro F1 m1 H1 e1 r1 y k
      exact (p F1 m1 H1 e1 r1).elim
theorem s_range1 (C : Cxt X G W) {a : E} {tg xa : PySem.Expr} {p pos : Pos} (hg : Gl X "range") (hs : noStar xa = true) (ha : PE X xa (tE X G W a)) : PI X tg (.Call (.Name "range" p) [xa] [] pos) (tIt X G W (.range1 a)) := by
  refine PI.imp (pi_range1 hg (C.bl _ (by decide)) (pa_cons ha pa_nil (star_of hs)) (star_of hs)) fun σ H R h => ?_
  obtain ⟨F, m, env, st, r, rs, p⟩ := h
  refine ⟨F, m, env, st, r, rs, (PostG.bind p).mono fun va F1 m1 st1 H1 e1 r1 q1 y1 k1 => ?_⟩
  cases k1 <;> try exact q1.elim
  dsimp only at q1
  split at q1
  · rename_i hj
    exact ⟨_, rfl, hj.1, hj.2, q1.ok r1 _ walk_rng⟩
  · exact q1.elim
theorem s_range2 (C : Cxt X G W) {a b : E} {tg xa xb : PySem.Expr} {p pos : Pos} (hg : Gl X "range") (hs : noStar xa = true) (hs2 : noStar xb = true) (ha : PE X xa (tE X G W a)) (hb : PE X xb (tE X G W b)) : PI X tg (.Call (.Name "range" p) [xa, xb] [] pos) (tIt X G W (.range2 a b)) := by
  refine PI.imp (pi_range2 hg (C.bl _ (by decide)) (pa_cons ha (pa_cons hb pa_nil (star_of hs2)) (star_of hs)) (by rw [star_of hs, star_of hs2]; rfl) (star_of hs2)) fun σ H R h => ?_
  obtain ⟨F, m, env, st, r, rs, p⟩ := h
  refine ⟨F, m, env, st, r, rs, (PostG.bind p).mono fun va F1 m1 st1 H1 e1 r1 q1 y1 k1 => ?_⟩
  refine ⟨F1, m1, env, st1, r1, rs.ext e1, (PostG.bind q1).mono fun vb F2 m2 st2 H2 e2 r2 q2 y2 k2 => ?_⟩
  cases k1 <;> try exact q2.elim
  cases k2 <;> try exact q2.elim
  dsimp only at q2
  split at q2
  · rename_i hj
    exact ⟨_, _, rfl, ⟨hj.1.1, hj.1.2, hj.2.1, hj.2.2⟩, q2.ok r2 _ walk_rng⟩
  · exact q2.elim
end
end MP
set_option maxHeartbeats 4000000
/-! MPEnum: enumerate over a tuple. -/
namespace MP
open PySem PyProof.Rows L2
open AutoSeq1 (wpAny_loadPart')

/-- the record that enumerate makes of a tuple's own iterator -/
theorem enumT_new (t : Addr) (vs : Array Value) (k : Nat) (dd : Option Addr) (ss : Array (Option Value)) :
    Meets (Builtin.«enumerate.__new__» ⟨[.type "enumerate", .ref t], []⟩) (fun _ R s =>
      s.heap.get? t = some ⟨.type "tuple", dd, .seq vs k, ss⟩ ∧
        R (.ok (.ret (.ref (s.heap.push ⟨.type "tuple_iterator", none, .fields #[.ref t, .int 0 0], #[]⟩).objs.size)))
          { s with heap := ((s.heap.push ⟨.type "tuple_iterator", none, .fields #[.ref t, .int 0 0], #[]⟩).push (⟨.type "enumerate", none, .fields #[.none, .bool false, .ref s.heap.objs.size, rawInt 0, .none, .none], #[]⟩)) }) :=
  .of_wp fun prog w A R s h => by
    obtain ⟨hp, gs, dr, tk, os⟩ := s
    obtain ⟨ht, h⟩ := h
    have se := sub_enumerate
    have isT : Heap.IsTuple (Shared.heap ⟨hp, gs, dr, tk, os⟩) t vs := ⟨_, ht, rfl, k, rfl⟩
    wp_walk using wpAny_loadPart' ht
    refine wpAny_stack_any fun stk => wpAny_pure ?_
    split
    · rename_i c _ _ _ _ _
      cases (c == Value.type "enumerate") <;>
        (wp_walk using wpAny_loadPart' ht, wpAny_pyIter_tuple isT; exact ⟨_, rfl, h⟩)
    · wp_walk using wpAny_loadPart' ht, wpAny_pyIter_tuple isT
      exact ⟨_, rfl, h⟩
theorem enumT_call {prog : Program} {w : World} {A : Around} {E : Value → Shared → Prop} {s : Shared} {t : Addr} {vs : Array Value} {Q : Value → Shared → Prop} (ht : s.heap.IsTuple t vs)
    (h : ∀ h', IsEnum h' (s.heap.objs.size + 1) s.heap.objs.size 0 .none → h'.IsTupleIter s.heap.objs.size t 0 →
      (∀ b o, s.heap.get? b = some o → h'.get? b = some o) → Q (.ref (s.heap.objs.size + 1)) { s with heap := h' }) :
    wpAny (model prog w) A (call (.type "enumerate") [.ref t]) Q E s := by
  obtain ⟨⟨c, dd, dt, ss⟩, h1, hc, n, hd⟩ := ht
  simp only at hc hd
  subst hc hd
  refine callType_new F.called_enumerate (by decide) (F.typeCall_enumerate_1 _) (F.newCall_enumerate_1 _)
    (fun obj => F.args_object_init_2 obj _) F.entry_enumerate_new (enumT_new t vs n dd ss) ⟨h1, ?_⟩
  have sz : (s.heap.push ⟨.type "tuple_iterator", none, .fields #[.ref t, .int 0 0], #[]⟩).objs.size = s.heap.objs.size + 1 := Heap.size_push ..
  have en := Heap.get?_push_size (s.heap.push ⟨.type "tuple_iterator", none, .fields #[.ref t, .int 0 0], #[]⟩)
    (o := ⟨.type "enumerate", none, .fields #[.none, .bool false, .ref s.heap.objs.size, rawInt 0, .none, .none], #[]⟩) rfl
  rw [sz] at en
  show _ ∧ _
  rw [sz]
  exact ⟨⟨_, en, rfl⟩, h _ en ⟨⟨.type "tuple_iterator", none, .fields #[.ref t, .int 0 0], #[]⟩, Heap.get?_push_of_some _ (Heap.get?_push_size _ rfl), rfl, rfl⟩
    fun b o x => Heap.get?_push_of_some _ (Heap.get?_push_of_some _ x)⟩

/-- the tuple at a as it stands at each turn, the items in new pairs with their numbers -/
def IteT (K : PySem.W.Frag) (a : Addr) : L2.It :=
  ⟨fun i H => ∃ ys y, SqT K H a ys ∧ ys[i]? = some y,
    fun i H v H' => ∃ T y, v = .ref T ∧ H T = none ∧ H' = upd H T (.tup [.int (i : Nat), y]) ∧ ∀ ys, SqT K H a ys → ys[i]? = some y,
    fun i H => ∃ ys, SqT K H a ys ∧ ys.length = i⟩
section
variable {X : Cx} {G : GX} {W : WX}
theorem turn_enumT {P : Program} {w : World} {K : PySem.W.Frag} {elts : List PySem.Expr} {kk : Nat} {tp : Pos} (a e it : Addr) (hae : a ≠ e) (hai : a ≠ it) :
    Turn P w K (.Tuple elts kk tp) (IteT K a) [e, it] e (fun i h => (∃ old, IsEnum h e it ((i : Nat) : Int) old) ∧ h.IsTupleIter it a i ∧ e ≠ it) where
  mem := List.mem_cons_self
  obj := fun i h st b hb => by
    obtain ⟨⟨old, h1⟩, ⟨o, h2, h3, h4⟩, _⟩ := st
    simp only [List.mem_cons, List.not_mem_nil, or_false] at hb
    rcases hb with rfl | rfl
    · exact ⟨_, h1, fun v q => nomatch q⟩
    · exact ⟨o, h2, fun v q => by rw [h4] at q; cases q⟩
  keep := fun i h h' st k => by
    obtain ⟨⟨old, h1⟩, h2, h3⟩ := st
    exact ⟨⟨old, k e (by simp) _ h1⟩, h2.at fun o q => k it (by simp) o q, h3⟩
  item := by
    intro X hP hw hK hc i pins s σ H E I hf st hg
    subst hP hw hK
    obtain ⟨⟨old, h1⟩, h2, hne⟩ := st
    obtain ⟨ys, y, hq, hy⟩ := hg
    obtain ⟨its, rv, pt, hz⟩ := I.tuple hq
    have le : e < s.heap.objs.size := Heap.lt_size h1
    have li : it < s.heap.objs.size := by obtain ⟨_, q, _⟩ := h2; exact Heap.lt_size q
    have tt : s.heap.IsTuple a its.toArray := pt
    have D := Draws.tuple (prog := X.prog) (w := X.w) (A := X.A.in1) (I.ok.hd hc) it a hai its.toArray
    have lt : i < its.toArray.size := by
      have := (List.getElem?_eq_some_iff.mp hy).1
      rw [rv.length] at this
      simpa using this
    refine wpAny_pyNext_enum_itemD D h1 ⟨h2, tt⟩ lt hne (by simp [hne, Ne.symm hae]) fun x h' tk hx ho hst hT hsz hk => ?_
    obtain ⟨u, hu, ru⟩ := rv.get hy
    have ex : u = x := by
      have z : its[i]? = some x := by simpa using hx
      rw [hu] at z; exact Option.some.inj z
    subst ex
    refine ⟨_, rfl, wpAny_letOwnedTupleGo_enum (s := { s with heap := h', toks := tk + 1 }) ho fun h'' he' sb => ?_⟩
    have hT2 := (sb.2 _ (Nat.ne_of_gt le)).trans hT
    have new : ObjOk X.prog X.w (upd H s.heap.objs.size (.tup [.int (i : Nat), y])) h'' s.heap.objs.size (.tup [.int (i : Nat), y]) :=
      ⟨by show 2 ≤ sizeLine; decide, [.int i tk, u], .cons ⟨_, rfl⟩ (.cons ru .nil), ⟨_, hT2, rfl, _, rfl⟩⟩
    have I1 : L2.Inv X pins σ (upd H s.heap.objs.size (.tup [.int (i : Nat), y])) { s with heap := h'', toks := tk + 1 } :=
      I.turnedNew (ch := [e, it]) (fun b ob hb q => by
        simp only [List.mem_cons, List.not_mem_nil, or_false, not_or] at hb
        exact (sb.2 b hb.1).trans (hk b ob hb.1 hb.2 q)) hf (Nat.le_refl _) new
    refine ⟨.ref s.heap.objs.size, _, I1, rfl, ⟨_, y, rfl, I.hok.fresh (Nat.le_refl _), rfl, fun zs hs => by rw [I.tuple_inj hs hq]; exact hy⟩, ⟨⟨u, ?_⟩, hst.1.at fun o q => (sb.2 it (Ne.symm hne)).trans q, hne⟩, fun b hb => ?_⟩
    · have e1 : ((i + 1 : Nat) : Int) = (i : Int) + 1 := by omega
      rw [e1]; exact he'
    · have lb : b < s.heap.objs.size := by
        simp only [List.mem_cons, List.not_mem_nil, or_false] at hb
        rcases hb with rfl | rfl <;> assumption
      rw [upd_ne (Nat.ne_of_lt lb)]
      exact (hf b hb).1
  done := by
    intro X hP hw hK hc i pins s σ H E I hf st hg
    subst hP hw hK
    obtain ⟨⟨old, h1⟩, h2, hne⟩ := st
    obtain ⟨ys, hq, hle⟩ := hg
    obtain ⟨its, rv, pt, hz⟩ := I.tuple hq
    obtain ⟨f0, f1, f2, f3, f4, f5⟩ := hf it (by simp)
    have tt : s.heap.IsTuple a its.toArray := pt
    have D := Draws.tuple (prog := X.prog) (w := X.w) (A := X.A.in1) (I.ok.hd hc) it a hai its.toArray
    have sz : its.toArray.size = i := by
      have := rv.length
      simp only [List.size_toArray]; omega
    exact wpAny_pyNext_enum_endD D h1 ⟨by rw [sz]; exact h2, tt⟩ fun h' eb => ⟨rfl, I.turned (t' := s.toks) (fun b o hb q => eb b o hb q) f0 f1 f3 f4 f5⟩
  self := fun A i s Q E st h => by
    obtain ⟨⟨_, h1⟩, _⟩ := st
    exact wpAny_pyIter_enum h1 h
def iEnumT (K : PySem.W.Frag) (ta : TA) : TI := fun σ H R => ta σ H fun vs H1 => ∃ a ys, vs = [.ref a] ∧ SqT K H1 a ys ∧ R (IteT K a) H1
theorem pi_enumT {e : PySem.Expr} {ta : TA} {p pos tpos : Pos} {elts : List PySem.Expr} {kk : Nat} (hg : Gl X "enumerate") (hm : X.mg "enumerate" = none) (ha : PA X [e] ta) (hs : starEach [e] X.env = [(false, eval e X.env)]) :
    PI X (.Tuple elts kk tpos) (.Call (.Name "enumerate" p) [e] [] pos) (iEnumT X.K ta) := by
  refine ⟨fun pins s σ H R I h => Call_ (ld_blt I hg hm boot_enumerate (callWith_type1 (thn (ha.run pos pins s σ H _ I h) fun us s1 z => ?_) hs rfl))⟩
  obtain ⟨vs, H1, I1, rv, a, ys, ev, hq, q⟩ := z
  subst ev
  cases rv with
  | cons r rr =>
    cases rr
    cases r
    obtain ⟨its, rw', pt, hz⟩ := I1.tuple hq
    have la : a < s1.heap.objs.size := pt.lt
    refine enumT_call (show s1.heap.IsTuple a its.toArray from pt) fun h' he hit hk => wpAny_pyIter_enum he ?_
    have fr : ∀ b, s1.heap.objs.size ≤ b → FpOk X pins H1 b := fun b hb => I1.fpOk hb (I1.hok.fresh hb)
    refine ⟨s1.heap.objs.size + 1, [s1.heap.objs.size + 1, s1.heap.objs.size], _, _, H1, rfl, I1.kept (t' := s1.toks) hk,
      turn_enumT a (s1.heap.objs.size + 1) s1.heap.objs.size (Nat.ne_of_lt (Nat.lt_succ_of_lt la)) (Nat.ne_of_lt la), ⟨⟨.none, he⟩, hit, Nat.succ_ne_self _⟩, fun b hb => ?_, q⟩
    simp only [List.mem_cons, List.not_mem_nil, or_false] at hb
    rcases hb with rfl | rfl
    · exact fr _ (Nat.le_succ _)
    · exact fr _ (Nat.le_refl _)
theorem walk_enumT {F0 H0 : Hp} {m0 : Nat → Addr} {L0 : Nat} {a : Addr} {xs : List Val} {ys : List V} (h : F0 a = some (.tup ys)) (q : Reps X.K G F0 m0 L0 xs ys) : WalkOf X.K G (enumUp xs) (IteT X.K a) F0 m0 L0 H0 where
  go := fun i F m st H hi r e _ => by
    have hl : i < ys.length := by rw [← q.length]; simpa [enumUp] using hi
    exact ⟨ys, ys[i], SqT.of (r.fz.tup (e _ _ h)), by simp [hl]⟩
  stop := fun F m st H r e _ => ⟨ys, SqT.of (r.fz.tup (e _ _ h)), by simp [enumUp, q.length]⟩
  yld := fun i F m st H x H' v hv r e _ hm hL y => by
    obtain ⟨T, z, e1, hT, e2, y2⟩ := y
    subst e1; subst e2
    have h3 := y2 ys (SqT.of (r.fz.tup (e _ _ h)))
    obtain ⟨w, h1, h2⟩ := q.get' h3
    have : v = .tup [.int (i : Nat), w] := by
      simp only [enumUp, List.getElem?_map, List.getElem?_zipIdx, h1] at hv
      simpa using hv.symm
    subst this
    refine ⟨_, Ext.fresh r hT _, r.fresh hT _, .tup upd_same (.cons (.int _) (.cons ?_ .nil))⟩
    exact h2.mono (e.trans (Same.upd (r.fz.free hT))) hm hL
theorem s_enum (C : Cxt X G W) {a : E} {xa : PySem.Expr} {p pos tpos : Pos} {elts : List PySem.Expr} {kk : Nat} (hg : Gl X "enumerate") (hs : noStar xa = true) (ha : PE X xa (tE X G W a)) :
    PI X (.Tuple elts kk tpos) (.Call (.Name "enumerate" p) [xa] [] pos) (tIt X G W (.enum a)) := by
  refine ⟨fun pins s σ H R I h => ?_⟩
  have hA : PA X [xa] (tCons (tE X G W a) tNil) := pa_cons ha pa_nil (star_of hs)
  obtain ⟨F, m, env, st, r, rs, p⟩ := h
  have p := PostG.bind p
  cases hE : evalE a env st with
  | bad => rw [hE] at p; exact p.elim
  | exc c xs st1 =>
    rw [hE] at p
    exact (pi_enum hg (C.bl _ (by decide)) hA (star_of hs)).run pins s σ H R I ⟨F, m, env, st, r, rs, by rw [hE]; exact p⟩
  | ok v st1 =>
    rw [hE] at p
    cases v with
    | tup xs =>
      refine (pi_enumT hg (C.bl _ (by decide)) hA (star_of hs)).run pins s σ H R I ⟨F, m, env, st, r, rs, ?_⟩
      rw [hE]
      intro F1 m1 H1 e1 r1 y k
      have q := p F1 m1 H1 e1 r1
      cases k with
      | tup ha qs => exact ⟨_, _, rfl, SqT.of (r1.fz.tup ha), q.ok r1 _ (walk_enumT ha qs)⟩
    | lst xs =>
      refine (pi_enum hg (C.bl _ (by decide)) hA (star_of hs)).run pins s σ H R I ⟨F, m, env, st, r, rs, ?_⟩
      rw [hE]
      intro F1 m1 H1 e1 r1 y k
      have q := p F1 m1 H1 e1 r1
      cases k with
      | lst ha qs => exact ⟨_, _, rfl, SqL.of (r1.fz.lst ha), q.ok r1 _ (walk_enumL ha qs)⟩
    | _ =>
      refine (pi_enum hg (C.bl _ (by decide)) hA (star_of hs)).run pins s σ H R I ⟨F, m, env, st, r, rs, ?_⟩
      rw [hE]
      intro F1 m1 H1 e1 r1 y k
      exact (p F1 m1 H1 e1 r1).elim
theorem walk_zipT' {F0 H0 : Hp} {m0 : Nat → Addr} {L0 : Nat} {a b : Addr} {xs ys : List Val} {us ws : List V} (ha : F0 a = some (.tup us)) (hb : F0 b = some (.tup ws)) (qa : Reps X.K G F0 m0 L0 xs us) (qb : Reps X.K G F0 m0 L0 ys ws) :
    WalkOf X.K G (pairUp xs ys) (RZ.ItzT X.K a b) F0 m0 L0 H0 where
  go := fun i F m st H hi r e _ => by
    have hl : i < us.length ∧ i < ws.length := by
      rw [← qa.length, ← qb.length]
      have z : i < min xs.length ys.length := by simpa [pairUp] using hi
      omega
    exact ⟨us, ws, us[i], ws[i], SqT.of (r.fz.tup (e _ _ ha)), SqT.of (r.fz.tup (e _ _ hb)), by simp [hl.1], by simp [hl.2]⟩
  stop := fun F m st H r e _ => ⟨us, ws, SqT.of (r.fz.tup (e _ _ ha)), SqT.of (r.fz.tup (e _ _ hb)), by
    have h1 := qa.length
    have h2 := qb.length
    simp only [pairUp, List.length_map, List.length_zip]
    omega⟩
  yld := fun i F m st H x H' v hv r e _ hm hL y => by
    obtain ⟨T, z, w, e1, hT, e2, y2, y3⟩ := y
    subst e1; subst e2
    obtain ⟨c, h1, h2⟩ := qa.get' (y2 us (SqT.of (r.fz.tup (e _ _ ha))))
    obtain ⟨d, h3, h4⟩ := qb.get' (y3 ws (SqT.of (r.fz.tup (e _ _ hb))))
    have : v = .tup [c, d] := by
      have z : (xs.zip ys)[i]? = some (c, d) := List.getElem?_zip_eq_some.mpr ⟨h1, h3⟩
      simp only [pairUp, List.getElem?_map, z] at hv
      simpa using hv.symm
    subst this
    refine ⟨_, Ext.fresh r hT _, r.fresh hT _, .tup upd_same (.cons ?_ (.cons ?_ .nil))⟩
    · exact h2.mono (e.trans (Same.upd (r.fz.free hT))) hm hL
    · exact h4.mono (e.trans (Same.upd (r.fz.free hT))) hm hL
theorem walk_zipL' {F0 H0 : Hp} {m0 : Nat → Addr} {L0 : Nat} {a b : Addr} {xs ys : List Val} {us ws : List V} (ha : F0 a = some (.lst us)) (hb : F0 b = some (.lst ws)) (qa : Reps X.K G F0 m0 L0 xs us) (qb : Reps X.K G F0 m0 L0 ys ws) :
    WalkOf X.K G (pairUp xs ys) (Itz X.K a b) F0 m0 L0 H0 where
  go := fun i F m st H hi r e _ => by
    have hl : i < us.length ∧ i < ws.length := by
      rw [← qa.length, ← qb.length]
      have z : i < min xs.length ys.length := by simpa [pairUp] using hi
      omega
    exact ⟨us, ws, us[i], ws[i], SqL.of (r.fz.lst (e _ _ ha)), SqL.of (r.fz.lst (e _ _ hb)), by simp [hl.1], by simp [hl.2]⟩
  stop := fun F m st H r e _ => ⟨us, ws, SqL.of (r.fz.lst (e _ _ ha)), SqL.of (r.fz.lst (e _ _ hb)), by
    have h1 := qa.length
    have h2 := qb.length
    simp only [pairUp, List.length_map, List.length_zip]
    omega⟩
  yld := fun i F m st H x H' v hv r e _ hm hL y => by
    obtain ⟨T, z, w, e1, hT, e2, y2, y3⟩ := y
    subst e1; subst e2
    obtain ⟨c, h1, h2⟩ := qa.get' (y2 us (SqL.of (r.fz.lst (e _ _ ha))))
    obtain ⟨d, h3, h4⟩ := qb.get' (y3 ws (SqL.of (r.fz.lst (e _ _ hb))))
    have : v = .tup [c, d] := by
      have z : (xs.zip ys)[i]? = some (c, d) := List.getElem?_zip_eq_some.mpr ⟨h1, h3⟩
      simp only [pairUp, List.getElem?_map, z] at hv
      simpa using hv.symm
    subst this
    refine ⟨_, Ext.fresh r hT _, r.fresh hT _, .tup upd_same (.cons ?_ (.cons ?_ .nil))⟩
    · exact h2.mono (e.trans (Same.upd (r.fz.free hT))) hm hL
    · exact h4.mono (e.trans (Same.upd (r.fz.free hT))) hm hL
theorem s_zip (C : Cxt X G W) {a b : E} {xa xb : PySem.Expr} {p pos tpos : Pos} {elts : List PySem.Expr} {kk : Nat} (hg : Gl X "zip") (hs : noStar xa = true) (hs2 : noStar xb = true) (ha : PE X xa (tE X G W a)) (hb : PE X xb (tE X G W b)) :
    PI X (.Tuple elts kk tpos) (.Call (.Name "zip" p) [xa, xb] [] pos) (tIt X G W (.zip a b)) := by
  refine PI.imp (RZ.pi_zipA hg (C.bl _ (by decide)) (pa_cons ha (pa_cons hb pa_nil (star_of hs2)) (star_of hs)) (star_of hs) (any_of (by simp [hs2]))) fun σ H R h => ?_
  obtain ⟨F, m, env, st, r, rs, p⟩ := h
  refine ⟨F, m, env, st, r, rs, (PostG.bind p).mono fun va F1 m1 st1 H1 e1 r1 q1 y1 k1 => ?_⟩
  refine ⟨F1, m1, env, st1, r1, rs.ext e1, (PostG.bind q1).mono fun vb F2 m2 st2 H2 e2 r2 q2 y2 k2 => ?_⟩
  have k1 := e2.rep k1
  cases k1 <;> cases k2 <;> try exact q2.elim
  · rename_i h1 q1' _ _ _ h2 q2'
    exact ⟨_, _, _, _, rfl, .inr ⟨SqT.of (r2.fz.tup h1), SqT.of (r2.fz.tup h2), q2.ok r2 _ (walk_zipT' h1 h2 q1' q2')⟩⟩
  · rename_i h1 q1' _ _ _ h2 q2'
    exact ⟨_, _, _, _, rfl, .inl ⟨SqL.of (r2.fz.lst h1), SqL.of (r2.fz.lst h2), q2.ok r2 _ (walk_zipL' h1 h2 q1' q2')⟩⟩
end
end MP
set_option maxHeartbeats 4000000
/-! MPComp: comprehensions, methods, tests; every expression. -/
namespace MP
open PySem PyProof.Rows L2
section
variable {X : Cx} {G : GX} {W : WX} {N : List PySem.Str} {sc : Scope}

/-! ### comprehensions -/
abbrev W0 : WX := fun _ _ _ _ => False
theorem wipe_get {σ : L2.St} {i : Nat} : ∀ {vs : List Nat}, (L2.wipe σ vs)[i]? = if i ∈ vs then (if i < σ.length then some none else none) else σ[i]?
  | [] => by simp [L2.wipe]
  | v :: vs => by
    have ih := @wipe_get σ i vs
    unfold L2.wipe
    by_cases e : v = i
    · subst e
      simp only [List.mem_cons, true_or, if_true]
      by_cases hl : v < σ.length
      · rw [List.getElem?_set_self (by rw [wipe_length]; exact hl), if_pos hl]
      · rw [List.getElem?_eq_none (by simp [wipe_length]; omega), if_neg hl]
    · rw [List.getElem?_set_ne e, ih]
      simp only [List.mem_cons, Ne.symm e, false_or]
theorem wipe_same {σ σ' : L2.St} {vs : List Nat} (hl : σ'.length = σ.length) (h : ∀ i, i ∉ vs → σ'[i]? = σ[i]?) : L2.wipe σ' vs = L2.wipe σ vs := by
  apply List.ext_getElem?
  intro i
  rw [wipe_get, wipe_get, hl]
  split
  · rfl
  · rename_i hi; exact h i hi
theorem wipe_wipe {σ : L2.St} {vs : List Nat} : L2.wipe (L2.wipe σ vs) vs = L2.wipe σ vs := by
  apply List.ext_getElem?
  intro i
  rw [wipe_get, wipe_length]
  split
  · rename_i hi; rw [wipe_get, if_pos hi]
  · rfl
noncomputable def compF (t : Tgt) (c : Eo) (e : E) (env : Env) (vs : List Nat) (x : Val) (st2 : Store) : Out (Option Val) :=
  match bindT t x (wipeE env vs) with
  | none => .bad
  | some env' => (evalC c env' st2).bind fun b st3 => if b = true then (evalE e env' st3).bind fun y st4 => .ok (some y) st4 else .ok none st3
theorem comp_ok (t : Tgt) (c : Eo) (e : E) (vs : List Nat) (ht : ∀ i, i ∈ tgtSlots t → i ∈ vs) {it : It} {own : List (PySem.Str × Nat)} (hv : own.map (·.2) = vs) {σ : L2.St} {H : Hp} {Q : VK} (h : tN X G W (.comp e t it c own) σ H Q) :
    tLc (tIt X G W it) (gT X.K G t) (tC' X G W0 c) (tE X G W0 e) vs σ H Q := by
  obtain ⟨F, m, env, st, r, rs, p⟩ := h
  subst hv
  refine ⟨F, m, env, st, r, rs, (PostG.bind p).mono fun items F1 m1 st1 H1 e1 r1 q1 J wk D hD => ?_⟩
  have q1 : PostG X.K G (exW X G W σ) _ F1 m1 st1 H1 ((compL (compF t c e env (own.map (·.2))) items [] st1).bind fun ys st2 => .ok (Cell.lst ys) st2) := q1
  have hD0 : nu H D := e1.there D (nu.of hD)
  refine ⟨fun i n H2 => n = items.length - i ∧ i ≤ items.length ∧ ∃ F2 m2 st2 acc accV, Ext F1 m1 st1 H1 F2 m2 st2 H2 ∧ RelH X.K G F2 m2 st2 H2 ∧ H2 D = some (.lst accV) ∧ Reps X.K G F2 m2 st2.length acc accV ∧ F2 D = none ∧ (∀ n, live st2 n → m2 n ≠ D) ∧
    compL (compF t c e env (own.map (·.2))) items [] st1 = compL (compF t c e env (own.map (·.2))) (items.drop i) acc st2, ⟨items.length, rfl, Nat.zero_le _, F1, m1, st1, [], [], Ext.lay hD _, r1.lay hD _, upd_same, .nil, r1.fz.free hD, fun n l => r1.ne l (nu.of hD), rfl⟩, ?_⟩
  rintro i n H2 ⟨rfl, hi, F2, m2, st2, acc, accV, e2, r2, h1, h2, h3, h4, h5⟩
  by_cases hlt : i < items.length
  · right
    refine ⟨wk.go i F2 m2 st2 H2 hlt r2 e2.same (e2.frs r1), fun H' => ∃ F3 m3 st3 acc' accV', Ext F1 m1 st1 H1 F3 m3 st3 H' ∧ RelH X.K G F3 m3 st3 H' ∧ H' D = some (.lst accV') ∧ Reps X.K G F3 m3 st3.length acc' accV' ∧ F3 D = none ∧ (∀ n, live st3 n → m3 n ≠ D) ∧
      compL (compF t c e env (own.map (·.2))) items [] st1 = compL (compF t c e env (own.map (·.2))) (items.drop (i + 1)) acc' st3, fun H' h => ⟨items.length - (i + 1), by omega, rfl, hlt, h⟩, fun x H' hy => ?_⟩
    have hx : items[i]? = some items[i] := List.getElem?_eq_getElem hlt
    have hdrop : items.drop i = items[i] :: items.drop (i + 1) := List.drop_eq_getElem_cons hlt
    obtain ⟨F3, e3, r3, k3⟩ := wk.yld i F2 m2 st2 H2 x H' items[i] hx r2 e2.same (e2.frs r1) e2.mm e2.len hy
    have keepD : ∀ {F4 m4 st4 H4 F5 m5 st5 H5}, Ext F4 m4 st4 H4 F5 m5 st5 H5 → H4 D = some (.lst accV) → F4 D = none → (∀ n, live st4 n → m4 n ≠ D) → H5 D = some (.lst accV) ∧ F5 D = none ∧ ∀ n, live st5 n → m5 n ≠ D := by
      intro F4 m4 st4 H4 F5 m5 st5 H5 e a1 a2 a3
      have hF5 : F5 D = none := by
        cases q : F5 D with
        | none => rfl
        | some o =>
          rcases e.fnew D (by rw [q]; simp) with z | z | ⟨n, l, z⟩
          · exact absurd a2 z
          · exact absurd True.intro (z _ a1)
          · exact absurd z (a3 n l)
      refine ⟨(e.keep D _ a1 (by intro _ z; cases z) a3).resolve_right (fun z => nomatch hF5.symm.trans z.2.1), hF5, fun n l => ?_⟩
      · by_cases hn : n < st4.length
        · rw [e.mm n hn]; exact a3 n (e.lv n hn l)
        · intro z
          have z2 := e.nw n (Nat.not_lt.mp hn) l
          rw [z] at z2; obtain ⟨ps, z2⟩ := z2 _ a1; cases z2
    obtain ⟨d1, d2, d3⟩ := keepD e3 h1 h3 h4
    rw [hdrop] at h5
    rw [h5] at q1
    simp only [compL] at q1 h5
    -- the target
    cases hb : bindT t items[i] (wipeE env (own.map (·.2))) with
    | none => simp only [compF, hb, Out.noExc, Out.bind_bad] at q1; exact q1.elim
    | some env' =>
      have hF : ∀ s, compF t c e env (own.map (·.2)) items[i] s = (evalC c env' s).bind fun b st3 => if b = true then (evalE e env' st3).bind fun y st4 => .ok (some y) st4 else .ok none st3 := fun s => by simp only [compF, hb]
      rw [hF] at q1 h5
      have e13 := e2.trans e3
      refine ⟨F3, m2, st2, items[i], wipeE env (own.map (·.2)), env', r3, k3, ((rs.ext e1).ext e13).wipe _, hb, fun σ2 rs2 l2 o2 => ⟨?_, ?_⟩⟩
      · rw [wipe_same l2 fun j hj => o2 j fun z => hj (ht j z), wipe_wipe]
      cases hc : evalC c env' st2 with
      | bad => rw [hc] at q1; exact q1.elim
      | exc cc xs s3 => rw [hc] at q1; exact q1.elim
      | ok b st3 =>
        rw [hc] at q1 h5
        refine ⟨F3, m2, env', st2, r3, rs2, ?_⟩
        rw [hc]
        intro F4 m4 H4 e4 r4
        obtain ⟨d4, d5, d6⟩ := keepD e4 d1 d2 d3
        cases b with
        | false =>
          rw [if_neg (by decide)]
          simp only [Out.bind_ok, Bool.false_eq_true, if_false, Out.noExc] at h5
          exact ⟨F4, m4, st3, acc, accV, e13.trans e4, r4, d4, (e3.trans e4).reps h2, d5, d6, h5⟩
        | true =>
          rw [if_pos rfl]
          simp only [Out.bind_ok, if_true] at q1 h5
          cases he : evalE e env' st3 with
          | bad => rw [he] at q1; exact q1.elim
          | exc cc xs s3 => rw [he] at q1; exact q1.elim
          | ok y st4 =>
            rw [he] at q1 h5
            simp only [Out.bind_ok, Out.noExc] at q1 h5
            split at q1
            · rename_i hlen
              rw [if_pos hlen] at h5
              refine ⟨F4, m4, env', st3, r4, rs2.ext e4, ?_⟩
              rw [he]
              intro F5 m5 H5 e5 r5 z kz
              obtain ⟨d7, d8, d9⟩ := keepD e5 d4 d5 d6
              refine ⟨accV, d7, by rw [← h2.length]; exact hlen, F5, m5, st4, acc ++ [y], accV ++ [z], ?_, ?_, upd_same, (((e3.trans e4).trans e5).reps h2).append (.cons kz .nil), d8, d9, h5⟩
              · have ee := (e13.trans e4).trans e5
                refine ⟨ee.same, ee.len, ee.mm, ee.lv, ee.nw, fun a o ha nt nl => ?_, fun a ha => ?_, ee.fnew⟩
                · have ne : a ≠ D := fun z => by rw [z, hD] at ha; cases ha
                  rw [upd_ne ne]; exact ee.keep a o ha nt nl
                · by_cases z : a = D
                  · rw [z]; exact nu.of hD
                  · exact ee.there a fun o q => ha o (by rw [upd_ne z]; exact q)
              · refine ⟨fun a u hu => ?_, fun n cc hn => (r5.cell n cc hn).mono (Same.refl _) (fun _ _ => rfl) (Nat.le_refl _) fun hcc => upd_ne (d9 n ⟨cc, hn, hcc⟩), r5.inj, r5.off, r5.nt, tabs_upd d7 (by intro _ z; cases z) (by intro _ _ z; unfold LamX.CodeO at z; cases z) r5.tb⟩
                have ne : a ≠ D := fun z => by rw [z, d8] at hu; cases hu
                rw [upd_ne ne]; exact r5.fz a u hu
            · exact q1.elim
  · have hi' : i = items.length := by omega
    subst hi'
    left
    refine ⟨wk.stop F2 m2 st2 H2 r2 e2.same (e2.frs r1), ?_⟩
    rw [List.drop_length] at h5
    rw [h5] at q1
    simp only [compL, Out.bind_ok] at q1
    exact q1 F2 m2 H2 e2 r2 D _ hD0 h3 h4 h1 ⟨accV, rfl, h2⟩
noncomputable def compG (t : Tgt) (c : Eo) (ke e : E) (env : Env) (vs : List Nat) (x : Val) (st2 : Store) : Out (Option (L2.Key × Val)) :=
  match bindT t x (wipeE env vs) with
  | none => .bad
  | some env' => (evalC c env' st2).bind fun b st3 => if b = true then (evalE ke env' st3).bind fun kv st4 => (Out.of (keyOf kv) st4).bind fun kk st5 => (evalE e env' st5).bind fun y st6 => .ok (some (kk, y)) st6 else .ok none st3
theorem dcomp_ok (t : Tgt) (c : Eo) (ke e : E) (vs : List Nat) (ht : ∀ i, i ∈ tgtSlots t → i ∈ vs) {it : It} {own : List (PySem.Str × Nat)} (hv : own.map (·.2) = vs) {σ : L2.St} {H : Hp} {Q : VK} (h : tN X G W (.dcomp ke e t it c own) σ H Q) :
    tDc (tIt X G W it) (gT X.K G t) (tC' X G W0 c) (tE X G W0 ke) (tE X G W0 e) vs σ H Q := by
  obtain ⟨F, m, env, st, r, rs, p⟩ := h
  subst hv
  refine ⟨F, m, env, st, r, rs, (PostG.bind p).mono fun items F1 m1 st1 H1 e1 r1 q1 J wk D hD => ?_⟩
  have q1 : PostG X.K G (exW X G W σ) _ F1 m1 st1 H1 ((compD (compG t c ke e env (own.map (·.2))) items [] st1).bind fun ys st2 => .ok (Cell.dK ys) st2) := q1
  have hD0 : nu H D := e1.there D (nu.of hD)
  refine ⟨fun i n H2 => n = items.length - i ∧ i ≤ items.length ∧ ∃ F2 m2 st2 acc accV, Ext F1 m1 st1 H1 F2 m2 st2 H2 ∧ RelH X.K G F2 m2 st2 H2 ∧ H2 D = some (.dK accV) ∧ RepK X.K G F2 m2 st2.length acc accV ∧ F2 D = none ∧ (∀ n, live st2 n → m2 n ≠ D) ∧
    compD (compG t c ke e env (own.map (·.2))) items [] st1 = compD (compG t c ke e env (own.map (·.2))) (items.drop i) acc st2, ⟨items.length, rfl, Nat.zero_le _, F1, m1, st1, [], [], Ext.lay hD _, r1.lay hD _, upd_same, .nil, r1.fz.free hD, fun n l => r1.ne l (nu.of hD), rfl⟩, ?_⟩
  rintro i n H2 ⟨rfl, hi, F2, m2, st2, acc, accV, e2, r2, h1, h2, h3, h4, h5⟩
  by_cases hlt : i < items.length
  · right
    refine ⟨wk.go i F2 m2 st2 H2 hlt r2 e2.same (e2.frs r1), fun H' => ∃ F3 m3 st3 acc' accV', Ext F1 m1 st1 H1 F3 m3 st3 H' ∧ RelH X.K G F3 m3 st3 H' ∧ H' D = some (.dK accV') ∧ RepK X.K G F3 m3 st3.length acc' accV' ∧ F3 D = none ∧ (∀ n, live st3 n → m3 n ≠ D) ∧
      compD (compG t c ke e env (own.map (·.2))) items [] st1 = compD (compG t c ke e env (own.map (·.2))) (items.drop (i + 1)) acc' st3, fun H' h => ⟨items.length - (i + 1), by omega, rfl, hlt, h⟩, fun x H' hy => ?_⟩
    have hx : items[i]? = some items[i] := List.getElem?_eq_getElem hlt
    have hdrop : items.drop i = items[i] :: items.drop (i + 1) := List.drop_eq_getElem_cons hlt
    obtain ⟨F3, e3, r3, k3⟩ := wk.yld i F2 m2 st2 H2 x H' items[i] hx r2 e2.same (e2.frs r1) e2.mm e2.len hy
    have keepD : ∀ {F4 m4 st4 H4 F5 m5 st5 H5}, Ext F4 m4 st4 H4 F5 m5 st5 H5 → H4 D = some (.dK accV) → F4 D = none → (∀ n, live st4 n → m4 n ≠ D) → H5 D = some (.dK accV) ∧ F5 D = none ∧ ∀ n, live st5 n → m5 n ≠ D := by
      intro F4 m4 st4 H4 F5 m5 st5 H5 e a1 a2 a3
      have hF5 : F5 D = none := by
        cases q : F5 D with
        | none => rfl
        | some o =>
          rcases e.fnew D (by rw [q]; simp) with z | z | ⟨n, l, z⟩
          · exact absurd a2 z
          · exact absurd True.intro (z _ a1)
          · exact absurd z (a3 n l)
      refine ⟨(e.keep D _ a1 (by intro _ z; cases z) a3).resolve_right (fun z => nomatch hF5.symm.trans z.2.1), hF5, fun n l => ?_⟩
      · by_cases hn : n < st4.length
        · rw [e.mm n hn]; exact a3 n (e.lv n hn l)
        · intro z
          have z2 := e.nw n (Nat.not_lt.mp hn) l
          rw [z] at z2; obtain ⟨ps, z2⟩ := z2 _ a1; cases z2
    obtain ⟨d1, d2, d3⟩ := keepD e3 h1 h3 h4
    rw [hdrop] at h5
    rw [h5] at q1
    simp only [compD] at q1 h5
    -- the target
    cases hb : bindT t items[i] (wipeE env (own.map (·.2))) with
    | none => simp only [compG, hb, Out.noExc, Out.bind_bad] at q1; exact q1.elim
    | some env' =>
      have hF : ∀ s, compG t c ke e env (own.map (·.2)) items[i] s = (evalC c env' s).bind fun b st3 => if b = true then (evalE ke env' st3).bind fun kv st4 => (Out.of (keyOf kv) st4).bind fun kk st5 => (evalE e env' st5).bind fun y st6 => .ok (some (kk, y)) st6 else .ok none st3 := fun s => by simp only [compG, hb]
      rw [hF] at q1 h5
      have e13 := e2.trans e3
      refine ⟨F3, m2, st2, items[i], wipeE env (own.map (·.2)), env', r3, k3, ((rs.ext e1).ext e13).wipe _, hb, fun σ2 rs2 l2 o2 => ⟨?_, ?_⟩⟩
      · rw [wipe_same l2 fun j hj => o2 j fun z => hj (ht j z), wipe_wipe]
      cases hc : evalC c env' st2 with
      | bad => rw [hc] at q1; exact q1.elim
      | exc cc xs s3 => rw [hc] at q1; exact q1.elim
      | ok b st3 =>
        rw [hc] at q1 h5
        refine ⟨F3, m2, env', st2, r3, rs2, ?_⟩
        rw [hc]
        intro F4 m4 H4 e4 r4
        obtain ⟨d4, d5, d6⟩ := keepD e4 d1 d2 d3
        cases b with
        | false =>
          rw [if_neg (by decide)]
          simp only [Out.bind_ok, Bool.false_eq_true, if_false, Out.noExc] at h5
          exact ⟨F4, m4, st3, acc, accV, e13.trans e4, r4, d4, (e3.trans e4).repK h2, d5, d6, h5⟩
        | true =>
          rw [if_pos rfl]
          simp only [Out.bind_ok, if_true] at q1 h5
          cases hk : evalE ke env' st3 with
          | bad => rw [hk] at q1; exact q1.elim
          | exc cc xs s3 => rw [hk] at q1; exact q1.elim
          | ok kv st4 =>
            rw [hk] at q1 h5
            simp only [Out.bind_ok] at q1 h5
            cases hkk : keyOf kv with
            | none => rw [hkk] at q1; exact q1.elim
            | some kk =>
              rw [hkk] at q1 h5
              simp only [Out.of_some, Out.bind_ok] at q1 h5
              cases he : evalE e env' st4 with
              | bad => rw [he] at q1; exact q1.elim
              | exc cc xs s3 => rw [he] at q1; exact q1.elim
              | ok y st5 =>
                rw [he] at q1 h5
                simp only [Out.bind_ok, Out.noExc] at q1 h5
                split at q1
                · rename_i hlen
                  rw [if_pos hlen] at h5
                  refine ⟨F4, m4, env', st3, r4, rs2.ext e4, ?_⟩
                  rw [hk]
                  intro F5 m5 H5 e5 r5 u ku
                  obtain ⟨d7, d8, d9⟩ := keepD e5 d4 d5 d6
                  refine ⟨F5, m5, env', st4, r5, (rs2.ext e4).ext e5, ?_⟩
                  rw [he]
                  intro F6 m6 H6 e6 r6 z kz
                  obtain ⟨d10, d11, d12⟩ := keepD e6 d7 d8 d9
                  refine ⟨accV, kk, key_of_rep ku hkk, d10, by rw [← h2.length]; exact hlen, F6, m6, st5, putA acc kk y, putK accV kk z, ?_, ?_, upd_same, repK_put kz ((((e3.trans e4).trans e5).trans e6).repK h2), d11, d12, h5⟩
                  · have ee := ((e13.trans e4).trans e5).trans e6
                    refine ⟨ee.same, ee.len, ee.mm, ee.lv, ee.nw, fun a o ha nt nl => ?_, fun a ha => ?_, ee.fnew⟩
                    · have ne : a ≠ D := fun z => by rw [z, hD] at ha; cases ha
                      rw [upd_ne ne]; exact ee.keep a o ha nt nl
                    · by_cases z : a = D
                      · rw [z]; exact nu.of hD
                      · exact ee.there a fun o q => ha o (by rw [upd_ne z]; exact q)
                  · refine ⟨fun a u hu => ?_, fun n cc hn => (r6.cell n cc hn).mono (Same.refl _) (fun _ _ => rfl) (Nat.le_refl _) fun hcc => upd_ne (d12 n ⟨cc, hn, hcc⟩), r6.inj, r6.off, r6.nt, tabs_upd d10 (by intro _ z; cases z) (by intro _ _ z; unfold LamX.CodeO at z; cases z) r6.tb⟩
                    have ne : a ≠ D := fun z => by rw [z, d11] at hu; cases hu
                    rw [upd_ne ne]; exact r6.fz a u hu
                · exact q1.elim
  · have hi' : i = items.length := by omega
    subst hi'
    left
    refine ⟨wk.stop F2 m2 st2 H2 r2 e2.same (e2.frs r1), ?_⟩
    rw [List.drop_length] at h5
    rw [h5] at q1
    simp only [compD, Out.bind_ok] at q1
    exact q1 F2 m2 H2 e2 r2 D _ hD0 h3 h4 h1 ⟨accV, rfl, h2⟩
end
end MP
set_option maxHeartbeats 8000000
/-! MPAll: every expression of the small language keeps its reading. -/
namespace MP
open PySem PyProof.Rows L2
section
variable {X : Cx} {G : GX} {W : WX} {N : List PySem.Str} {sc : Scope}

/-! ### methods -/
theorem PostG.true {α : Type} {E : EX} {R : α → RT} {F H : Hp} {m : Nat → Addr} {st : Store} {x : Out α} (h : PostG X.K G E R F m st H x) : PostG X.K G (fun _ _ _ _ _ _ => True) R F m st H x := by
  cases x with
  | ok a st' => exact h
  | exc c xs st' => exact fun _ _ _ _ _ => True.intro
  | bad => exact h
def mthT (k : Mth) : String := match k with
  | .update => "dict"
  | .get => "dict"
  | _ => "list"
theorem pre_ty {F H : Hp} {m : Nat → Addr} {st : Store} (r : RelH X.K G F m st H) {k : Mth} {v : Val} {x : V} (q : Rep X.K G F m st.length v x) (e : mthPre k v st = true) : tyM X.K (mthT k) x H := by
  cases q <;> simp only [mthPre] at e <;> try cases e
  case ref n a hn z =>
    subst z
    cases hk : st[n]? with
    | none => rw [hk] at e; cases e
    | some c =>
      rw [hk] at e
      cases c with
      | lst xs =>
        obtain ⟨ys, h1, _⟩ := r.cell n _ hk
        cases k <;> first | (exact ⟨_, rfl, .inl ⟨rfl, ys, SqL.of h1⟩⟩) | (exact absurd e Bool.false_ne_true)
      | dK xs =>
        obtain ⟨ys, h1, _⟩ := r.cell n _ hk
        cases k <;> first | (exact ⟨_, rfl, .inr ⟨rfl, .inl ⟨ys, .inl h1⟩⟩⟩) | (exact absurd e Bool.false_ne_true)
      | dT xs =>
        obtain ⟨ys, h1, _⟩ := r.cell n _ hk
        cases k <;> first | (exact ⟨_, rfl, .inr ⟨rfl, .inr ⟨ys, .inl h1⟩⟩⟩) | (exact absurd e Bool.false_ne_true)
      | dead => cases e
  all_goals first
    | (cases k <;> first | (exact ⟨_, rfl, .inl ⟨rfl, _, SqL.of (r.fz.lst (by assumption))⟩⟩) | (exact absurd e Bool.false_ne_true))
    | (cases k <;> first | (exact ⟨_, rfl, .inr ⟨rfl, .inl ⟨_, r.fz.rdK (by assumption)⟩⟩⟩) | (exact absurd e Bool.false_ne_true))
    | (cases k <;> first | (exact ⟨_, rfl, .inr ⟨rfl, .inr ⟨_, r.fz.rdT (by assumption)⟩⟩⟩) | (exact absurd e Bool.false_ne_true))
theorem base_of {xo : PySem.Expr} {name : PySem.Str} (h : noCall xo = true) : attributeBase xo name X.env (eval xo X.env) = eval xo X.env := by
  cases xo <;> try rfl
  rename_i f args ks pos
  cases args with
  | nil => cases h
  | cons a as => cases f <;> rfl
theorem s_mthN {k : Mth} {o : E} {es : Es} {id : String} {name : PySem.Str} {xo xe : PySem.Expr} {xes : List PySem.Expr} {apos cpos : Pos} (pa : PlainAttrs (mthT k)) (slot : Slot (mthT k) name id) (hty : typeOf (.builtin id) = pure (.type "method_descriptor")) (hm : MtM X id (rM X G k))
    (hn : noCall xo = true) (hl : (apos.endLine == cpos.line) = true) (hfew : ((backTo cpos (starEach (xe :: xes) X.env)).all (fun x => !x.1) && (backToKw cpos (keywordEach [] X.env)).all (fun x => x.1.isSome)
      && decide ((xe :: xes).length + ([] : List Keyword).length + (if ([] : List Keyword).isEmpty then 0 else 1) < 30)) = true) (hs : starEach (xe :: xes) X.env = (false, eval xe X.env) :: starEach xes X.env) (hplain : (backTo cpos (starEach xes X.env)).any (·.1) = false)
    (ho : PE X xo (tE X G W o)) (ha : PA X (xe :: xes) (tA X G W es)) : PE X (.Call (.Attribute xo name apos) (xe :: xes) [] cpos) (tE X G W (.mth k o es)) := by
  refine PE.imp (pe_mm pa slot hty hm ho ha (base_of hn) hfew hl hs hplain) fun σ H Q h => ?_
  obtain ⟨F, m, env, st, r, rs, p⟩ := h
  refine ⟨F, m, env, st, r, rs, (PostG.bind p).mono fun va F1 m1 st1 H1 e1 r1 q1 y1 k1 => ?_⟩
  split at q1
  · rename_i hp
    refine ⟨pre_ty r1 k1 hp, F1, m1, env, st1, r1, rs.ext e1, (PostG.bind q1).mono fun vs F2 m2 st2 H2 e2 r2 q2 ys ks => ?_⟩
    exact ⟨F2, m2, st2, va, vs, r2, e2.rep k1, ks, q2.true⟩
  · exact q1.elim
theorem s_mth1 {k : Mth} {o : E} {es : Es} {id : String} {name : PySem.Str} {xo xe : PySem.Expr} {apos cpos : Pos} (pa : PlainAttrs (mthT k)) (slot : Slot (mthT k) name id) (hty : typeOf (.builtin id) = pure (.type "method_descriptor")) (hm : MtM X id (rM X G k))
    (hn : noCall xo = true) (hl : (apos.endLine == cpos.line) = true) (hs : noStar xe = true) (ho : PE X xo (tE X G W o)) (ha : PA X [xe] (tA X G W es)) : PE X (.Call (.Attribute xo name apos) [xe] [] cpos) (tE X G W (.mth k o es)) :=
  s_mthN pa slot hty hm hn hl (by rw [star_of hs]; rfl) (star_of hs) rfl ho ha
theorem s_mth2 {k : Mth} {o : E} {es : Es} {id : String} {name : PySem.Str} {xo xe xd : PySem.Expr} {apos cpos : Pos} (pa : PlainAttrs (mthT k)) (slot : Slot (mthT k) name id) (hty : typeOf (.builtin id) = pure (.type "method_descriptor")) (hm : MtM X id (rM X G k))
    (hn : noCall xo = true) (hl : (apos.endLine == cpos.line) = true) (hs : noStar xe = true) (hs2 : noStar xd = true) (ho : PE X xo (tE X G W o)) (ha : PA X [xe, xd] (tA X G W es)) : PE X (.Call (.Attribute xo name apos) [xe, xd] [] cpos) (tE X G W (.mth k o es)) :=
  s_mthN pa slot hty hm hn hl (by rw [star_of hs, star_of hs2]; rfl) (star_of hs) (by rw [star_of hs2]; rfl) ho ha
theorem s_mth0 {k : Mth} {o : E} {id : String} {name : PySem.Str} {xo : PySem.Expr} {apos cpos : Pos} (pa : PlainAttrs (mthT k)) (slot : Slot (mthT k) name id) (hty : typeOf (.builtin id) = pure (.type "method_descriptor")) (hm : MtM X id (rM X G k))
    (hn : noCall xo = true) (hl : (apos.endLine == cpos.line) = true) (ho : PE X xo (tE X G W o)) : PE X (.Call (.Attribute xo name apos) [] [] cpos) (tE X G W (.mth k o .nil)) := by
  refine PE.imp (pe_mm0 pa slot hty hm ho (base_of hn) hl) fun σ H Q h => ?_
  obtain ⟨F, m, env, st, r, rs, p⟩ := h
  refine ⟨F, m, env, st, r, rs, (PostG.bind p).mono fun va F1 m1 st1 H1 e1 r1 q1 y1 k1 => ?_⟩
  split at q1
  · rename_i hp
    exact ⟨pre_ty r1 k1 hp, F1, m1, st1, va, [], r1, k1, .nil, PostG.true q1⟩
  · exact q1.elim

/-! ### tests -/
theorem t_plain {e : E} {x : PySem.Expr} (h : PE X x (tE X G W e)) (he : ∀ whole, isTrue x X.env whole = (do let v ← whole; standAt x.pos; holding [v] (truthy v))) : PT X x (tT X G W e) := by
  refine PT.imp (pt_truth h he) fun σ H Q h => ?_
  obtain ⟨F, m, env, st, r, rs, p⟩ := h
  refine ⟨F, m, env, st, r, rs, (PostG.bind p).mono fun va F1 m1 st1 H1 e1 r1 q1 y1 k1 => ?_⟩
  obtain ⟨b, hb, q2⟩ := q1.of r1
  exact ⟨b, truth_of r1 k1 hb, q2⟩
theorem t_bool {t : TE} {e : E} (ht : ∀ σ H Q, tE X G W e σ H Q → t σ H Q) (hb : ∀ env st v st1, evalE e env st = .ok v st1 → ∃ b, v = .bl b) {σ : L2.St} {H : Hp} {Q : Bool → Hp → Prop} (h : tT X G W e σ H Q) : tTest t σ H Q := by
  refine ht σ H _ ?_
  obtain ⟨F, m, env, st, r, rs, p⟩ := h
  refine ⟨F, m, env, st, r, rs, ?_⟩
  dsimp only at p
  cases hE : evalE e env st with
  | bad => rw [hE] at p; exact p
  | exc c xs st1 => rw [hE] at p; exact p
  | ok v st1 =>
    obtain ⟨b, rfl⟩ := hb _ _ _ _ hE
    rw [hE] at p
    intro F1 m1 H1 e1 r1 y k
    cases k
    exact ⟨b, rfl, (PostG.step (F1 := F1) (m1 := m1) (st1 := st1) (H1 := H1) (x := Out.ok b st1) p e1).ok r1⟩
theorem of_bl {o : Option Bool} {st : Store} {v : Val} {st1 : Store} (h : Out.of (o.map Val.bl) st = .ok v st1) : ∃ b, v = .bl b := by
  cases o with
  | none => cases h
  | some b => cases h; exact ⟨b, rfl⟩
theorem bind_ok_inv {α β : Type} {x : Out α} {k : α → Store → Out β} {b : β} {st : Store} (h : x.bind k = .ok b st) : ∃ a st1, x = .ok a st1 ∧ k a st1 = .ok b st := by
  cases x with
  | ok a s => exact ⟨a, s, rfl, h⟩
  | exc _ _ _ => cases h
  | bad => cases h
theorem cmp_bl {op : Cop} {a b : E} (env : Env) (st : Store) (v : Val) (st1 : Store) (h : evalE (.cmp op a b) env st = .ok v st1) : ∃ c, v = .bl c := by
  simp only [evalE] at h
  obtain ⟨x, s1, _, h⟩ := bind_ok_inv h
  obtain ⟨y, s2, _, h⟩ := bind_ok_inv h
  exact of_bl h
theorem isn_bl {n : Bool} {a : E} (env : Env) (st : Store) (v : Val) (st1 : Store) (h : evalE (.isn n a) env st = .ok v st1) : ∃ c, v = .bl c := by
  simp only [evalE] at h
  obtain ⟨x, s1, _, h⟩ := bind_ok_inv h
  cases h; exact ⟨_, rfl⟩
theorem isb_bl {n b : Bool} {a : E} (env : Env) (st : Store) (v : Val) (st1 : Store) (h : evalE (.isb n a b) env st = .ok v st1) : ∃ c, v = .bl c := by
  simp only [evalE] at h
  obtain ⟨x, s1, _, h⟩ := bind_ok_inv h
  cases x <;> simp only at h <;> try cases h
  exact ⟨_, rfl⟩
theorem chain_bl {op op' : Cop} {a b c : E} (env : Env) (st : Store) (v : Val) (st1 : Store) (h : evalE (.chain op op' a b c) env st = .ok v st1) : ∃ c, v = .bl c := by
  simp only [evalE] at h
  obtain ⟨x, s1, _, h⟩ := bind_ok_inv h
  obtain ⟨y, s2, _, h⟩ := bind_ok_inv h
  obtain ⟨t, s3, _, h⟩ := bind_ok_inv h
  split at h
  · obtain ⟨z, s4, _, h⟩ := bind_ok_inv h
    exact of_bl h
  · cases h; exact ⟨_, rfl⟩
theorem t_not {a : E} {xa : PySem.Expr} {pos : Pos} (ha : PT X xa (tT X G W a)) : PT X (.UnaryOp .Not xa pos) (tT X G W (.not a)) := by
  refine PT.imp (pt_not ha) fun σ H Q h => ?_
  obtain ⟨F, m, env, st, r, rs, p⟩ := h
  refine ⟨F, m, env, st, r, rs, ?_⟩
  simp only [evalE] at p
  dsimp only
  cases hE : evalE a env st with
  | bad => rw [hE] at p; exact p
  | exc c xs st1 => rw [hE] at p; exact p
  | ok v st1 =>
    rw [hE] at p
    simp only [Out.bind_ok] at p ⊢
    cases ht : truth v st1 with
    | none => rw [ht] at p; exact p
    | some b =>
      rw [ht] at p
      simp only [Option.map_some, Out.of_some, Out.bind_ok, truth] at p ⊢
      exact p
theorem and_of {a b : E} {env : Env} {st : Store} : (evalE (.and a b) env st).bind (fun x st1 => Out.of (truth x st1) st1) =
    ((evalE a env st).bind fun x st1 => Out.of (truth x st1) st1).bind fun t st2 => if t = true then (evalE b env st2).bind fun x st1 => Out.of (truth x st1) st1 else .ok false st2 := by
  simp only [evalE]
  cases evalE a env st with
  | bad => rfl
  | exc c xs st1 => rfl
  | ok v st1 =>
    simp only [Out.bind_ok]
    cases ht : truth v st1 with
    | none => rfl
    | some t =>
      simp only [Out.of_some, Out.bind_ok]
      cases t with
      | true => simp
      | false => simp [ht]
theorem or_of {a b : E} {env : Env} {st : Store} : (evalE (.or a b) env st).bind (fun x st1 => Out.of (truth x st1) st1) =
    ((evalE a env st).bind fun x st1 => Out.of (truth x st1) st1).bind fun t st2 => if t = true then .ok true st2 else (evalE b env st2).bind fun x st1 => Out.of (truth x st1) st1 := by
  simp only [evalE]
  cases evalE a env st with
  | bad => rfl
  | exc c xs st1 => rfl
  | ok v st1 =>
    simp only [Out.bind_ok]
    cases ht : truth v st1 with
    | none => rfl
    | some t =>
      simp only [Out.of_some, Out.bind_ok]
      cases t with
      | true => simp [ht]
      | false => simp
theorem t_and {a b : E} {xa xb : PySem.Expr} {rest : List PySem.Expr} {pos : Pos} (ha : PT X xa (tT X G W a)) (hb : PW X (.BoolOp .And (xb :: rest) pos) (tT X G W b)) : PW X (.BoolOp .And (xa :: xb :: rest) pos) (tT X G W (.and a b)) := by
  refine PW.imp (pw_and ha hb) fun σ H Q h => ?_
  obtain ⟨F, m, env, st, r, rs, p⟩ := h
  dsimp only at p
  rw [and_of] at p
  refine ⟨F, m, env, st, r, rs, (PostG.bind p).mono fun t F1 m1 st1 H1 e1 r1 q1 => ?_⟩
  cases t with
  | true => rw [if_pos rfl] at q1 ⊢; exact ⟨F1, m1, env, st1, r1, rs.ext e1, q1⟩
  | false => rw [if_neg (by decide)] at q1 ⊢; exact q1.ok r1
theorem t_or {a b : E} {xa xb : PySem.Expr} {rest : List PySem.Expr} {pos : Pos} (ha : PT X xa (tT X G W a)) (hb : PW X (.BoolOp .Or (xb :: rest) pos) (tT X G W b)) : PW X (.BoolOp .Or (xa :: xb :: rest) pos) (tT X G W (.or a b)) := by
  refine PW.imp (pw_or ha hb) fun σ H Q h => ?_
  obtain ⟨F, m, env, st, r, rs, p⟩ := h
  dsimp only at p
  rw [or_of] at p
  refine ⟨F, m, env, st, r, rs, (PostG.bind p).mono fun t F1 m1 st1 H1 e1 r1 q1 => ?_⟩
  cases t with
  | true => rw [if_pos rfl] at q1 ⊢; exact q1.ok r1
  | false => rw [if_neg (by decide)] at q1 ⊢; exact ⟨F1, m1, env, st1, r1, rs.ext e1, q1⟩
theorem t_ite {c a b : E} {xc xa xb : PySem.Expr} {pos : Pos} (hc : PT X xc (tT X G W c)) (ha : PT X xa (tT X G W a)) (hb : PT X xb (tT X G W b)) : PT X (.IfExp xc xa xb pos) (tT X G W (.ite c a b)) := by
  refine ⟨fun pins s σ H Q I h => ?_⟩
  obtain ⟨F, m, env, st, r, rs, p⟩ := h
  have e : (evalE (.ite c a b) env st).bind (fun x st1 => Out.of (truth x st1) st1) =
      ((evalE c env st).bind fun x st1 => Out.of (truth x st1) st1).bind fun t st2 => if t = true then (evalE a env st2).bind fun x st1 => Out.of (truth x st1) st1 else (evalE b env st2).bind fun x st1 => Out.of (truth x st1) st1 := by
    simp only [evalE]
    cases evalE c env st with
    | bad => rfl
    | exc c xs st1 => rfl
    | ok v st1 =>
      simp only [Out.bind_ok]
      cases truth v st1 with
      | none => rfl
      | some t => cases t <;> simp
  dsimp only at p
  rw [e] at p
  have hc' := hc.run pins s σ H (fun t H1 => if t = true then tT X G W a σ H1 Q else tT X G W b σ H1 Q) I ⟨F, m, env, st, r, rs, (PostG.bind p).mono fun t F1 m1 st1 H1 e1 r1 q1 => by
    cases t with
    | true => rw [if_pos rfl] at q1 ⊢; exact ⟨F1, m1, env, st1, r1, rs.ext e1, q1⟩
    | false => rw [if_neg (by decide)] at q1 ⊢; exact ⟨F1, m1, env, st1, r1, rs.ext e1, q1⟩⟩
  show wpAny _ _ (do if ← isTrue xc X.env (eval xc X.env) then isTrue xa X.env (eval xa X.env) else isTrue xb X.env (eval xb X.env)) _ _ _
  refine wpAny_bind (thn hc' fun t s1 ⟨H1, I1, q⟩ => ?_)
  cases t with
  | true => exact ha.run pins s1 σ H1 Q I1 q
  | false => exact hb.run pins s1 σ H1 Q I1 q
theorem last_of {op op' : CmpOp} {xb xc : PySem.Expr} (h : noSet xc = true) : lastMarks [op, op'] [xb, xc] = false := by
  cases xc <;> first | rfl | cases h
theorem isn_pt {n : Bool} {a : E} {xa : PySem.Expr} {pop : CmpOp} {j : Nat} {p pos : Pos} (hm : isnM n [pop] = true) (ha : PE X xa (tE X G W a)) : PT X (.Compare xa [pop] [.Constant .none j p] pos) (tT X G W (.isn n a)) := by
  cases n <;> cases pop <;> simp only [isnM] at hm <;> first | (exact absurd hm Bool.false_ne_true) | skip
  · refine PT.imp (pt_cmp (pc_isN ha)) fun σ H Q h => t_bool (fun σ H Q h => ?_) isn_bl h
    obtain ⟨F, m, env, st, r, rs, p⟩ := h
    refine ⟨F, m, env, st, r, rs, (PostG.bind p).mono fun va F1 m1 st1 H1 e1 r1 q1 y1 k1 => ?_⟩
    show Q (.bl (decide (y1 = .non))) H1
    rw [non_iff k1]
    have z := q1.ok r1 _ (.bl _)
    simpa using z
  · refine PT.imp (pt_cmp (pc_notN ha)) fun σ H Q h => t_bool (fun σ H Q h => ?_) isn_bl h
    obtain ⟨F, m, env, st, r, rs, p⟩ := h
    refine ⟨F, m, env, st, r, rs, (PostG.bind p).mono fun va F1 m1 st1 H1 e1 r1 q1 y1 k1 => ?_⟩
    show Q (.bl (!decide (y1 = .non))) H1
    rw [non_iff k1]
    have z := q1.ok r1 _ (.bl _)
    simpa using z
theorem isb_pt {n b : Bool} {a : E} {xa : PySem.Expr} {pop : CmpOp} {j : Nat} {p pos : Pos} (hm : isnM n [pop] = true) (ha : PE X xa (tE X G W a)) : PT X (.Compare xa [pop] [.Constant (.bool b) j p] pos) (tT X G W (.isb n a b)) := by
  cases n <;> cases pop <;> simp only [isnM] at hm <;> first | (exact absurd hm Bool.false_ne_true) | skip
  · refine PT.imp (pt_cmpR op_isBl ha pe_bl rfl) fun σ H Q h => t_bool (fun σ H Q h => ?_) isb_bl h
    obtain ⟨F, m, env, st, r, rs, p⟩ := h
    refine ⟨F, m, env, st, r, rs, (PostG.bind p).mono fun va F1 m1 st1 H1 e1 r1 q1 y1 k1 => ?_⟩
    cases k1 <;> try exact q1.elim
    refine ⟨_, b, rfl, rfl, ?_⟩
    have z := q1.ok r1 _ (.bl _)
    simpa using z
  · refine PT.imp (pt_cmpR op_notBl ha pe_bl rfl) fun σ H Q h => t_bool (fun σ H Q h => ?_) isb_bl h
    obtain ⟨F, m, env, st, r, rs, p⟩ := h
    refine ⟨F, m, env, st, r, rs, (PostG.bind p).mono fun va F1 m1 st1 H1 e1 r1 q1 y1 k1 => ?_⟩
    cases k1 <;> try exact q1.elim
    refine ⟨_, b, rfl, rfl, ?_⟩
    have z := q1.ok r1 _ (.bl _)
    simpa using z
theorem mEs_nil {es : Es} {xs : List PySem.Expr} (h : mEs N sc es xs = true) : xs = [] → es = .nil := by
  intro e
  subst e
  cases es with
  | nil => rfl
  | cons e es => simp [mEs] at h
theorem s_mth (C : Cxt X G W) {k : Mth} {o : E} {es : Es} {name : PySem.Str} {xo : PySem.Expr} {xs : List PySem.Expr} {apos cpos : Pos} (hm : mthM k name xs.length = true) (hn : noCall xo = true) (hl : (apos.endLine == cpos.line) = true) (hs : xs.all noStar = true)
    (ho : PE X xo (tE X G W o)) (hz : xs = [] → es = .nil) (ha : PA X xs (tA X G W es)) : PE X (.Call (.Attribute xo name apos) xs [] cpos) (tE X G W (.mth k o es)) := by
  have hu1 : X.A.units + 1 < cLine := by have := C.units; omega
  have hu65 : X.A.units + 65 < cLine := by have := C.units; omega
  unfold mthM at hm
  split at hm
  · rename_i hx
    match xs, hx with
    | [x], _ =>
      have e := eq_of_beq hm
      subst e
      exact s_mth1 PySem.F.plainAttrs_list PySem.F.slot_list_append PySem.F.type_list_append mt_app hn hl (by simpa using hs) ho ha
  · rename_i hx
    match xs, hx with
    | [x], _ =>
      have e := eq_of_beq hm
      subst e
      exact s_mth1 PySem.F.plainAttrs_list PySem.F.slot_list_extend PySem.F.type_list_extend mt_ext hn hl (by simpa using hs) ho ha
  · rename_i hx
    match xs, hx with
    | [], _ =>
      have e := eq_of_beq hm
      subst e
      rw [hz rfl]
      exact s_mth0 PySem.F.plainAttrs_list PySem.F.slot_list_pop PySem.F.type_list_pop mt_pop' hn hl ho
  · rename_i hx
    match xs, hx with
    | [x], _ =>
      have e := eq_of_beq hm
      subst e
      exact s_mth1 PySem.F.plainAttrs_dict PySem.F.slot_dict_update PySem.F.type_dict_update mt_upd hn hl (by simpa using hs) ho ha
  · rename_i hx
    match xs, hx with
    | [x], _ =>
      have e := eq_of_beq hm
      subst e
      exact s_mth1 PySem.F.plainAttrs_list PySem.F.slot_list_pop PySem.F.type_list_pop mt_popAt' hn hl (by simpa using hs) ho ha
  · rename_i hx
    match xs, hx with
    | [x], _ =>
      have e := eq_of_beq hm
      subst e
      exact s_mth1 PySem.F.plainAttrs_dict PySem.F.slot_dict_get PySem.F.type_dict_get (mt_get' hu1) hn hl (by simpa using hs) ho ha
  · rename_i hx
    match xs, hx with
    | [x, y], _ =>
      have e := eq_of_beq hm
      subst e
      simp only [List.all_cons, List.all_nil, Bool.and_true, Bool.and_eq_true] at hs
      exact s_mth2 PySem.F.plainAttrs_dict PySem.F.slot_dict_get PySem.F.type_dict_get (mt_get' hu1) hn hl hs.1 hs.2 ho ha
  · rename_i hx
    match xs, hx with
    | [x], _ =>
      have e := eq_of_beq hm
      subst e
      exact s_mth1 PySem.F.plainAttrs_list PySem.F.slot_list_index PySem.F.type_list_index (mt_index' hu65) hn hl (by simpa using hs) ho ha
  · rename_i hx
    match xs, hx with
    | [x], _ =>
      have e := eq_of_beq hm
      subst e
      exact s_mth1 PySem.F.plainAttrs_list PySem.F.slot_list_count PySem.F.type_list_count (mt_count' hu65) hn hl (by simpa using hs) ho ha
  · cases hm
end
end MP
set_option maxHeartbeats 4000000
/-! MPZip3: zip of three, each a tuple or a list. -/
namespace MP
open PySem PySem.Spec PyProof.Rows L2
open Classical
/-- a tuple (t) or a list -/
def SqK (t : Bool) (K : PySem.W.Frag) (H : Hp) (a : Addr) (xs : List V) : Prop := match t with
  | true => SqT K H a xs
  | false => SqL K H a xs
def ItK (t : Bool) (h : Heap) (i a : Addr) (k : Nat) : Prop := match t with
  | true => h.IsTupleIter i a k
  | false => h.IsListIter i a k
def HasK (t : Bool) (h : Heap) (a : Addr) (items : Array Value) : Prop := match t with
  | true => h.IsTuple a items
  | false => h.IsList a items
def itO (t : Bool) (a : Addr) : Obj := match t with
  | true => { cls := .type "tuple_iterator", data := .fields #[.ref a, .int 0 0] }
  | false => { cls := .type "list_iterator", data := .fields #[.ref a, .int 0 0] }
theorem ItK.start {t : Bool} {h : Heap} {i a : Addr} (e : h.get? i = some (itO t a)) : ItK t h i a 0 := by
  cases t
  · exact ⟨_, e, rfl, rfl⟩
  · exact ⟨_, e, rfl, rfl⟩
theorem ItK.ob {t : Bool} {h : Heap} {i a : Addr} {k : Nat} (x : ItK t h i a k) : ∃ o, h.get? i = some o ∧ ∀ v, o.data ≠ .cell v := by
  cases t
  · obtain ⟨o, e, _, d⟩ := x
    exact ⟨o, e, fun v q => by rw [d] at q; cases q⟩
  · obtain ⟨o, e, _, d⟩ := x
    exact ⟨o, e, fun v q => by rw [d] at q; cases q⟩
theorem ItK.keep {t : Bool} {h h' : Heap} {i a : Addr} {k : Nat} (x : ItK t h i a k) (e : ∀ o, h.get? i = some o → h'.get? i = some o) : ItK t h' i a k := by
  cases t
  · obtain ⟨o, y, r⟩ := x
    exact ⟨o, e o y, r⟩
  · obtain ⟨o, y, r⟩ := x
    exact ⟨o, e o y, r⟩
theorem draws_k {prog : Program} {w : World} {A : Around} (t : Bool) (hh : A.handled = none) (it a : Addr) (hne : a ≠ it) (items : Array Value) :
    Draws prog w A it [it, a] items.size (fun i v => items[i]? = some v) (fun i h => ItK t h it a i ∧ HasK t h a items) := by
  cases t
  · exact Draws.list hh it a hne items
  · exact Draws.tuple hh it a hne items
theorem begins_k (t : Bool) (a : Addr) (items : Array Value) : Begins (.ref a) (itO t a) (fun h => HasK t h a items) := by
  cases t
  · exact begins_list a items
  · exact begins_tuple a items
theorem seq_k {X : Cx} {pins : List (Addr × Obj)} {σ : L2.St} {H : Hp} {s : Shared} {t : Bool} {a : Addr} {xs : List V} (I : L2.Inv X pins σ H s) (h : SqK t X.K H a xs) : ∃ its : List Value, Vals xs its ∧ HasK t s.heap a its.toArray ∧ a < s.heap.objs.size := by
  cases t
  · obtain ⟨its, r, p, _⟩ := I.list h
    exact ⟨its, r, p.isList, p.lt⟩
  · obtain ⟨its, r, p, _⟩ := I.tuple h
    obtain ⟨o, ho, _⟩ := id p
    exact ⟨its, r, (show s.heap.IsTuple a its.toArray from p), Heap.lt_size ho⟩
theorem seq_inj {X : Cx} {pins : List (Addr × Obj)} {σ : L2.St} {H : Hp} {s : Shared} {t : Bool} {a : Addr} {xs ys : List V} (I : L2.Inv X pins σ H s) (h : SqK t X.K H a xs) (h' : SqK t X.K H a ys) : xs = ys := by
  cases t
  · exact I.list_inj h h'
  · exact I.tuple_inj h h'
/-- the three at a, b, c as they stand at each turn -/
def Itz3 (K : PySem.W.Frag) (ta tb tc : Bool) (a b c : Addr) : L2.It :=
  ⟨fun i H => ∃ (xs ys zs : List V) (x y z : V), SqK ta K H a xs ∧ SqK tb K H b ys ∧ SqK tc K H c zs ∧ xs[i]? = some x ∧ ys[i]? = some y ∧ zs[i]? = some z,
    fun i H v H' => ∃ T x y z, v = .ref T ∧ H T = none ∧ H' = upd H T (.tup [x, y, z]) ∧ (∀ xs, SqK ta K H a xs → xs[i]? = some x) ∧ (∀ ys, SqK tb K H b ys → ys[i]? = some y) ∧ ∀ zs, SqK tc K H c zs → zs[i]? = some z,
    fun i H => ∃ xs ys zs : List V, SqK ta K H a xs ∧ SqK tb K H b ys ∧ SqK tc K H c zs ∧ i ≤ xs.length ∧ i ≤ ys.length ∧ i ≤ zs.length ∧ (i = xs.length ∨ i = ys.length ∨ i = zs.length)⟩
theorem turn_zip3 {P : Program} {w : World} {K : PySem.W.Frag} {elts : List PySem.Expr} {kk : Nat} {tpos : Pos} {ta tb tc : Bool} {a b c z TI TO i1 i2 i3 : Addr} (D : ZipSep3 z TI TO i1 i2 i3 [i1, a] [i2, b] [i3, c]) (na : a ≠ i1) (nb : b ≠ i2) (nc : c ≠ i3) :
    Turn P w K (.Tuple elts kk tpos) (Itz3 K ta tb tc a b c) [z, TI, TO, i1, i2, i3] z (fun i h => IsZip h z TI TO .none ∧ IsTupOf3 h TI (.ref i1) (.ref i2) (.ref i3) ∧ (∃ x y u, IsTupOf3 h TO x y u) ∧ ItK ta h i1 a i ∧ ItK tb h i2 b i ∧ ItK tc h i3 c i) where
  mem := by simp
  obj := fun i h st e he => by
    obtain ⟨hz, hTI, ⟨x, y, u, hTO⟩, h1, h2, h3⟩ := st
    have he' : e = z ∨ e = TI ∨ e = TO ∨ e = i1 ∨ e = i2 ∨ e = i3 := by simpa using he
    rcases he' with q | q | q | q | q | q <;> rw [q]
    · exact ⟨_, hz, fun v q => nomatch q⟩
    · exact ⟨_, hTI, fun v q => nomatch q⟩
    · exact ⟨_, hTO, fun v q => nomatch q⟩
    · exact h1.ob
    · exact h2.ob
    · exact h3.ob
  keep := fun i h h' st k => by
    obtain ⟨hz, hTI, ⟨x, y, u, hTO⟩, h1, h2, h3⟩ := st
    exact ⟨k z (by simp) _ hz, k TI (by simp) _ hTI, ⟨x, y, u, k TO (by simp) _ hTO⟩, h1.keep fun o q => k i1 (by simp) o q, h2.keep fun o q => k i2 (by simp) o q, h3.keep fun o q => k i3 (by simp) o q⟩
  item := by
    intro X hP hw hK hca i pins s σ H E I hf st hgo
    subst hP hw hK
    obtain ⟨hz, hTI, ⟨x0, y0, u0, hTO⟩, h1, h2, h3⟩ := st
    obtain ⟨xs, ys, zs, x, y, u, qx, qy, qz, hx, hy, hu⟩ := hgo
    obtain ⟨t1, rv1, p1, _⟩ := seq_k I qx
    obtain ⟨t2, rv2, p2, _⟩ := seq_k I qy
    obtain ⟨t3, rv3, p3, _⟩ := seq_k I qz
    obtain ⟨w1, g1, r1⟩ := rv1.get hx
    obtain ⟨w2, g2, r2⟩ := rv2.get hy
    obtain ⟨w3, g3, r3⟩ := rv3.get hu
    have hh : X.A.in1.handled = none := I.ok.hd hca
    have lt : ∀ {q : Addr} {o : Obj}, s.heap.get? q = some o → q < s.heap.objs.size := fun e => Heap.lt_size e
    have n1 : i < t1.toArray.size := by have := (List.getElem?_eq_some_iff.mp g1).1; simpa using this
    have n2 : i < t2.toArray.size := by have := (List.getElem?_eq_some_iff.mp g2).1; simpa using this
    have n3 : i < t3.toArray.size := by have := (List.getElem?_eq_some_iff.mp g3).1; simpa using this
    refine wpAny_pyNext_zipD3_item D (draws_k ta hh i1 a na t1.toArray) (draws_k tb hh i2 b nb t2.toArray) (draws_k tc hh i3 c nc t3.toArray) hz hTI hTO ⟨h1, p1⟩ ⟨h2, p2⟩ ⟨h3, p3⟩ n1 n2 n3 fun v1 v2 v3 h' tk e1 e2 e3 z' TO' s1 s2 s3 hT hsz hk => ?_
    have e1 : v1 = w1 := by
      have : t1[i]? = some v1 := by simpa using e1
      rw [g1] at this; exact (Option.some.inj this).symm
    have e2 : v2 = w2 := by
      have : t2[i]? = some v2 := by simpa using e2
      rw [g2] at this; exact (Option.some.inj this).symm
    have e3 : v3 = w3 := by
      have : t3[i]? = some v3 := by simpa using e3
      rw [g3] at this; exact (Option.some.inj this).symm
    subst e1 e2 e3
    refine ⟨_, rfl, wpAny_letOwnedTupleGo_zip (s := { s with heap := h', toks := tk }) z' fun h'' z'' sb => ?_⟩
    have zl : z < s.heap.objs.size := lt hz
    have hT2 : h''.get? s.heap.objs.size = some { cls := .type "tuple", data := .seq #[v1, v2, v3] } := (sb.2 _ (Nat.ne_of_gt zl)).trans hT
    have new : ObjOk X.prog X.w (upd H s.heap.objs.size (.tup [x, y, u])) h'' s.heap.objs.size (.tup [x, y, u]) :=
      ⟨by show 3 ≤ sizeLine; decide, [v1, v2, v3], .cons r1 (.cons r2 (.cons r3 .nil)), ⟨_, hT2, rfl, _, rfl⟩⟩
    have kk' : ∀ q o, q ∉ [z, TI, TO, i1, i2, i3] → s.heap.get? q = some o → h''.get? q = some o := fun q o hq e =>
      (sb.2 q (fun y => hq (by simp [y]))).trans (hk q o (fun y => hq (by simp [y])) (fun y => hq (by simp [y])) (fun y => hq (by simp [y])) (fun y => hq (by simp [y])) (fun y => hq (by simp [y])) e)
    have I1 : L2.Inv X pins σ (upd H s.heap.objs.size (.tup [x, y, u])) { s with heap := h'', toks := tk } := I.turnedNew (ch := [z, TI, TO, i1, i2, i3]) kk' hf (Nat.le_refl _) new
    refine ⟨.ref s.heap.objs.size, _, I1, rfl, ⟨_, x, y, u, rfl, I.hok.fresh (Nat.le_refl _), rfl, fun l hl => by rw [seq_inj I hl qx]; exact hx, fun l hl => by rw [seq_inj I hl qy]; exact hy, fun l hl => by rw [seq_inj I hl qz]; exact hu⟩, ⟨z'', ?_, ⟨v1, v2, v3, ?_⟩, ?_, ?_, ?_⟩, fun q hq => ?_⟩
    · exact (sb.2 _ D.TIz).trans (hk _ _ D.TIz D.TITO D.TIi1 D.TIi2 D.TIi3 hTI)
    · exact (sb.2 _ D.TOz).trans TO'
    · exact s1.1.keep fun o q => (sb.2 _ (Ne.symm D.zi1)).trans q
    · exact s2.1.keep fun o q => (sb.2 _ (Ne.symm D.zi2)).trans q
    · exact s3.1.keep fun o q => (sb.2 _ (Ne.symm D.zi3)).trans q
    · have hlt : q < s.heap.objs.size := by
        have hq' : q = z ∨ q = TI ∨ q = TO ∨ q = i1 ∨ q = i2 ∨ q = i3 := by simpa using hq
        rcases hq' with y | y | y | y | y | y <;> rw [y]
        · exact zl
        · exact lt hTI
        · exact lt hTO
        · obtain ⟨o, e, _⟩ := h1.ob; exact lt e
        · obtain ⟨o, e, _⟩ := h2.ob; exact lt e
        · obtain ⟨o, e, _⟩ := h3.ob; exact lt e
      rw [upd_ne (Nat.ne_of_lt hlt)]
      exact (hf q hq).1
  done := by
    intro X hP hw hK hca i pins s σ H E I hf st hst
    subst hP hw hK
    obtain ⟨hz, hTI, ⟨x0, y0, u0, hTO⟩, h1, h2, h3⟩ := st
    obtain ⟨xs, ys, zs, qx, qy, qz, b1, b2, b3, hend⟩ := hst
    obtain ⟨t1, rv1, p1, _⟩ := seq_k I qx
    obtain ⟨t2, rv2, p2, _⟩ := seq_k I qy
    obtain ⟨t3, rv3, p3, _⟩ := seq_k I qz
    have hh : X.A.in1.handled = none := I.ok.hd hca
    have m1 := rv1.length
    have m2 := rv2.length
    have m3 := rv3.length
    refine wpAny_pyNext_zipD3_end D (draws_k ta hh i1 a na t1.toArray) (draws_k tb hh i2 b nb t2.toArray) (draws_k tc hh i3 c nc t3.toArray) hz hTI hTO ⟨h1, p1⟩ ⟨h2, p2⟩ ⟨h3, p3⟩ (by simp; omega) (by simp; omega) (by simp; omega) (by simp; omega) fun h' tk hk => ⟨rfl, I.turnedL (ch := [z, TI, TO, i1, i2, i3]) (fun q o hq e =>
      hk q o (fun y => hq (by simp [y])) (fun y => hq (by simp [y])) (fun y => hq (by simp [y])) (fun y => hq (by simp [y])) (fun y => hq (by simp [y])) e) hf⟩
  self := fun A i s Q E st h => wpAny_pyIter_zip st.1 h
def iZip3 (K : PySem.W.Frag) (t : TA) : TI := fun σ H R => t σ H fun vs H1 => ∃ a b c ta tb tc xs ys zs, vs = [.ref a, .ref b, .ref c] ∧ SqK ta K H1 a xs ∧ SqK tb K H1 b ys ∧ SqK tc K H1 c zs ∧ R (Itz3 K ta tb tc a b c) H1
theorem pi_zip3 {X : Cx} {e e2 e3 : PySem.Expr} {t : TA} {p pos tpos : Pos} {elts : List PySem.Expr} {kk : Nat} (hg : Gl X "zip") (hm : X.mg "zip" = none) (ha : PA X [e, e2, e3] t)
    (hs : starEach [e, e2, e3] X.env = (false, eval e X.env) :: starEach [e2, e3] X.env) (hpl : (backTo pos (starEach [e2, e3] X.env)).any (·.1) = false) :
    PI X (.Tuple elts kk tpos) (.Call (.Name "zip" p) [e, e2, e3] [] pos) (iZip3 X.K t) := by
  refine ⟨fun pins s σ H R I h => ?_⟩
  refine Call_ (ld_blt I hg hm PyProof.Rows.boot_zip (PyProof.Rows.callWith_type1 (thn (ha.run pos pins s σ H _ I h) fun us s1 ⟨vs, H1, I1, rv, q1⟩ => ?_) hs hpl))
  obtain ⟨a, b, c, ta, tb, tc, xs, ys, zs, ex, qx, qy, qz, q⟩ := q1
  subst ex
  cases rv with
  | cons ra rv => cases rv with
    | cons rb rv => cases rv with
      | cons rc rv =>
        cases rv; cases ra; cases rb; cases rc
        obtain ⟨t1, _, p1, l1⟩ := seq_k I1 qx
        obtain ⟨t2, _, p2, l2⟩ := seq_k I1 qy
        obtain ⟨t3, _, p3, l3⟩ := seq_k I1 qz
        refine zip_begins3 (begins_k ta a t1.toArray) (begins_k tb b t2.toArray) (begins_k tc c t3.toArray) p1 p2 p3 fun h' hz hTI hTO g1 g2 g3 hsz hk => wpAny_pyIter_zip hz ?_
        have I2 : L2.Inv X pins σ H1 { s1 with heap := h' } := I1.kept (t' := s1.toks) hk
        have sep : ZipSep3 (s1.heap.objs.size + 5) (s1.heap.objs.size + 3) (s1.heap.objs.size + 4) s1.heap.objs.size (s1.heap.objs.size + 1) (s1.heap.objs.size + 2) [s1.heap.objs.size, a] [s1.heap.objs.size + 1, b] [s1.heap.objs.size + 2, c] :=
          zip_sep3 (fun x hx => by simp at hx; rw [hx]; exact l1) (fun x hx => by simp at hx; rw [hx]; exact l2) (fun x hx => by simp at hx; rw [hx]; exact l3)
        refine ⟨s1.heap.objs.size + 5, [s1.heap.objs.size + 5, s1.heap.objs.size + 3, s1.heap.objs.size + 4, s1.heap.objs.size, s1.heap.objs.size + 1, s1.heap.objs.size + 2], _, _, H1, rfl, I2, turn_zip3 (ta := ta) (tb := tb) (tc := tc) sep (Nat.ne_of_lt l1) (Nat.ne_of_lt (Nat.lt_succ_of_lt l2)) (Nat.ne_of_lt (Nat.lt_succ_of_lt (Nat.lt_succ_of_lt l3))), ⟨hz, hTI, ⟨_, _, _, hTO⟩, ItK.start g1, ItK.start g2, ItK.start g3⟩, fun x hx => ?_, q⟩
        have hle : s1.heap.objs.size ≤ x := by
          have hx' : x = s1.heap.objs.size + 5 ∨ x = s1.heap.objs.size + 3 ∨ x = s1.heap.objs.size + 4 ∨ x = s1.heap.objs.size ∨ x = s1.heap.objs.size + 1 ∨ x = s1.heap.objs.size + 2 := by simpa using hx
          rcases hx' with y | y | y | y | y | y <;> rw [y]
          · exact Nat.le_add_right _ _
          · exact Nat.le_add_right _ _
          · exact Nat.le_add_right _ _
          · exact Nat.le_refl _
          · exact Nat.le_add_right _ _
          · exact Nat.le_add_right _ _
        exact I1.fpOk hle (I1.hok.fresh hle)
section
variable {X : Cx} {G : GX} {W : WX}
/-- what is read as items -/
theorem items_k {F H : Hp} {m : Nat → Addr} {st : Store} (r : RelH X.K G F m st H) {v : Val} {x : V} {xs : List Val} (q : Rep X.K G F m st.length v x) (e : itemsV v = some xs) :
    ∃ (t : Bool) (a : Addr) (ys : List V), x = .ref a ∧ Reps X.K G F m st.length xs ys ∧ ∀ F' H' m' st', RelH X.K G F' m' st' H' → Same F F' → SqK t X.K H' a ys := by
  cases q <;> simp only [itemsV] at e <;> try cases e
  · rename_i a ys h q
    exact ⟨true, a, ys, rfl, q, fun F' H' m' st' r' s => SqT.of (r'.fz.tup (s _ _ h))⟩
  · rename_i a ys h q
    exact ⟨false, a, ys, rfl, q, fun F' H' m' st' r' s => SqL.of (r'.fz.lst (s _ _ h))⟩
theorem trip_at {xs ys zs : List Val} {i : Nat} {v : Val} (h : (tripUp xs ys zs)[i]? = some v) : ∃ a b c, xs[i]? = some a ∧ ys[i]? = some b ∧ zs[i]? = some c ∧ v = .tup [a, b, c] := by
  simp only [tripUp, List.getElem?_map, Option.map_eq_some_iff] at h
  obtain ⟨⟨a, b, c⟩, h1, rfl⟩ := h
  obtain ⟨h2, h3⟩ := List.getElem?_zip_eq_some.mp h1
  obtain ⟨h4, h5⟩ := List.getElem?_zip_eq_some.mp h3
  exact ⟨a, b, c, h2, h4, h5, rfl⟩
theorem walk_zip3 {F0 H0 : Hp} {m0 : Nat → Addr} {L0 : Nat} {ta tb tc : Bool} {a b c : Addr} {xs ys zs : List Val} {us ws es : List V} (qa : Reps X.K G F0 m0 L0 xs us) (qb : Reps X.K G F0 m0 L0 ys ws) (qc : Reps X.K G F0 m0 L0 zs es)
    (sa : ∀ F' H' m' st', RelH X.K G F' m' st' H' → Same F0 F' → SqK ta X.K H' a us) (sb : ∀ F' H' m' st', RelH X.K G F' m' st' H' → Same F0 F' → SqK tb X.K H' b ws) (sc : ∀ F' H' m' st', RelH X.K G F' m' st' H' → Same F0 F' → SqK tc X.K H' c es) :
    WalkOf X.K G (tripUp xs ys zs) (Itz3 X.K ta tb tc a b c) F0 m0 L0 H0 where
  go := fun i F m st H hi r e _ => by
    have l1 := qa.length
    have l2 := qb.length
    have l3 := qc.length
    have hl : i < us.length ∧ i < ws.length ∧ i < es.length := by
      have z : i < min xs.length (min ys.length zs.length) := by simpa [tripUp] using hi
      omega
    exact ⟨us, ws, es, us[i], ws[i], es[i], sa _ _ _ _ r e, sb _ _ _ _ r e, sc _ _ _ _ r e, List.getElem?_eq_getElem hl.1, List.getElem?_eq_getElem hl.2.1, List.getElem?_eq_getElem hl.2.2⟩
  stop := fun F m st H r e _ => by
    have l1 := qa.length
    have l2 := qb.length
    have l3 := qc.length
    have z : (tripUp xs ys zs).length = min xs.length (min ys.length zs.length) := by simp [tripUp]
    exact ⟨us, ws, es, sa _ _ _ _ r e, sb _ _ _ _ r e, sc _ _ _ _ r e, by omega, by omega, by omega, by omega⟩
  yld := fun i F m st H x H' v hv r e _ hm hL y => by
    obtain ⟨T, x1, x2, x3, e1, hT, e2, y1, y2, y3⟩ := y
    subst e1 e2
    obtain ⟨c1, h1, k1⟩ := qa.get' (y1 us (sa _ _ _ _ r e))
    obtain ⟨c2, h2, k2⟩ := qb.get' (y2 ws (sb _ _ _ _ r e))
    obtain ⟨c3, h3, k3⟩ := qc.get' (y3 es (sc _ _ _ _ r e))
    obtain ⟨d1, d2, d3, g1, g2, g3, rfl⟩ := trip_at hv
    rw [h1] at g1; cases g1
    rw [h2] at g2; cases g2
    rw [h3] at g3; cases g3
    refine ⟨_, Ext.fresh r hT _, r.fresh hT _, .tup upd_same (.cons ?_ (.cons ?_ (.cons ?_ .nil)))⟩
    · exact k1.mono (e.trans (Same.upd (r.fz.free hT))) hm hL
    · exact k2.mono (e.trans (Same.upd (r.fz.free hT))) hm hL
    · exact k3.mono (e.trans (Same.upd (r.fz.free hT))) hm hL
theorem s_zip3 (C : Cxt X G W) {a b c : E} {xa xb xc : PySem.Expr} {p pos tpos : Pos} {elts : List PySem.Expr} {kk : Nat} (hg : Gl X "zip") (hs : noStar xa = true) (hs2 : noStar xb = true) (hs3 : noStar xc = true) (ha : PE X xa (tE X G W a)) (hb : PE X xb (tE X G W b)) (hc : PE X xc (tE X G W c)) :
    PI X (.Tuple elts kk tpos) (.Call (.Name "zip" p) [xa, xb, xc] [] pos) (tIt X G W (.zip3 a b c)) := by
  refine PI.imp (pi_zip3 hg (C.bl _ (by decide)) (pa_cons ha (pa_cons hb (pa_cons hc pa_nil (star_of hs3)) (star_of hs2)) (star_of hs)) (star_of hs) (any_of (by simp [hs2, hs3]))) fun σ H R h => ?_
  obtain ⟨F, m, env, st, r, rs, p⟩ := h
  refine ⟨F, m, env, st, r, rs, (PostG.bind p).mono fun va F1 m1 st1 H1 e1 r1 q1 y1 k1 => ?_⟩
  refine ⟨F1, m1, env, st1, r1, rs.ext e1, (PostG.bind q1).mono fun vb F2 m2 st2 H2 e2 r2 q2 y2 k2 => ?_⟩
  refine ⟨F2, m2, env, st2, r2, (rs.ext e1).ext e2, (PostG.bind q2).mono fun vc F3 m3 st3 H3 e3 r3 q3 y3 k3 => ?_⟩
  have k1 := e3.rep (e2.rep k1)
  have k2 := e3.rep k2
  split at q3
  · rename_i xs ys zs hx hy hz
    obtain ⟨ta, a1, us, ex, qa, sa⟩ := items_k r3 k1 hx
    obtain ⟨tb, b1, ws, ey, qb, sb⟩ := items_k r3 k2 hy
    obtain ⟨tc, c1, es, ez, qc, sc⟩ := items_k r3 k3 hz
    subst ex ey ez
    exact ⟨a1, b1, c1, ta, tb, tc, us, ws, es, rfl, sa _ _ _ _ r3 (Same.refl _), sb _ _ _ _ r3 (Same.refl _), sc _ _ _ _ r3 (Same.refl _), q3.ok r3 _ (walk_zip3 qa qb qc sa sb sc)⟩
  · exact q3.elim
end
end MP
set_option maxHeartbeats 8000000
/-! MPMain: every matched expression keeps its reading. -/
namespace MP
open PySem PyProof.Rows L2

theorem At.blk {X : Cx} {N : List PySem.Str} {sc scope : Scope} (A : At X N sc) (s : Shared) (H : Hp) (Ca : Addr) (cl : List (PySem.Str × Addr)) (fp : List Addr) :
    At (X.blk s H scope (compEnvC scope cl Ca X.env) fp) N (relS scope sc) := ⟨A.n, by rw [← A.s]; rfl⟩
theorem Cxt.blk {X : Cx} {G : GX} {W : WX} (C : Cxt X G W) (s : Shared) (H : Hp) (scope : Scope) (ce : PySem.Env) (fp : List Addr) : Cxt (X.blk s H scope ce fp) G W0 :=
  ⟨takes0, C.nd, C.units, C.gf, C.bl⟩
structure AtL (X : Cx) (G : GX) (W : WX) (N : List PySem.Str) (sc : Scope) (v : Lv) : Prop extends At X N sc where
  R : RmG X G W v
theorem RmG.blk {X : Cx} {G : GX} {W : WX} {v : Lv} (R : RmG X G W v) (s : Shared) (H : Hp) (scope : Scope) (ce : PySem.Env) (fp : List Addr) : RmG (X.blk s H scope ce fp) G W0 v.blk :=
  ⟨R.room, R.gd, (fun z => by cases z), R.calm, (fun _ _ _ z => by cases z)⟩
theorem AtL.blk {X : Cx} {G : GX} {W : WX} {N : List PySem.Str} {sc scope : Scope} {v : Lv} (A : AtL X G W N sc v) (s : Shared) (H : Hp) (Ca : Addr) (cl : List (PySem.Str × Addr)) (fp : List Addr) :
    AtL (X.blk s H scope (compEnvC scope cl Ca X.env) fp) G W0 N (relS scope sc) v.blk := ⟨A.toAt.blk s H Ca cl fp, A.R.blk s H scope _ fp⟩
theorem set_of {xi : PySem.Expr} {env : PySem.Env} (h : noSet xi = true) : ∀ x, foldedSetIterable xi env x = pure x := by
  intro x
  cases xi <;> first | rfl | cases h
theorem mEs_star {N : List PySem.Str} {sc : Scope} : ∀ {es : Es} {xs : List PySem.Expr}, mEs N sc es xs = true → xs.all noStar = true
  | .nil, [], _ => rfl
  | .nil, _ :: _, h => by simp [mEs] at h
  | .cons _ _, [], h => by simp [mEs] at h
  | .cons e es, x :: xs, h => by
    simp only [mEs, Bool.and_eq_true] at h
    simp [h.1.1, mEs_star h.2]
theorem PTs.imp {X : Cx} {es : List PySem.Expr} {t t' : TT} (h : PTs X es t) (i : ∀ σ H Q, t' σ H Q → t σ H Q) : PTs X es t' := ⟨fun pins s σ H Q I q => h.run pins s σ H Q I (i σ H Q q)⟩
section
variable {G : GX}
theorem s_gcon {X : Cx} {W : WX} {x : PySem.Str} {v : Val} {pos : Pos} (hg : Gl X x) (hd : notDbg x = true) (ok : GconOk (stat X) x v) : PE X (.Name x pos) (tE X G W (.gcon x v)) := by
  obtain ⟨u, y, hm, ry, hv⟩ := ok
  refine PE.imp (pe_glob hg hm ry (dbg hd)) fun σ H Q h => ?_
  obtain ⟨F, m, env, st, r, rs, p⟩ := h
  have q := PostG.ok p r
  cases v <;> simp only [litV] at hv <;> try cases hv
  · exact q _ .non
  · exact q _ (.bl _)
  · exact q _ (.int _)
  · exact q _ (.str _)
theorem s_gfn {X : Cx} {W : WX} {x : PySem.Str} {pos : Pos} (hg : Gl X x) (hd : notDbg x = true) (ok : GfnOk (stat X) G x) : PE X (.Name x pos) (tE X G W (.gfn x)) := by
  obtain ⟨a, h1, h2⟩ := ok
  refine PE.imp (pe_glob hg h2 (v := .ref a) rfl (dbg hd)) fun σ H Q h => ?_
  obtain ⟨F, m, env, st, r, rs, p⟩ := h
  exact PostG.ok p r _ (.fn h1)
theorem s_lit {X : Cx} {W : WX} {v : Val} {c : Const} {k : Nat} {pos : Pos} (hm : litM v c = true) : PE X (.Constant c k pos) (tE X G W (.lit v)) := by
  cases v <;> cases c <;> simp only [litM, Bool.false_eq_true] at hm
  · exact PE.imp pe_non fun σ H Q ⟨F, m, env, st, r, rs, p⟩ => PostG.ok p r _ .non
  · have e := eq_of_beq hm
    subst e
    exact PE.imp pe_bl fun σ H Q ⟨F, m, env, st, r, rs, p⟩ => PostG.ok p r _ (.bl _)
  · have e := eq_of_beq hm
    subst e
    exact PE.imp pe_int fun σ H Q ⟨F, m, env, st, r, rs, p⟩ => PostG.ok p r _ (.int _)
  · have e := eq_of_beq hm
    subst e
    exact PE.imp pe_str fun σ H Q ⟨F, m, env, st, r, rs, p⟩ => PostG.ok p r _ (.str _)
/-- an expression whose test is its value's truth -/
def Plain (x : PySem.Expr) : Prop := (∀ (env : PySem.Env) whole, isTrue x env whole = (do let v ← whole; standAt x.pos; holding [v] (truthy v))) ∧ ∀ op vs p, x ≠ .BoolOp op vs p
structure S3 (X : Cx) (G : GX) (W : WX) (e : E) (x : PySem.Expr) : Prop where
  pe : PE X x (tE X G W e)
  pt : PT X x (tT X G W e)
  pw : ∀ op vs p, x = .BoolOp op vs p → PW X x (tT X G W e)
theorem S3.of {X : Cx} {W : WX} {e : E} {x : PySem.Expr} (h : PE X x (tE X G W e)) (p : Plain x) : S3 X G W e x := ⟨h, t_plain h (p.1 _), fun op vs q z => absurd z (p.2 op vs q)⟩
theorem plain_name {x : PySem.Str} {pos : Pos} : Plain (.Name x pos) := ⟨fun _ _ => rfl, fun _ _ _ => by simp⟩
theorem plain_const {c : Const} {k : Nat} {pos : Pos} : Plain (.Constant c k pos) := ⟨fun _ _ => rfl, fun _ _ _ => by simp⟩
theorem plain_bin {a b : PySem.Expr} {op : Operator} {pos : Pos} : Plain (.BinOp a op b pos) := ⟨fun _ _ => rfl, fun _ _ _ => by simp⟩
theorem plain_usub {a : PySem.Expr} {pos : Pos} : Plain (.UnaryOp .USub a pos) := ⟨fun _ _ => rfl, fun _ _ _ => by simp⟩
theorem plain_tup {xs : List PySem.Expr} {k : Nat} {pos : Pos} : Plain (.Tuple xs k pos) := ⟨fun _ _ => rfl, fun _ _ _ => by simp⟩
theorem plain_list {xs : List PySem.Expr} {pos : Pos} : Plain (.List xs pos) := ⟨fun _ _ => rfl, fun _ _ _ => by simp⟩
theorem plain_lc {e : PySem.Expr} {gs : List Comprehension} {sc : Scope} {pos : Pos} : Plain (.ListComp e gs sc pos) := ⟨fun _ _ => rfl, fun _ _ _ => by simp⟩
theorem plain_dc {k e : PySem.Expr} {gs : List Comprehension} {sc : Scope} {pos : Pos} : Plain (.DictComp k e gs sc pos) := ⟨fun _ _ => rfl, fun _ _ _ => by simp⟩
theorem plain_dict {ks : List (Option PySem.Expr)} {vs : List PySem.Expr} {pos : Pos} : Plain (.Dict ks vs pos) := ⟨fun _ _ => rfl, fun _ _ _ => by simp⟩
theorem plain_sub {a b : PySem.Expr} {pos : Pos} : Plain (.Subscript a b pos) := ⟨fun _ _ => rfl, fun _ _ _ => by simp⟩
theorem plain_call {f : PySem.Expr} {xs : List PySem.Expr} {ks : List Keyword} {pos : Pos} : Plain (.Call f xs ks pos) := ⟨fun _ _ => rfl, fun _ _ _ => by simp⟩
/-! ### a lambda handed to a def that calls it -/
def WofE (E : XK) : WX := fun cls d _ H => E cls d H
theorem lam_cxt {X : Cx} {W : WX} (C : Cxt X G W) {A : Around} {outer : List PySem.Env} {s : Shared} {H : Hp} {E : XK} {scope : Scope} {f c' : Addr} {k : Nat} (hr : Room k (A.deeper (LamX.lamEnv X scope s.heap.objs.size f c'))) : Cxt (LamX.lamCx X A outer s H E scope f c') G (WofE E) :=
  ⟨takes_of rfl rfl rfl rfl, C.nd, by have := hr.un; show (A.deeper (LamX.lamEnv X scope s.heap.objs.size f c')).units + 70 < cLine; omega, C.gf, C.bl⟩
theorem lam_rm {X : Cx} {A : Around} {outer : List PySem.Env} {s : Shared} {H : Hp} {E : XK} {scope : Scope} {f c' : Addr} {k : Nat} (hr : Room k (A.deeper (LamX.lamEnv X scope s.heap.objs.size f c'))) : RmG (LamX.lamCx X A outer s H E scope f c') G (WofE E) ⟨k, false, false, true, none, none⟩ :=
  ⟨fun _ => hr, (fun z => by cases z), (fun z => by cases z), (fun _ => rfl), (fun _ _ _ z => by cases z)⟩
theorem PostG.noExc {K : PySem.W.Frag} {α : Type} {E E' : EX} {R : α → RT} {F H : Hp} {m : Nat → Addr} {st : Store} {x : Out α} (h : PostG K G E R F m st H x.noExc) : PostG K G E' R F m st H x := by
  cases x with
  | ok a st' => exact h
  | exc c xs st' => exact h.elim
  | bad => exact h
theorem s_word {X : Cx} {W : WX} {N : List PySem.Str} {sc : Scope} (C : Cxt X G W) (A : At X N sc) {v : Lv} {wd : (Store → Out Val) → Store → Out Val} {e : E} {x : PySem.Str} {params : Arguments} {body : PySem.Expr} {scope : Scope} {p lpos pos : Pos}
    (hd : notDbg x = true) (hg : Gl X x) (ok : WordOk (stat X) G v x wd) (hr : Room v.k X.A) (hl : LamC X G) (hk : 2 ≤ v.k) (hp : noParams params = true) (hs : LamX.lamSB sc scope = true)
    (hbody : ∀ (A : Around) (outer : List PySem.Env) (s : Shared) (H : Hp) (E : XK) (f c' : Addr), Room (v.k - 2) (A.deeper (LamX.lamEnv X scope s.heap.objs.size f c')) → PE (LamX.lamCx X A outer s H E scope f c') body (tE (LamX.lamCx X A outer s H E scope f c') G (WofE E) e)) :
    PE X (.Call (.Name x p) [.Lambda params body scope lpos] [] pos) (tE X G W (.word x wd e)) := by
  obtain ⟨g, pg, bg, sg, dV, kV, doc, pm, cdv, ct, oc, an, od, osl, Ng, a, gm, kp, lk, hcd, hb, Sg, hN, hv, ha, hG⟩ := ok
  obtain ⟨c, P, TB, hc, hmT, hu⟩ := hl
  have hdef : defaultsOf params X.env = ([], []) := by
    unfold noParams at hp
    split at hp
    · rfl
    · cases hp
  have hbind : ∀ (q : PySem.Str) (cl : List (PySem.Str × Addr)) (pm cv ctv : Value), bindArgs (PySem.W.kla_fn "<lambda>" q params body scope cl pm cv ctv) ⟨[], []⟩ = pure [] := by
    unfold noParams at hp
    split at hp
    · intro q cl pm cv ctv; rfl
    · cases hp
  have hr2 : Room ((v.k - 2) + 2) X.A := by rw [Nat.sub_add_cancel hk]; exact hr
  refine PE.imp (LamX.pe_lamcall (T := G.T) (t := fun E => tE X G (WofE E) e) hg gm kp lk hcd hb Sg hN hv (hG X _ rfl (by omega) hr) TB hc hmT hu hr2 (LamX.lamS_by (by rw [A.s]; exact hs)) hdef hbind hbody (dbg hd) (dbg ha) (dbg2 ha)) fun σ H Q h => ?_
  obtain ⟨F, m, env, st, r, rs, q⟩ := h
  refine ⟨r.tb, fun H1 e1 t1 => ?_⟩
  have r1 := r.grow e1 t1
  have x1 : Ext F m st H F m st H1 := Ext.grow e1
  refine ⟨F, m, st, fun st' => evalE e env st', r1, fun E F' m' st' H' Q' e1 e2 e3 r' q' => ⟨F', m', env, st', r', (rs.ext x1).mono e1 e2 e3, q'⟩, ?_⟩
  exact PostG.noExc (PostG.step q x1)
theorem isn_op {n : Bool} {ops : List CmpOp} (h : isnM n ops = true) : ∃ pop, ops = [pop] := by
  unfold isnM at h
  split at h
  · exact ⟨_, rfl⟩
  · exact ⟨_, rfl⟩
  · cases h
theorem none_c {xs : List PySem.Expr} (h : isNoneC xs = true) : ∃ k p, xs = [.Constant .none k p] := by
  unfold isNoneC at h
  split at h
  · exact ⟨_, _, rfl⟩
  · cases h
theorem bool_c {b : Bool} {xs : List PySem.Expr} (h : isBoolC b xs = true) : ∃ k p, xs = [.Constant (.bool b) k p] := by
  unfold isBoolC at h
  split at h
  · have e := eq_of_beq h
    subst e
    exact ⟨_, _, rfl⟩
  · cases h
theorem pt_cmp1 {X : Cx} {W : WX} (C : Cxt X G W) {op : Cop} {pop : CmpOp} {a b : E} {xa xb : PySem.Expr} {pos : Pos} (hm : copM op pop = true) (hs : noSet xb = true) (ha : PE X xa (tE X G W a)) (hb : PE X xb (tE X G W b)) : PT X (.Compare xa [pop] [xb] pos) (tT X G W (.cmp op a b)) :=
  PT.imp (pt_cmpR (op_cop C hm) ha hb (by cases xb <;> first | rfl | cases hs)) fun σ H Q h => t_bool (e := .cmp op a b) (fun σ H Q h => bin_of (xa := xa) (xb := xb) (f := fun a b st => (cop op a b st).map .bl) h) cmp_bl h
mutual
theorem sE : ∀ (e : E) {X : Cx} {W : WX} {N : List PySem.Str} {sc : Scope} {v : Lv} (C : Cxt X G W) (A : AtL X G W N sc v) (x : PySem.Expr), mE N sc e x = true → okE (stat X) G v e → S3 X G W e x
  | .var i, X, W, N, sc, v, C, A, x, h, ok => by
    cases x with
    | Name x pos =>
      simp only [mE, Bool.and_eq_true] at h
      exact .of (s_var C (A.ix h.1.1) (A.vis h.1.2) h.2) plain_name
    | _ => simp [mE] at h
  | .lit w, X, W, N, sc, v, C, A, x, h, ok => by
    cases x with
    | Constant c k pos => simp only [mE] at h; exact .of (s_lit h) plain_const
    | _ => simp [mE] at h
  | .gcon y w, X, W, N, sc, v, C, A, x, h, ok => by
    cases x with
    | Name z pos =>
      simp only [mE, Bool.and_eq_true] at h
      have e := eq_of_beq h.1.1
      subst e
      exact .of (s_gcon (A.gl h.1.2) h.2 ok) plain_name
    | _ => simp [mE] at h
  | .gfn y, X, W, N, sc, v, C, A, x, h, ok => by
    cases x with
    | Name z pos =>
      simp only [mE, Bool.and_eq_true] at h
      have e := eq_of_beq h.1.1
      subst e
      exact .of (s_gfn (A.gl h.1.2) h.2 ok) plain_name
    | _ => simp [mE] at h
  | .bin op a b, X, W, N, sc, v, C, A, x, h, ok => by
    cases x with
    | BinOp xa pop xb pos =>
      simp only [mE, Bool.and_eq_true] at h
      exact .of (s_bin h.1.1 (sE a C A xa h.1.2 ok.1).pe (sE b C A xb h.2 ok.2).pe) plain_bin
    | _ => simp [mE] at h
  | .neg a, X, W, N, sc, v, C, A, x, h, ok => by
    cases x with
    | UnaryOp op xa pos =>
      simp only [mE, Bool.and_eq_true] at h
      obtain ⟨h1, h2⟩ := h
      split at h1
      · exact .of (s_neg (sE a C A xa h2 ok).pe) plain_usub
      · cases h1
    | _ => simp [mE] at h
  | .cmp op a b, X, W, N, sc, v, C, A, x, h, ok => by
    cases x with
    | Compare xa ops xs pos =>
      simp only [mE] at h
      split at h
      · simp only [Bool.and_eq_true] at h
        have h1 := (sE a C A xa h.1.1.2 ok.1).pe
        have h2 := (sE b C A _ h.1.2 ok.2).pe
        exact ⟨s_cmp C h.1.1.1 h.2 h1 h2, pt_cmp1 C h.1.1.1 h.2 h1 h2, fun _ _ _ z => by cases z⟩
      · cases h
    | _ => simp [mE] at h
  | .chain op op' a b c, X, W, N, sc, v, C, A, x, h, ok => by
    cases x with
    | Compare xa ops xs pos =>
      simp only [mE] at h
      split at h
      · simp only [Bool.and_eq_true] at h
        have h1 := (sE a C A xa h.1.1.1.2 ok.1).pe
        have h2 := (sE b C A _ h.1.1.2 ok.2.1).pe
        have h3 := (sE c C A _ h.1.2 ok.2.2).pe
        refine ⟨s_chain C h.1.1.1.1.1 h.1.1.1.1.2 h.2 h1 h2 h3, ?_, fun _ _ _ z => by cases z⟩
        exact PT.imp (pt_chain (op_cop C h.1.1.1.1.1) (op_cop C h.1.1.1.1.2) h1 h2 h3 (last_of h.2)) fun σ H Q q => t_bool (fun σ H Q h => chain_of h) chain_bl q
      · cases h
    | _ => simp [mE] at h
  | .isn n a, X, W, N, sc, v, C, A, x, h, ok => by
    cases x with
    | Compare xa ops xs pos =>
      simp only [mE, Bool.and_eq_true] at h
      obtain ⟨pop, e1⟩ := isn_op h.1.1
      obtain ⟨k, p, e2⟩ := none_c h.1.2
      subst e1 e2
      have h1 := (sE a C A xa h.2 ok).pe
      refine ⟨s_isn h.1.1 h1, ?_, fun _ _ _ z => by cases z⟩
      exact isn_pt h.1.1 h1
    | _ => simp [mE] at h
  | .isb n a b, X, W, N, sc, v, C, A, x, h, ok => by
    cases x with
    | Compare xa ops xs pos =>
      simp only [mE, Bool.and_eq_true] at h
      obtain ⟨pop, e1⟩ := isn_op h.1.1
      obtain ⟨k, p, e2⟩ := bool_c h.1.2
      subst e1 e2
      have h1 := (sE a C A xa h.2 ok).pe
      exact ⟨s_isb h.1.1 h1, isb_pt h.1.1 h1, fun _ _ _ z => by cases z⟩
    | _ => simp [mE] at h
  | .and a b, X, W, N, sc, v, C, A, x, h, ok => by
    cases x with
    | BoolOp op xs pos =>
      simp only [mE] at h
      split at h
      · rename_i xa xb rest
        simp only [Bool.and_eq_true] at h
        have h1 := sE a C A xa h.1 ok.1
        cases rest with
        | nil =>
          have h2 := sE b C A xb h.2 ok.2
          have w := t_and (pos := pos) h1.pt (pw_and1 h2.pt)
          exact ⟨s_and h1.pe (pe_one h2.pe), w.pt, fun _ _ _ z => z ▸ w⟩
        | cons xc rest =>
          have h2 := sE b C A _ h.2 ok.2
          have w := t_and (pos := pos) h1.pt (h2.pw _ _ _ rfl)
          exact ⟨s_and h1.pe h2.pe, w.pt, fun _ _ _ z => z ▸ w⟩
      · cases h
    | _ => simp [mE] at h
  | .or a b, X, W, N, sc, v, C, A, x, h, ok => by
    cases x with
    | BoolOp op xs pos =>
      simp only [mE] at h
      split at h
      · rename_i xa xb rest
        simp only [Bool.and_eq_true] at h
        have h1 := sE a C A xa h.1 ok.1
        cases rest with
        | nil =>
          have h2 := sE b C A xb h.2 ok.2
          have w := t_or (pos := pos) h1.pt (pw_or1 h2.pt)
          exact ⟨s_or h1.pe (pe_one h2.pe), w.pt, fun _ _ _ z => z ▸ w⟩
        | cons xc rest =>
          have h2 := sE b C A _ h.2 ok.2
          have w := t_or (pos := pos) h1.pt (h2.pw _ _ _ rfl)
          exact ⟨s_or h1.pe h2.pe, w.pt, fun _ _ _ z => z ▸ w⟩
      · cases h
    | _ => simp [mE] at h
  | .not a, X, W, N, sc, v, C, A, x, h, ok => by
    cases x with
    | UnaryOp op xa pos =>
      simp only [mE, Bool.and_eq_true] at h
      obtain ⟨h1, h2⟩ := h
      split at h1
      · have h3 := sE a C A xa h2 ok
        exact ⟨s_not h3.pe, t_not h3.pt, fun _ _ _ z => by cases z⟩
      · cases h1
    | _ => simp [mE] at h
  | .ite c a b, X, W, N, sc, v, C, A, x, h, ok => by
    cases x with
    | IfExp xc xa xb pos =>
      simp only [mE, Bool.and_eq_true] at h
      have h1 := sE c C A xc h.1.1 ok.1
      have h2 := sE a C A xa h.1.2 ok.2.1
      have h3 := sE b C A xb h.2 ok.2.2
      exact ⟨s_ite h1.pt h2.pe h3.pe, t_ite h1.pt h2.pt h3.pt, fun _ _ _ z => by cases z⟩
    | _ => simp [mE] at h
  | .tup es, X, W, N, sc, v, C, A, x, h, ok => by
    cases x with
    | Tuple xs k pos => simp only [mE] at h; exact .of (s_tup (sA es C A xs h ok)) plain_tup
    | _ => simp [mE] at h
  | .val n, X, W, N, sc, v, C, A, x, h, ok => by
    have z := sN n C A x (by simpa only [mE] using h) ok
    exact .of (s_val z.1) z.2
  | .cell n, X, W, N, sc, v, C, A, x, h, ok => by
    have z := sN n C A x (by simpa only [mE] using h) ok
    exact .of (s_cell z.1) z.2
  | .idx o i, X, W, N, sc, v, C, A, x, h, ok => by
    cases x with
    | Subscript xo xi pos =>
      simp only [mE, Bool.and_eq_true] at h
      exact .of (s_idx C h.2 (sE o C A xo h.1.1 ok.1).pe (sE i C A xi h.1.2 ok.2).pe) plain_sub
    | _ => simp [mE] at h
  | .slc o lo hi, X, W, N, sc, v, C, A, x, h, ok => by
    cases x with
    | Subscript xo xi pos =>
      simp only [mE] at h
      split at h
      · simp only [Bool.and_eq_true] at h
        exact .of (s_slc (sE o C A xo h.1.1 ok.1).pe (sO lo C A _ h.1.2 ok.2.1) (sO hi C A _ h.2 ok.2.2)) plain_sub
      · cases h
    | _ => simp [mE] at h
  | .lenset e, X, W, N, sc, v, C, A, x, h, ok => by
    cases x with
    | Call xf xs ks pos =>
      simp only [mE] at h
      split at h
      · split at h
        · simp only [Bool.and_eq_true, beq_iff_eq] at h
          obtain ⟨⟨⟨⟨⟨rfl, rfl⟩, h1⟩, h2⟩, h3⟩, h4⟩ := h
          exact .of (s_lenset C (A.gl h1) (A.gl h2) h3 (A.R.calm ok.1) (sE e C A _ h4 ok.2).pe) plain_call
        · cases h
      · cases h
    | _ => simp [mE] at h
  | .litems e, X, W, N, sc, v, C, A, x, h, ok => by
    cases x with
    | Call xf xs ks pos =>
      simp only [mE] at h
      split at h
      · simp only [Bool.and_eq_true, beq_iff_eq] at h
        obtain ⟨⟨⟨⟨rfl, rfl⟩, h1⟩, h2⟩, h3⟩ := h
        exact .of (s_litems C (A.gl h1) (beq_iff_eq.mpr h2) (A.R.calm ok.1) (sE e C A _ h3 ok.2).pe) plain_call
      · cases h
    | _ => simp [mE] at h
  | .blt f es, X, W, N, sc, v, C, A, x, h, ok => by
    cases x with
    | Call xf xs ks pos =>
      simp only [mE] at h
      split at h
      · simp only [Bool.and_eq_true] at h
        exact .of (s_blt C (fun z => A.R.gd (ok.1 z)) (fun z => A.R.calm (ok.2.1 z)) h.1.1 (A.gl h.1.2) (mEs_star h.2) (sA es C A _ h.2 ok.2.2)) plain_call
      · cases h
    | _ => simp [mE] at h
  | .isi a t, X, W, N, sc, v, C, A, x, h, ok => by
    cases x with
    | Call xf xs ks pos =>
      simp only [mE] at h
      split at h
      · simp only [Bool.and_eq_true] at h
        have e1 := eq_of_beq h.1.1.1.1.1
        have e2 := eq_of_beq h.1.1.1.1.2
        subst e1 e2
        exact .of (s_isi C (A.gl h.1.1.1.2) (A.gl h.1.1.2) h.1.2 (sE a C A _ h.2 ok).pe) plain_call
      · cases h
    | _ => simp [mE] at h
  | .call y D es, X, W, N, sc, v, C, A, x, h, ok => by
    cases x with
    | Call xf xs ks pos =>
      simp only [mE] at h
      split at h
      · simp only [Bool.and_eq_true] at h
        have e1 := eq_of_beq h.1.1.1
        subst e1
        exact .of (s_call C h.1.2 (A.gl h.1.1.2) ok.1.1 (A.R.room ok.1.2) A.R.gd (mEs_star h.2) (mEs_nil h.2) (sA es C A _ h.2 ok.2)) plain_call
      · cases h
    | _ => simp [mE] at h
  | .word y wd e, X, W, N, sc, v, C, A, x, h, ok => by
    cases x with
    | Call xf xs ks pos =>
      simp only [mE] at h
      split at h
      · simp only [Bool.and_eq_true] at h
        have e1 := eq_of_beq h.1.1.1.1.1
        subst e1
        obtain ⟨hw, hc, hl, hk, hb⟩ := ok
        refine .of (s_word C A.toAt h.1.1.1.2 (A.gl h.1.1.1.1.2) hw (A.R.room hc) (A.R.lam hl) hk h.1.1.2 h.1.2 fun A' outer s H E f c' hr' => ?_) plain_call
        exact (sE e (lam_cxt C hr') ⟨⟨A.n, rfl⟩, lam_rm hr'⟩ _ h.2 hb).pe
      · cases h
    | _ => simp [mE] at h
  | .any, X, W, N, sc, v, C, A, x, h, ok => by
    have no : ∀ {σ H Q}, tE X G W .any σ H Q → False := fun ⟨_, _, _, _, _, _, p⟩ => p
    have h2 : plainB x = true := by simpa only [mE] using h
    refine .of ⟨fun pins s σ H Q I q => (no q).elim⟩ ?_
    cases x <;> first | (exact ⟨fun _ _ => rfl, fun _ _ _ => by simp⟩) | (exfalso; simp [plainB] at h2; done)
  | .mth k o es, X, W, N, sc, v, C, A, x, h, ok => by
    cases x with
    | Call xf xs ks pos =>
      simp only [mE] at h
      split at h
      · simp only [Bool.and_eq_true] at h
        exact .of (s_mth C h.1.1.1.1 h.1.1.2 h.1.1.1.2 (mEs_star h.2) (sE o C A _ h.1.2 ok.1).pe (mEs_nil h.2) (sA es C A _ h.2 ok.2)) plain_call
      · cases h
    | _ => simp [mE] at h
  | .rev o, X, W, N, sc, v, C, A, x, h, ok => by
    cases x with
    | Subscript xo xi pos =>
      simp only [mE] at h
      split at h
      · simp only [Bool.and_eq_true, decide_eq_true_eq] at h
        obtain ⟨rfl, h⟩ := h
        exact .of (s_rev (sE o C A xo h ok).pe) plain_sub
      · cases h
    | _ => simp [mE] at h
  | .isx i w c b, X, W, N, sc, v, C, A, x, h, ok => by
    cases x with
    | Call xf xs ks pos =>
      simp only [mE] at h
      split at h
      · simp only [Bool.and_eq_true] at h
        obtain ⟨⟨⟨⟨⟨⟨⟨h1, h2⟩, h3⟩, h4⟩, h5⟩, h6⟩, h7⟩, h8⟩ := h
        have e1 := eq_of_beq h1
        have e2 := eq_of_beq h6
        subst e1 e2
        obtain ⟨tb, k1, k2⟩ := ok
        exact .of (A.R.exi i w tb k1 _ b k2 _ _ _ _ _ (A.ix h3) (A.vis h4) h5 (A.gl h2) (A.gl h7) h8) plain_call
      · cases h
    | _ => simp [mE] at h
  | .callv i ds es, X, W, N, sc, v, C, A, x, h, ok => by
    cases x with
    | Call xf xs ks pos =>
      simp only [mE] at h
      split at h
      · simp only [Bool.and_eq_true] at h
        exact .of (s_callv C (A.ix h.1.1.1) (A.vis h.1.1.2) h.1.2 ok.1.1 (A.R.room ok.1.2) A.R.gd (mEs_star h.2) (sA es C A _ h.2 ok.2)) plain_call
      · cases h
    | _ => simp [mE] at h
theorem sA : ∀ (es : Es) {X : Cx} {W : WX} {N : List PySem.Str} {sc : Scope} {v : Lv} (C : Cxt X G W) (A : AtL X G W N sc v) (x : List PySem.Expr), mEs N sc es x = true → okEs (stat X) G v es → PA X x (tA X G W es)
  | .nil, X, W, N, sc, v, C, A, xs, h, ok => by
    cases xs with
    | nil => exact s_nil
    | cons x xs => simp [mEs] at h
  | .cons e es, X, W, N, sc, v, C, A, xs, h, ok => by
    cases xs with
    | nil => simp [mEs] at h
    | cons x xs =>
      simp only [mEs, Bool.and_eq_true] at h
      exact s_cons h.1.1 (sE e C A x h.1.2 ok.1).pe (sA es C A xs h.2 ok.2)
theorem sO : ∀ (e : Eo) {X : Cx} {W : WX} {N : List PySem.Str} {sc : Scope} {v : Lv} (C : Cxt X G W) (A : AtL X G W N sc v) (x : Option PySem.Expr), mEo N sc e x = true → okEo (stat X) G v e → PO X x (tO X G W e)
  | .none, X, W, N, sc, v, C, A, x, h, ok => by
    cases x with
    | none => exact s_onone
    | some x => simp [mEo] at h
  | .some e, X, W, N, sc, v, C, A, x, h, ok => by
    cases x with
    | none => simp [mEo] at h
    | some x => simp only [mEo] at h; exact s_osome (sE e C A x h ok).pe
theorem sC : ∀ (e : Eo) {X : Cx} {W : WX} {N : List PySem.Str} {sc : Scope} {v : Lv} (C : Cxt X G W) (A : AtL X G W N sc v) (x : List PySem.Expr), mC N sc e x = true → okEo (stat X) G v e → PTs X x (tC' X G W e)
  | .none, X, W, N, sc, v, C, A, x, h, ok => by
    simp only [mC] at h
    split at h
    · refine PTs.imp pts_nil fun σ H Q h => ?_
      obtain ⟨F, m, env, st, r, rs, p⟩ := h
      exact PostG.ok p r
    · cases h
  | .some e, X, W, N, sc, v, C, A, x, h, ok => by
    simp only [mC] at h
    split at h
    · exact PTs.imp (pts_one (sE e C A _ h ok).pt) fun σ H Q h => h
    · cases h
theorem sN : ∀ (n : Nw) {X : Cx} {W : WX} {N : List PySem.Str} {sc : Scope} {v : Lv} (C : Cxt X G W) (A : AtL X G W N sc v) (x : PySem.Expr), mN N sc n x = true → okN (stat X) G v n → PE X x (tN X G W n) ∧ Plain x
  | .lst es, X, W, N, sc, v, C, A, x, h, ok => by
    cases x with
    | List xs pos => simp only [mN] at h; exact ⟨s_nlst (sA es C A xs h ok), plain_list⟩
    | _ => simp [mN] at h
  | .comp e t it c own, X, W, N, sc, v, C, A, x, h, ok => by
    cases x with
    | ListComp xe gs scope pos =>
      simp only [mN] at h
      split at h
      · simp only [Bool.and_eq_true] at h
        obtain ⟨⟨⟨⟨⟨⟨h1, h2⟩, h3⟩, h4⟩, h5⟩, h6⟩, h7⟩ := h
        have hv : ∀ i, i ∈ tgtSlots t → i ∈ own.map (·.2) := fun i hi => by
          have z := List.all_eq_true.mp h4 i hi
          simpa using z
        refine ⟨PE.imp (pe_lc (A.R.calm ok.1) C.nd (sIt it C A _ _ h1 ok.2.2.1) (by rw [A.n, A.s]; exact blkOk_by h3) (fun s H Ca cl fp => ?_) (fun s H Ca cl fp => ?_) (fun s H Ca cl fp => ?_) (set_of h2)) (fun σ H Q h => comp_ok t c e _ hv rfl h), plain_lc⟩
        · exact pg_T (G := G) (ck := false) (X := X.blk s H _ (compEnvC _ cl Ca X.env) fp) (A.R.calm ok.1) C.nd (A.blk s H Ca cl fp).toAt (fun z => by cases z) t _ h5
        · exact sC c (C.blk s H scope _ fp) (A.blk s H Ca cl fp) _ h6 ok.2.2.2
        · exact (sE e (C.blk s H scope _ fp) (A.blk s H Ca cl fp) _ h7 ok.2.1).pe
      · cases h
    | _ => simp [mN] at h
  | .dct t, X, W, N, sc, v, C, A, x, h, ok => by
    cases x with
    | Dict ks vs pos =>
      simp only [mN, Bool.and_eq_true, List.isEmpty_iff] at h
      obtain ⟨rfl, rfl⟩ := h
      exact ⟨s_dct, plain_dict⟩
    | _ => simp [mN] at h
  | .rep a b, X, W, N, sc, v, C, A, x, h, ok => by
    cases x with
    | BinOp xa pop xb pos =>
      simp only [mN] at h
      split at h
      · simp only [Bool.and_eq_true] at h
        exact ⟨s_rep (sE a C A xa h.1 ok.1).pe (sE b C A xb h.2 ok.2).pe, plain_bin⟩
      · cases h
    | _ => simp [mN] at h
  | .cat a b, X, W, N, sc, v, C, A, x, h, ok => by
    cases x with
    | BinOp xa pop xb pos =>
      simp only [mN] at h
      split at h
      · simp only [Bool.and_eq_true] at h
        exact ⟨s_cat (sE a C A xa h.1 ok.1).pe (sE b C A xb h.2 ok.2).pe, plain_bin⟩
      · cases h
    | _ => simp [mN] at h
  | .ls a, X, W, N, sc, v, C, A, x, h, ok => by
    cases x with
    | Call xf xs ks pos =>
      simp only [mN] at h
      split at h
      · simp only [Bool.and_eq_true] at h
        obtain ⟨⟨⟨h1, h2⟩, h3⟩, h4⟩ := h
        have e1 := eq_of_beq h1
        subst e1
        exact ⟨s_ls C (A.gl h2) h3 (sE a C A _ h4 ok).pe, plain_call⟩
      · cases h
    | _ => simp [mN] at h
  | .dct1 ke e, X, W, N, sc, v, C, A, x, h, ok => by
    cases x with
    | Dict ks vs pos =>
      simp only [mN] at h
      split at h
      · simp only [Bool.and_eq_true] at h
        exact ⟨s_dct1 C (sE ke C A _ h.1 ok.1).pe (sE e C A _ h.2 ok.2).pe, plain_dict⟩
      · cases h
    | _ => simp [mN] at h
  | .dcomp ke e t it c own, X, W, N, sc, v, C, A, x, h, ok => by
    cases x with
    | DictComp xk xe gs scope pos =>
      simp only [mN] at h
      split at h
      · simp only [Bool.and_eq_true] at h
        obtain ⟨⟨⟨⟨⟨⟨⟨h1, h2⟩, h3⟩, h4⟩, h5⟩, h6⟩, h7⟩, h8⟩ := h
        have hv : ∀ i, i ∈ tgtSlots t → i ∈ own.map (·.2) := fun i hi => by
          have z := List.all_eq_true.mp h4 i hi
          simpa using z
        refine ⟨PE.imp (pe_dc (A.R.calm ok.1) C.nd (sIt it C A _ _ h1 ok.2.2.2.1) (by rw [A.n, A.s]; exact blkOk_by h3) (fun s H Ca cl fp => ?_) (fun s H Ca cl fp => ?_) (fun s H Ca cl fp => ?_) (fun s H Ca cl fp => ?_) (set_of h2)) (fun σ H Q h => dcomp_ok t c ke e _ hv rfl h), plain_dc⟩
        · exact pg_T (G := G) (ck := false) (X := X.blk s H _ (compEnvC _ cl Ca X.env) fp) (A.R.calm ok.1) C.nd (A.blk s H Ca cl fp).toAt (fun z => by cases z) t _ h5
        · exact sC c (C.blk s H scope _ fp) (A.blk s H Ca cl fp) _ h6 ok.2.2.2.2
        · exact (sE ke (C.blk s H scope _ fp) (A.blk s H Ca cl fp) _ h7 ok.2.1).pe
        · exact (sE e (C.blk s H scope _ fp) (A.blk s H Ca cl fp) _ h8 ok.2.2.1).pe
      · cases h
    | _ => simp [mN] at h
theorem sIt : ∀ (it : It) {X : Cx} {W : WX} {N : List PySem.Str} {sc : Scope} {v : Lv} (C : Cxt X G W) (A : AtL X G W N sc v) (tg x : PySem.Expr), mIt N sc it tg x = true → okIt (stat X) G v it → PI X tg x (tIt X G W it)
  | .seq a, X, W, N, sc, v, C, A, tg, x, h, ok => by
    simp only [mIt] at h
    exact s_seq (sE a C A x h ok).pe
  | .range1 a, X, W, N, sc, v, C, A, tg, x, h, ok => by
    simp only [mIt] at h
    split at h
    · simp only [Bool.and_eq_true] at h
      have e := eq_of_beq h.1.1.1
      subst e
      exact s_range1 C (A.gl h.1.1.2) h.1.2 (sE a C A _ h.2 ok).pe
    · cases h
  | .range2 a b, X, W, N, sc, v, C, A, tg, x, h, ok => by
    simp only [mIt] at h
    split at h
    · simp only [Bool.and_eq_true] at h
      have e := eq_of_beq h.1.1.1.1.1
      subst e
      exact s_range2 C (A.gl h.1.1.1.1.2) h.1.1.1.2 h.1.1.2 (sE a C A _ h.1.2 ok.1).pe (sE b C A _ h.2 ok.2).pe
    · cases h
  | .enum a, X, W, N, sc, v, C, A, tg, x, h, ok => by
    simp only [mIt] at h
    split at h
    · simp only [Bool.and_eq_true] at h
      have e := eq_of_beq h.1.1.1
      subst e
      exact s_enum C (A.gl h.1.1.2) h.1.2 (sE a C A _ h.2 ok).pe
    · cases h
  | .zip a b, X, W, N, sc, v, C, A, tg, x, h, ok => by
    simp only [mIt] at h
    split at h
    · simp only [Bool.and_eq_true] at h
      have e := eq_of_beq h.1.1.1.1.1
      subst e
      exact s_zip C (A.gl h.1.1.1.1.2) h.1.1.1.2 h.1.1.2 (sE a C A _ h.1.2 ok.1).pe (sE b C A _ h.2 ok.2).pe
    · cases h
  | .zip3 a b c, X, W, N, sc, v, C, A, tg, x, h, ok => by
    simp only [mIt] at h
    split at h
    · simp only [Bool.and_eq_true, beq_iff_eq] at h
      obtain ⟨⟨⟨⟨⟨⟨⟨rfl, h1⟩, h2⟩, h3⟩, h4⟩, h5⟩, h6⟩, h7⟩ := h
      exact s_zip3 C (A.gl h1) h2 h3 h4 (sE a C A _ h5 ok.1).pe (sE b C A _ h6 ok.2.1).pe (sE c C A _ h7 ok.2.2).pe
    · cases h
end
end
end MP
set_option maxHeartbeats 4000000
/-! MPRaise: raise C(e), C an own class of exceptions whose __init__ keeps what it is handed, in a field -/
namespace MP
namespace XR
open PySem PySem.W PySem.Calls PyProof.Rows L2
abbrev xTl : List Value := [.type "Exception", .type "BaseException", .type "object"]
/-- the suite of such an __init__ -/
def iB (f : PySem.Str) (q1 q2 q3 q4 : Pos) : List PySem.Stmt := [.Assign [.Attribute (.Name "self" q1) f q2] (.Name f q3) q4]
def iS (f : PySem.Str) : Scope := { kind := .function, names := [("self", .local), (f, .local)], isGenerator := false, isCoroutine := false, more := [] }
/-- the fields that are met -/
def fld (f : PySem.Str) : Prop := f = "most" ∨ f = "place" ∨ f = "name" ∨ f = "number"
/-- what the top says of such a class -/
structure XTxt (K : Frag) (mg : PySem.Str → Option Value) (c f : PySem.Str) (C fI : Addr) : Prop where
  gC : mg c = some (.ref C)
  fl : fld f
  cls : excInitIn K C xTl "Exception.__new__" = true
  ov : excOver K C xTl = true
  hd : hasDictIn K C = true
  sa : findIn K (.ref C) "__setattr__" = some (some (.builtin "object.__setattr__"))
  no : takerIn K C f = some none
  iC : findIn K (.ref C) "__init__" = some (some (.ref fI))
  tI : typeIn K (.ref fI) = some (.type "function")
  kC : keepIn K (.ref C) = true
  exC : subIn K (.ref C) (.type "BaseException") = some true
  tyC : typeIn K (.ref C) = some (.type "type")
  fn : ∃ (fd : FuncData) (params : Arguments) (q1 q2 q3 q4 : Pos) (qual : PySem.Str), FunD K "__init__" qual params (iB f q1 q2 q3 q4) (iS f) [] [] fI fd ∧ ∀ (s : Shared) (us : List Value), us.length = 2 → BindsTo s fd ⟨us, []⟩ ([("self" : PySem.Str), f].zip us)
theorem ld_own {M : Model} {s : Shared} {name : PySem.Str} {scope : Scope} {L a : Addr} {cd : Value} {m : PySem.Str → Option Value} {x : PySem.Str} {pos : Pos} {v : Value} {Q : Value → Shared → Prop} {A : Around} {E : Value → Shared → Prop} (hn : s.heap.Ns L m) (hv : m x = some v) (h : Q v s)
    (hk : scope.kind = .function) (hl : (envOfC name scope L a cd).kindOf x = some .local) (hd : (x == ("__debug__" : PySem.Str)) = false) :
    wpAny M A (eval (.Name x pos) (envOfC name scope L a cd)) Q E s := wpAny_Name (wpAny_loadName_local hk hl hn hv h) hd
/-- what is left of a fresh exception at x behind __init__ -/
structure Left (h h' : Heap) (x C dx t1 : Addr) (f : PySem.Str) (v : Value) : Prop where
  keep : ∀ b o, b ≠ x → h.get? b = some o → h'.get? b = some o
  obj : h'.get? x = some { cls := .ref C, dict := some dx, data := .fields #[.ref t1, .none, .none, .none, .bool false, .none] }
  dbig : h.objs.size ≤ dx
  dne : dx ≠ x
  ns : h'.Ns1 dx (fun y => if y = f then some v else none)
/-- such an exception, made at e, its dict at d -/
structure Made1 (h h' : Heap) (e C d : Addr) (f : PySem.Str) (v : Value) : Prop where
  keep : ∀ b o, h.get? b = some o → h'.get? b = some o
  new : h.objs.size ≤ e
  obj : ∃ oe vs, h'.get? e = some oe ∧ oe.cls = .ref C ∧ oe.dict = some d ∧ oe.data = .fields vs ∧ vs[1]? = some .none
  dbig : h.objs.size ≤ d
  dne : d ≠ e
  ns : h'.Ns1 d (fun y => if y = f then some v else none)
theorem one_sz (v : Value) : [v].length ≤ sizeLine := by
  rw [sizeLine_eq]
  exact (by decide : 1 ≤ 16777216)
section
open Builtin Builtin.ObjectAttr
variable {prog : Program} {w : World} {A : Around} {E : Value → Shared → Prop} {R : Result → Shared → Prop} {K : Frag} {C : Addr} {hp : Heap} {g : Array GenState} {d : Drawn} {t : Nat} {os : OsState}
/-- self.f = v of an exception that has no dict as yet -/
theorem osa_first {f : PySem.Str} {tk : Tok} {v : Value} {x t0 : Addr} (X : K.In hp) (hx : hp.get? x = some (PX.excO C t0)) (hov : excOver K C xTl = true) (hhd : hasDictIn K C = true) (hno : takerIn K C f = some none)
    (hq : ∀ h' tk' dx, Left hp h' x C dx t0 f v → R (.ok (.ret .none)) ⟨h', g, d, tk', os⟩) :
    codeAny (model prog w) A (.call (.builtin "object.__setattr__") ⟨[.ref x, .str f tk, v], []⟩) R ⟨hp, g, d, t, os⟩ := by
  have hxs : x ≠ hp.objs.size := Nat.ne_of_lt (Heap.lt_size hx)
  obtain ⟨cd, hcd, hh⟩ : ∃ cd, clsIn K C = some cd ∧ cd.hasDict = true := by
    unfold hasDictIn at hhd
    cases e : clsIn K C with
    | none => rw [e] at hhd; simp at hhd
    | some cd => rw [e] at hhd; exact ⟨cd, rfl, by simpa using hhd⟩
  have hcls : Looks (model prog w) hp (classData C) cd := looks_clsIn X hcd
  refine osa_openX (s := ⟨hp, g, d, t, os⟩) PySem.F.store_Exception X (ox := PX.excO C t0) (od := none) ⟨hx, rfl, rfl, trivial⟩ hov hno fun b => ?_
  show wpAny _ _ (storeInOwnDict (.ref x) (.ref C) (.str f tk) f v b) _ _ _
  obtain ⟨nm, bs, mro, ns, qn, hd, sn, sb, ab, col, del⟩ := cd
  dsimp only at hh
  subst hh
  unfold storeInOwnDict ownDictForStores
  repeat (first | with_reducible refine PX.store_in_new ?_ ?_ | with_reducible refine wpAny_loadPart_at hx ?_ | with_reducible refine hcls.at ?_ | wp_step)
  · exact ⟨_, #[], _, (Heap.get?_update_ne _ _ _ _ hxs.symm).trans (Heap.get?_push_at rfl rfl), rfl, fun e he => absurd he (by simp), fun _ => rfl⟩
  · intro h' tk' hn' hs
    have h1 : (hp.push { cls := .type "dict", data := .dict #[] }).get? x = some (PX.excO C t0) := Heap.get?_push_of_some _ hx
    refine hq h' tk' hp.objs.size ⟨fun b o hb ho => ?_, ?_, Nat.le_refl _, hxs.symm, hn'⟩
    · exact (hs.2 b (Nat.ne_of_lt (Heap.lt_size ho))).trans ((Heap.get?_update_ne _ _ _ _ hb).trans (Heap.get?_push_of_some _ ho))
    · exact (hs.2 x hxs).trans (Heap.get?_update_self _ h1 rfl)
end
section
variable {prog : Program} {w : World} {A : Around} {E : Value → Shared → Prop} {R : Result → Shared → Prop} {s : Shared} {K : Frag} {mg : PySem.Str → Option Value} {c f : PySem.Str} {C fI : Addr}
theorem init1 (T : XTxt K mg c f C fI) {x t0 : Addr} {v : Value} (X : K.In s.heap) (hlim : s.heap.NoLimit) (hx : s.heap.get? x = some (PX.excO C t0)) (hroom : A.depth < recursionLimit)
    (hq : ∀ h' tk dx, Left s.heap h' x C dx t0 f v → R (.ok (.ret .none)) { s with heap := h', toks := tk }) :
    codeAny (model prog w) A (.call (.ref fI) ⟨[.ref x, v], []⟩) R s := by
  obtain ⟨fd, params, q1, q2, q3, q4, qual, FD, hb⟩ := T.fn
  have hb := hb s [.ref x, v] rfl
  obtain ⟨oc, od, dV, kV, doc, pm, an, cdv, ct, osl, rfl, lk, hcd, _, _⟩ := FD.ex
  have hxL : s.heap.objs.size ≠ x := Nat.ne_of_gt (Heap.lt_size hx)
  have ov := T.ov
  have hdd := T.hd
  have sa := T.sa
  have no := T.no
  have hfl := T.fl
  clear T FD
  rcases hfl with rfl | rfl | rfl | rfl <;>
  · refine Att.call_fn X hlim lk hcd hroom hb (by first | rfl | decide | with_unfolding_all rfl) (fun s₁ IC => ?_) rfl rfl rfl
    obtain ⟨h₁, tk₁, rfl⟩ := IC.toInCall.same
    have k : ∀ b o, s.heap.get? b = some o → h₁.get? b = some o := IC.toInCall.keep
    have hn := IC.toInCall.ns
    have X₁ : K.In h₁ := X.keeps k
    have hx₁ := k _ _ hx
    show wpAny _ _ (PySem.execs _ _) _ _ _
    refine wpAny_execs_cons (plainObj_wpAny_Assign_Attribute ?_)
    refine ld_own (v := v) hn (by first | rfl | with_unfolding_all rfl | kernel_rfl) (ld_own (v := .ref x) hn (by first | rfl | with_unfolding_all rfl | kernel_rfl) ?_ rfl rfl (by decide)) rfl rfl (by decide)
    refine set_plain X₁ (ox := PX.excO C t0) (od := none) ⟨hx₁, rfl, rfl, trivial⟩ sa ?_
    refine osa_first X₁ hx₁ ov hdd no fun h₃ tk₃ dx l3 => ?_
    show wpAny _ _ (PySem.execs _ _) _ _ _
    have z : s.heap.objs.size < h₁.objs.size := hn.lt
    exact wpAny_execs_nil (hq h₃ tk₃ dx ⟨fun b o hb e => l3.keep b o hb (k b o e), l3.obj, Nat.le_of_lt (Nat.lt_of_lt_of_le z l3.dbig), l3.dne, l3.ns⟩)
theorem made1 (T : XTxt K mg c f C fI) {v : Value} (X : K.In s.heap) (hlim : s.heap.NoLimit) (hroom : A.depth + 1 < recursionLimit)
    (hq : ∀ h' tk e d, Made1 s.heap h' e C d f v → R (.ok (.ret (.ref e))) { s with heap := h', toks := tk }) :
    codeAny (model prog w) A (.call (.ref C) ⟨[v], []⟩) R s := by
  obtain ⟨nm, q, N, bs, bm, hdct, sn, sub, ab, col, dd, k0, k1, k2, k3, k5, hC, hT⟩ := excInit_of X T.cls
  obtain ⟨hp, g, dr, tk, os⟩ := s
  have k : ∀ b o, hp.get? b = some o → ((hp.push (kdv_tup [v])).push (PX.excO C hp.objs.size)).get? b = some o := fun b o e => Heap.get?_push_of_some _ (Heap.get?_push_of_some _ e)
  have hget : ((hp.push (kdv_tup [v])).push (PX.excO C hp.objs.size)).get? (hp.objs.size + 1) = some (PX.excO C hp.objs.size) := by heap_get
  refine PX.call_own PySem.F.excBase_Exception hT hC (looks_findIn X T.iC) (fun self => bind_fn X self T.tI) (one_sz v) ?_
  refine init1 (s := ⟨(hp.push (kdv_tup [v])).push (PX.excO C hp.objs.size), g, dr, tk, os⟩) T (X.keeps k) (hlim.keeps k) hget ?_ fun h' tk' dx l1 => ?_
  · exact hroom
  · have old : ∀ b o, hp.get? b = some o → h'.get? b = some o := fun b o e => l1.keep b o (Nat.ne_of_lt (Nat.lt_succ_of_lt (Heap.lt_size e))) (k b o e)
    have z : hp.objs.size + 1 + 1 ≤ dx := by
      have q := l1.dbig
      first
        | (simpa only [Heap.size_push] using q)
        | exact q
        | (rw [Heap.size_push, Heap.size_push] at q; exact q)
    exact ⟨rfl, hq h' tk' (hp.objs.size + 1) dx ⟨old, Nat.le_succ _, ⟨_, _, l1.obj, rfl, rfl, rfl, rfl⟩, Nat.le_trans (Nat.le_trans (Nat.le_succ _) (Nat.le_succ _)) z, l1.dne, l1.ns⟩⟩
end
theorem relO_f {f : PySem.Str} {v : V} {v' : Value} (r : RelV v v') (g : PySem.Str) : RelO (List.lookup g [(f, v)]) (if g = f then some v' else none) := by
  by_cases hw : g = f
  · subst hw
    rw [if_pos rfl, show List.lookup g [(g, v)] = some v by simp [List.lookup]]
    exact r
  · rw [if_neg hw]
    have qw : (g == f) = false := by simpa using hw
    rw [show List.lookup g [(f, v)] = none by simp [List.lookup, qw]]
    trivial
section
variable {X : Cx} {C fI : Addr} {c f : PySem.Str}
/-- C(e) -/
def tMk1 (C : Addr) (f : PySem.Str) (ta : TA) : L2.St → Hp → XK → Prop := fun σ H Q => ta σ H fun vs H1 => ∃ v, vs = [v] ∧ ∀ d, H1 d = none → Q (.ref C) (some d) (upd H1 d (.xd [(f, v)]))
theorem pmk1 {a : PySem.Expr} {ta : TA} {p pos : Pos} {k : Nat} (T : XTxt X.K X.mg c f C fI) (hr : Room k X.A) (ha : PA X [a] ta) (hg : Gl X c) (hd : (c == ("__debug__" : PySem.Str)) = false)
    (he : starEach (a :: []) X.env = (false, eval a X.env) :: starEach [] X.env) (hpl : (backTo pos (starEach [] X.env)).any (·.1) = false) :
    PMk X (.Call (.Name c p) [a] [] pos) (tMk1 C f ta) := by
  intro pins s σ H Q I h
  refine wpAny_Call_Name_kw (ld_glob I hg T.gC ?_ hd)
  refine PySem.W.callWith_K (h₀ := X.base) I.ok.mod.kin T.kC (thn (ha.run pos pins s σ H _ I h) fun us s1 hh => ?_) he hpl
  obtain ⟨vs, H1, I1, r1, v, ev, q1⟩ := hh
  subst ev
  refine ⟨I1.kIn, ?_⟩
  cases r1 with
  | @cons _ u0 _ ur rv rw' =>
  cases rw'
  show wpAny _ _ (call (.ref C) [u0]) _ _ _
  have hlim := I1.nolimit
  refine wpAny_call (made1 T I1.kIn hlim (by have := hr.dp; omega) fun h' tk' e d M => ?_)
  · obtain ⟨hp, g, dr, tk, os⟩ := s1
    show MkP X pins σ Q (.ref e) ⟨h', g, dr, tk', os⟩
    obtain ⟨oe, fv, hoe, hc, hdi, hdat, h1⟩ := M.obj
    have hns := M.ns
    obtain ⟨G', g1, g2⟩ := restrict h' fun b => decide (b ≠ e)
    have gk : ∀ b, b ≠ e → G'.get? b = h'.get? b := fun b hb => g1 b (decide_eq_true hb)
    have ge : G'.get? e = none := g2 e (by simp)
    have old : ∀ b o, hp.get? b = some o → G'.get? b = some o := fun b o q => (gk b (Nat.ne_of_lt (Nat.lt_of_lt_of_le (Heap.lt_size q) M.new))).trans (M.keep b o q)
    have ob : ObjOk X.prog X.w (upd H1 d (.xd [(f, v)])) G' d (.xd [(f, v)]) :=
      ⟨_, hns.at (fun o q => (gk d M.dne).trans q), fun x => relO_f rv x⟩
    have J : Inv X pins σ (upd H1 d (.xd [(f, v)])) ⟨G', g, dr, tk', os⟩ := I1.laid (t' := tk') old M.dbig ob
    refine ⟨e, oe, fv, ⟨G', g, dr, tk', os⟩, _, .ref C, some d, rfl, J, fun b o q => ?_, ge, hoe, ⟨hc, hdi⟩, hdat, h1, ?_, rfl, I1.bare, raises_own T.exC T.tyC, q1 d (I1.hok.fresh M.dbig)⟩
    · by_cases hb : b = e
      · have q' : G'.get? b = some o := q
        rw [hb, ge] at q'; cases q'
      · exact (gk b hb).symm.trans q
    · rw [upd_ne (Ne.symm M.dne)]
      exact I1.hok.fresh M.new
end
end XR
end MP
set_option maxHeartbeats 4000000
/-! MPAug: o[i], read for o[i] op= e. -/
namespace MP
open PySem PyProof.Rows L2
section
variable {X : Cx} {G : GX} {W : WX}
theorem get_ix (C : Cxt X G W) : PGet X (rB X G idxA) := by
  have hu := C.units
  intro pins s σ H x y v u Q I rx ry h
  obtain ⟨F, m, st, va, vb, w, r, ra, rb, hv, fin⟩ := h
  have hn := line63
  unfold idxA at hv
  split at hv
  · rename_i n
    have dict : (dgetV (.ref n) vb st).bind id = some w → wpAny (model X.prog X.w) X.A (getItem v u) (EP X pins σ Q) X.xe s := by
      intro hd
      obtain ⟨o, h1, h2⟩ := Option.bind_eq_some_iff.mp hd
      obtain ⟨a, ea, q⟩ := dget_of r ra rb h1
      rcases q with ⟨e, g⟩ | ⟨v', z, e, g, rz⟩
      · rw [e] at h2; cases h2
      · rw [e] at h2
        have e2 : v' = w := Option.some.inj h2
        subst e2
        subst ea
        obtain rfl : v = Value.ref a := rx
        exact d_getItem (A := X.A) (by omega) I g ry fun w' s3 I3 rw' => ⟨z, H, I3, rw', fin.now r rz⟩
    split at hv
    · rename_i xs hk
      split at hv
      · rename_i k
        split at hv
        · rename_i h0
          obtain ⟨ys, h1, h2⟩ := r.cell n _ hk
          cases ra with
          | ref hn2 e =>
            subst e
            obtain rfl : v = Value.ref (m n) := rx
            cases rb
            obtain ⟨t, rfl⟩ := ry
            obtain ⟨its, hr, pl, hz⟩ := I.list (SqL.of h1)
            obtain ⟨z, h3, h4⟩ := h2.get hv
            obtain ⟨w', ew, rw'⟩ := hr.get h3
            have hl := hr.length
            have hj : k.toNat < ys.length := (List.getElem?_eq_some_iff.mp h3).1
            exact wpAny_getItem_list pl.isList h0 (by omega) (by simpa using ew) ⟨z, H, I, rw', fin.now r h4⟩
        · cases hv
      · cases hv
    · exact dict hv
  · cases hv
end
end MP
set_option maxHeartbeats 8000000
/-! MPStmt: statements of the small language. -/
namespace MP
open PySem PyProof.Rows L2

section
variable (X : Cx) (G : GX) (W : WX)
def PostS (D : Ends) (F : Hp) (m : Nat → Addr) (st : Store) (H : Hp) : Res → Prop
  | .nx env' st' => ∀ σ' F' m' H', Ext F m st H F' m' st' H' → RelH X.K G F' m' st' H' → RepS X.K G F' m' st'.length env' σ' → D.nx σ' H'
  | .rt v st' => ∀ y F' m' H', Ext F m st H F' m' st' H' → RelH X.K G F' m' st' H' → Rep X.K G F' m' st'.length v y → D.rt y H'
  | .bk env' st' => ∀ σ' F' m' H', Ext F m st H F' m' st' H' → RelH X.K G F' m' st' H' → RepS X.K G F' m' st'.length env' σ' → D.bk σ' H'
  | .ct env' st' => ∀ σ' F' m' H', Ext F m st H F' m' st' H' → RelH X.K G F' m' st' H' → RepS X.K G F' m' st'.length env' σ' → D.ct σ' H'
  | .ex c xs env' st' => ∀ σ' F' m' H', Ext F m st H F' m' st' H' → RelH X.K G F' m' st' H' → RepS X.K G F' m' st'.length env' σ' → exW X G W σ' c xs F' m' st' H'
  | .bad => False
def tS (s : S) : TS := fun D σ H => ∃ F m env st, RelH X.K G F m st H ∧ RepS X.K G F m st.length env σ ∧ PostS X G W D F m st H (exec s env st)
def tSs (s : Ss) : TS := fun D σ H => ∃ F m env st, RelH X.K G F m st H ∧ RepS X.K G F m st.length env σ ∧ PostS X G W D F m st H (execs s env st)
end
section
variable {X : Cx} {G : GX} {W : WX} {N : List PySem.Str} {sc : Scope} {F F1 H H1 : Hp} {m m1 : Nat → Addr} {st st1 : Store} {D : Ends}
theorem PostS.step {r : Res} (h : PostS X G W D F m st H r) (e : Ext F m st H F1 m1 st1 H1) : PostS X G W D F1 m1 st1 H1 r := by
  cases r with
  | nx env' st' => exact fun σ' F' m' H' e' r rs => h σ' F' m' H' (e.trans e') r rs
  | rt v st' => exact fun y F' m' H' e' r k => h y F' m' H' (e.trans e') r k
  | bk env' st' => exact fun σ' F' m' H' e' r rs => h σ' F' m' H' (e.trans e') r rs
  | ct env' st' => exact fun σ' F' m' H' e' r rs => h σ' F' m' H' (e.trans e') r rs
  | ex c xs env' st' => exact fun σ' F' m' H' e' r rs => h σ' F' m' H' (e.trans e') r rs
  | bad => exact h
theorem PostS.res {α : Type} {x : Out α} {env : Env} {σ : L2.St} {f : α → Store → Res} (rs : RepS X.K G F m st.length env σ) (h : PostS X G W D F m st H (x.res env f)) :
    PostG X.K G (exW X G W σ) (fun a F1 m1 st1 H1 => PostS X G W D F1 m1 st1 H1 (f a st1)) F m st H x := by
  cases x with
  | ok a st' => exact fun F' m' H' e' r => PostS.step h e'
  | exc c xs st' => exact fun F' m' H' e' r => h σ F' m' H' e' r (rs.ext e')
  | bad => exact h
theorem PostS.nx {env : Env} {σ : L2.St} (h : PostS X G W D F m st H (.nx env st)) (r : RelH X.K G F m st H) (rs : RepS X.K G F m st.length env σ) : D.nx σ H := h σ F m H .refl r rs
theorem PostS.seq {r : Res} {f : Env → Store → Res} {u : L2.St → Hp → Prop} (h : PostS X G W D F m st H (r.seq f))
    (hu : ∀ env' st' σ' F' m' H', Ext F m st H F' m' st' H' → RelH X.K G F' m' st' H' → RepS X.K G F' m' st'.length env' σ' → PostS X G W D F' m' st' H' (f env' st') → u σ' H') : PostS X G W { D with nx := u } F m st H r := by
  cases r with
  | nx env' st' => exact fun σ' F' m' H' e' r rs => hu env' st' σ' F' m' H' e' r rs (PostS.step h e')
  | rt v st' => exact h
  | bk env' st' => exact h
  | ct env' st' => exact h
  | ex c xs env' st' => exact h
  | bad => exact h

/-! ### matching -/
theorem noswap_plain {ts : List PySem.Expr} {k : Nat} {pos : Pos} {x : PySem.Expr} {env : PySem.Env} (h : ∀ vs k p, x ≠ .Tuple vs k p) : swappedStores [.Tuple ts k pos] x env = pure none := by
  cases x <;> first | rfl | exact absurd rfl (h _ _ _)
theorem noswap_len {ts vs : List PySem.Expr} {k k2 : Nat} {pos p2 : Pos} {env : PySem.Env} (h : (!(ts.length == 2 || ts.length == 3)) = true) : swappedStores [.Tuple ts k pos] (.Tuple vs k2 p2) env = pure none := by
  simp only [swappedStores, h, Bool.true_or, if_true]
theorem noswap_fold {ts vs : List PySem.Expr} {k k2 : Nat} {pos p2 : Pos} {env : PySem.Env} (h : vs.all (foldedForSure 8) = true) : swappedStores [.Tuple ts k pos] (.Tuple vs k2 p2) env = pure none := by
  simp only [swappedStores, h, if_true]
  split
  · rfl
  · split
    · rfl
    · split
      · rfl
      · rfl
theorem swap2 {x y : PySem.Str} {px py : Pos} {a b : PySem.Expr} {k k2 : Nat} {pos p2 : Pos} {env : PySem.Env} (hk : env.scope.kind = .function) (hx : env.scope.names.lookup x = some .local) (hy : env.scope.names.lookup y = some .local) (hl : px.line = py.line) (hxy : x ≠ y)
   (ha : noStar a = true) (hb : noStar b = true) (h1 : ([a, b].all (foldedForSure 8)) = false) (h2 : ([a, b].all (constantsAlone 8)) = false) : swappedStores [.Tuple [.Name x px, .Name y py] k pos] (.Tuple [a, b] k2 p2) env = pure (some [x, y]) := by
  have kb : env.blockKind = .function := by unfold Env.blockKind; rw [hk]; rfl
  have kx : env.kindOf x = some .local := hx
  have ky : env.kindOf y = some .local := hy
  have sa : ∀ z : PySem.Expr, noStar z = true → (match z with | .Starred .. => true | _ => false) = false := by intro z hz; cases z <;> first | rfl | cases hz
  unfold swappedStores
  simp only [kb, h1, h2]
  simp [List.any_cons, sa a ha, sa b hb, kx, ky, hl, Expr.pos, List.eraseDups_cons]
  rw [if_neg (fun h => by
    rcases h with h | h
    · revert h ha; cases a <;> simp [noStar]
    · revert h hb; cases b <;> simp [noStar])]
  have e : (y == x) = false := by simp [Ne.symm hxy]
  have e1 : ([y] : List PySem.Str).eraseDups = [y] := by simp [List.eraseDups_cons]
  simp [e, e1]
theorem fm_lt {α β : Type} {f : α → Option β} : ∀ {ts : List α} {t : α}, t ∈ ts → f t = none → (ts.filterMap f).length < ts.length
  | a :: ts, t, hm, hf => by
    have le : (ts.filterMap f).length ≤ ts.length := List.length_filterMap_le _ _
    rcases List.mem_cons.mp hm with e | hm
    · subst e
      rw [List.filterMap_cons_none hf]
      simp only [List.length_cons]; omega
    · have ih := fm_lt hm hf
      cases q : f a with
      | none => rw [List.filterMap_cons_none q]; simp only [List.length_cons]; omega
      | some z => rw [List.filterMap_cons_some q]; simp only [List.length_cons]; omega
def cellT (sc : Scope) (t : PySem.Expr) : Bool := match t with
  | .Name x _ => !(sc.names.lookup x == some .local)
  | _ => true
theorem noswap_name {sc : Scope} {ts vs : List PySem.Expr} {k k2 : Nat} {pos p2 : Pos} {env : PySem.Env} (hs : env.scope = sc) (h : ts.any (cellT sc) = true) : swappedStores [.Tuple ts k pos] (.Tuple vs k2 p2) env = pure none := by
  obtain ⟨t, ht, hc⟩ := List.any_eq_true.mp h
  unfold swappedStores
  simp only []
  split
  · rfl
  · split
    · rfl
    · rw [if_pos]
      · simp only [Bool.or_eq_true, bne_iff_ne, ne_eq]
        left
        refine Nat.ne_of_lt (fm_lt ht ?_)
        cases t <;> first | rfl | skip
        rename_i id pos
        have kx : env.kindOf id = sc.names.lookup id := by rw [← hs]; rfl
        simp only [cellT, Bool.not_eq_true', beq_eq_false_iff_ne] at hc
        show (if _ then some id else none) = none
        rw [if_neg]
        rw [kx]
        simp [hc]
/-- whether a comprehension's list is stored straight into the name -/
def lcSwap (sc : Scope) (y : PySem.Str) (py : Pos) (scope : Scope) (pos : Pos) : Bool :=
  (py.line == pos.line) && decide (sc.names.lookup y = some .local) && !(scope.names.any fun (n, k) => n == y && (k == .local || k == .cell)) && decide (sc.kind = .function)
def lcNo (sc : Scope) (y : PySem.Str) (py : Pos) (scope : Scope) (pos : Pos) : Bool :=
  !(py.line == pos.line) || !(sc.names.lookup y == some .local) || (scope.names.any fun (n, k) => n == y && (k == .local || k == .cell))
theorem sw_false {sc : Scope} {elt : PySem.Expr} {gs : List Comprehension} {scope : Scope} {pos py : Pos} {y : PySem.Str} {l : Nat} {env : PySem.Env} (hs : env.scope = sc) (h : lcNo sc y py scope pos = true) : swapsWith (.ListComp elt gs scope pos) (some (.Name y py)) l env = pure false := by
  have kx : env.kindOf y = sc.names.lookup y := by rw [← hs]; rfl
  unfold swapsWith
  simp only [kx, Expr.pos]
  show pure _ = pure _
  congr 1
  simp only [lcNo, Bool.or_eq_true, Bool.not_eq_true'] at h
  rcases h with (h | h) | h
  · rw [h]; simp
  · rw [h]; simp
  · rw [h]; simp
theorem sw_falseD {sc : Scope} {ke elt : PySem.Expr} {gs : List Comprehension} {scope : Scope} {pos py : Pos} {y : PySem.Str} {l : Nat} {env : PySem.Env} (hs : env.scope = sc) (h : lcNo sc y py scope pos = true) : swapsWith (.DictComp ke elt gs scope pos) (some (.Name y py)) l env = pure false := by
  have kx : env.kindOf y = sc.names.lookup y := by rw [← hs]; rfl
  unfold swapsWith
  simp only [kx, Expr.pos]
  show pure _ = pure _
  congr 1
  simp only [lcNo, Bool.or_eq_true, Bool.not_eq_true'] at h
  rcases h with (h | h) | h
  · rw [h]; simp
  · rw [h]; simp
  · rw [h]; simp
def noCompX : PySem.Expr → Bool
  | .ListComp _ _ _ _ => false
  | .SetComp _ _ _ _ => false
  | .DictComp _ _ _ _ _ => false
  | _ => true
def lcX (sc : Scope) (y : PySem.Str) (py : Pos) : PySem.Expr → Bool
  | .ListComp _ _ scope p => lcSwap sc y py scope p || lcNo sc y py scope p
  | .DictComp _ _ _ scope p => lcNo sc y py scope p
  | x => noCompX x
def locB (N : List PySem.Str) (sc : Scope) (i : Nat) (x : PySem.Str) : Bool := decide (N[i]? = some x) && (match sc.names.lookup x with
  | some .local => true
  | some .cell => true
  | _ => false)
/-- no swapped stores -/
def noSwapB (sc : Scope) (ts vs : List PySem.Expr) : Bool := !(ts.length == 2 || ts.length == 3) || vs.all (foldedForSure 8) || ts.any (cellT sc)
def swap3B (sc : Scope) (ts vs : List PySem.Expr) : Bool :=
  match ts, vs with
  | [.Name x px, .Name y py, .Name z pz], [a, b, c] => decide (sc.kind = .function) && noStar a && noStar b && noStar c && decide (sc.names.lookup x = some .local) && decide (sc.names.lookup y = some .local) && decide (sc.names.lookup z = some .local) && (px.line == py.line) && (px.line == pz.line) && !(x == y) && !(x == z) && !(y == z) &&
      !([a, b, c].all (foldedForSure 8)) && !([a, b, c].all (constantsAlone 8))
  | _, _ => false
def swapB (sc : Scope) (ts vs : List PySem.Expr) : Bool :=
  match ts, vs with
  | [.Name x px, .Name y py], [a, b] => decide (sc.kind = .function) && noStar a && noStar b && decide (sc.names.lookup x = some .local) && decide (sc.names.lookup y = some .local) && (px.line == py.line) && !(x == y) &&
      !([a, b].all (foldedForSure 8)) && !([a, b].all (constantsAlone 8))
  | _, _ => false
def noSwapV (sc : Scope) (ts : List PySem.Expr) : PySem.Expr → Bool
  | .Tuple vs _ _ => noSwapB sc ts vs
  | _ => true
mutual
def mS (N : List PySem.Str) (sc : Scope) : S → PySem.Stmt → Bool
  | .asg i e, .Assign ts x pos => (match ts with
      | [.Name y py] => locB N sc i y && mE N sc e x && lcX sc y py x
      | _ => false)
  | .par is es, .Assign ts x _ => (match ts, x with
      | [.Tuple ts _ _], .Tuple vs _ _ => (match is, ts with
        | [i, j], [.Name x _, .Name y _] => swapB sc ts vs && decide (N[i]? = some x) && decide (N[j]? = some y) && !(i == j) && mEs N sc es vs
        | [i, j, k], [.Name x _, .Name y _, .Name z _] => swap3B sc ts vs && decide (N[i]? = some x) && decide (N[j]? = some y) && decide (N[k]? = some z) && !(i == j) && !(i == k) && !(j == k) && mEs N sc es vs
        | _, _ => false)
      | _, _ => false)
  | .unp t e, .Assign ts x _ => (match ts with
      | [.Tuple ts _ _] => mTs N sc true t ts && mE N sc e x && noCompX x && noSwapV sc ts x
      | _ => false)
  | .setix o i e, .Assign ts x _ => (match ts with
      | [.Subscript xo xi _] => mE N sc o xo && mE N sc i xi && noSlice xi && mE N sc e x
      | _ => false)
  | .aug i op e, .AugAssign t pop x _ => (match t with
      | .Name y _ => locB N sc i y && (match op, pop with
        | .add, .Add => true
        | .sub, .Sub => true
        | .mul, .Mult => true
        | _, _ => false) && mE N sc e x
      | _ => false)
  | .expr e, .Expr x _ => mE N sc e x && noCompX x
  | .ret e, .Return x _ => (match x with
      | some x => mE N sc e x
      | none => false)
  | .retn, .Return x _ => x.isNone
  | .ite c a b, .If xc xa xb _ => mE N sc c xc && mSs N sc a xa && mSs N sc b xb
  | .loop t it body, .For tg x xb xe _ => mT N sc true t tg && mIt N sc it tg x && noSet x && mSs N sc body xb && xe.isEmpty
  | .whl c body, .While xc xb xe _ => mE N sc c xc && mSs N sc body xb && xe.isEmpty
  | .brk, .Break _ => true
  | .cnt, .Continue _ => true
  | .pass, .Pass _ => true
  | .raise c, .Raise x y _ => (match x, y with
      | some (.Call (.Name z _) [] [] _), none => c == z && glB sc z && notDbg z
      | _, _ => false)
  | .raise1 c _ e, .Raise x y _ => (match x, y with
      | some (.Call (.Name z _) [a] [] _), none => c == z && glB sc z && notDbg z && noStar a && mE N sc e a
      | _, _ => false)
  | .augix o i op e, .AugAssign t pop x _ => (match t with
      | .Subscript xo xi _ => mE N sc o xo && mE N sc i xi && noSlice xi && (match op, pop with
        | .add, .Add => true
        | .sub, .Sub => true
        | .mul, .Mult => true
        | _, _ => false) && mE N sc e x
      | _ => false)
  | .thk i _ _, .Expr x _ => (match x with
      | .Call (.Name y _) [] [] _ => decide (N[i]? = some y)
      | _ => false)
  | .any, _ => true
  | .tryS b hs, .Try xb xh xe xf _ => mSs N sc b xb && mHs N sc hs xh && !xh.isEmpty && xe.isEmpty && xf.isEmpty
  | _, _ => false
def mHs (N : List PySem.Str) (sc : Scope) : Hs → List ExceptHandler → Bool
  | .nil, [] => true
  | .cons c _ b hs, x :: xs => (match x with
      | .ExceptHandler (some (.Name z _)) none xb _ => c == z && glB sc z && notDbg z && mSs N sc b xb && !xb.isEmpty
      | _ => false) && mHs N sc hs xs
  | _, _ => false
def mSs (N : List PySem.Str) (sc : Scope) : Ss → List PySem.Stmt → Bool
  | .nil, [] => true
  | .cons s ss, xs => (match s with
      | .frz _ => mSs N sc ss xs
      | _ => (match xs with
        | [] => false
        | x :: xs => mS N sc s x && mSs N sc ss xs))
  | _, _ => false
end
/-- a suite of an except clause -/
def Lv.sui (v : Lv) : Lv := { v with l := false, c := false, t := none, x := none }
def Lv.nox (v : Lv) : Lv := { v with x := none }
section
variable (T : Stat) (G : GX)
/-- an own class of exceptions that may be raised without arguments -/
def RaiseOk (c : PySem.Str) : Prop := ∃ (C : Addr) (bmB : List Value) (B newId initId : String), ExcBaseFacts B newId initId bmB ∧ PySem.W.excIn T.K C bmB newId = true ∧ T.mg c = some (.ref C) ∧ PySem.W.keepIn T.K (.ref C) = true ∧
  ∀ (M : Model) (h : Heap), T.K.In h → PySem.W.Looks M h (isSubtype (.ref C) (.type "BaseException")) true ∧ PySem.W.Looks M h (typeOf (.ref C)) (.type "type")
/-- which classes are of the class c -/
def ClsOk (c : PySem.Str) (mt : List (PySem.Str × Bool)) : Prop := ∃ C, T.mg c = some C ∧ ∀ d b, mt.lookup d = some b → ∃ D, T.mg d = some D ∧ PySem.W.exmOne T.K D C = some b
mutual
def okS : Lv → S → Prop
  | v, .asg _ e => okE T G v e
  | v, .par _ es => v.c = true ∧ okEs T G v es
  | v, .unp _ e => v.c = true ∧ okE T G v e
  | v, .setix o i e => okE T G v o ∧ okE T G v i ∧ okE T G v e
  | v, .aug _ _ e => okE T G v e
  | v, .expr e => okE T G v e
  | v, .ret e => okE T G v e
  | v, .ite c a b => okE T G v c ∧ okSs v a ∧ okSs v b
  | v, .loop _ it b => v.c = true ∧ okIt T G v it ∧ okSs v b
  | v, .whl c b => okE T G v c ∧ okSs v b
  | v, .raise c => v.c = true ∧ RaiseOk T c
  | v, .raise1 c f e => v.c = true ∧ (∃ C fI, XR.XTxt T.K T.mg c f C fI) ∧ okE T G v e
  | v, .augix o i _ e => okE T G v o ∧ okE T G v i ∧ okE T G v e
  | v, .thk i w th => v.t = some (i, w, th)
  | v, .tryS b hs => v.c = true ∧ okSs v.nox b ∧ okHs v hs
  | _, _ => True
def okHs : Lv → Hs → Prop
  | _, .nil => True
  | v, .cons c mt b hs => ClsOk T c mt ∧ okSs v.sui b ∧ okHs v hs
def okSs : Lv → Ss → Prop
  | _, .nil => True
  | v, .cons s ss => okS v s ∧ okSs v ss
end
end
structure CS (X : Cx) (G : GX) (W : WX) : Prop where
  c : Cxt X G W
  fn : ∀ x, X.fn x = true
  own : PassesOwn (model X.prog X.w) X.A X.env X.xe
  stk : X.stack = X.env :: X.outer
  frm : X.env.frame = some X.env.locals
structure RmS (X : Cx) (G : GX) (v : Lv) : Prop where
  room : v.c = true → Room v.k X.A
  gd : v.g = true → X.A.guards = some []
  lam : v.l = true → LamC X G
  calm : v.c = true → X.calm = true
  thk : ∀ i w th, v.t = some (i, w, th) → ∀ (pn : List (Addr × Obj)) (xe : Value → Shared → Prop) (W : WX), Takes (X.tr pn xe) W → ∀ y p1 p2 pos, X.N[i]? = some y → PS (X.tr pn xe) (.Expr (.Call (.Name y p1) [] [] p2) pos) (tS X G W (.thk i w th))
  exi : ∀ i w tb, v.x = some (i, w, tb) → ∀ W c b, tb.lookup c = some b → ∀ y p1 p2 p3 pos, X.N[i]? = some y → Vis X.env.scope y → notDbg y = true → Gl X "isinstance" → Gl X c → notDbg c = true → PE X (.Call (.Name "isinstance" p1) [.Name y p2, .Name c p3] [] pos) (tE X G W (.isx i w c b))
theorem RmS.g {X : Cx} {G : GX} {W : WX} {v : Lv} (R : RmS X G v) (C : CS X G W) : RmG X G W v := ⟨R.room, R.gd, R.lam, R.calm, fun i w tb h => R.exi i w tb h W⟩

/-! ### steps -/
theorem locB_of (A : At X N sc) {i : Nat} {x : PySem.Str} (h : locB N sc i x = true) : X.N[i]? = some x ∧ Loc X.env.scope x := by
  simp only [locB, Bool.and_eq_true] at h
  refine ⟨A.ix h.1, ?_⟩
  rw [A.s]
  have h2 := h.2
  split at h2
  · exact .inl (by assumption)
  · exact .inr (by assumption)
  · cases h2
theorem nocomp_of {x : PySem.Expr} {t : Option PySem.Expr} {l : Nat} {env : PySem.Env} (h : noCompX x = true) : swapsWith x t l env = pure false := by
  cases x <;> first | rfl | cases h
theorem asg_of {i : Nat} {e : E} {σ : L2.St} {H : Hp} {te : TE} (ht : ∀ σ H Q, tE X G W e σ H Q → te σ H Q) (h : tS X G W (.asg i e) D σ H) : tAsg te (gName i) D σ H := by
  refine ht σ H _ ?_
  obtain ⟨F, m, env, st, r, rs, p⟩ := h
  refine ⟨F, m, env, st, r, rs, (PostS.res rs p).mono fun v F1 m1 st1 H1 e1 r1 q y k => ?_⟩
  exact q.nx r1 ((rs.ext e1).set k)
theorem p_asg (C : CS X G W) {i : Nat} {y : PySem.Str} {e : E} {x : PySem.Expr} {py pos : Pos} (hi : X.N[i]? = some y) (hl : Loc X.env.scope y) (hc : noCompX x = true) (he : PE X x (tE X G W e)) : PS X (.Assign [.Name y py] x pos) (tS X G W (.asg i e)) :=
  PS.imp (ps_set C.c.nd hi hl he (nocomp_of hc) (.inl (C.fn y))) fun D σ H h => asg_of (fun _ _ _ q => q) h
theorem p_expr {e : E} {x : PySem.Expr} {pos : Pos} (hc : noCompX x = true) (he : PE X x (tE X G W e)) : PS X (.Expr x pos) (tS X G W (.expr e)) := by
  refine PS.imp (ps_expr he (nocomp_of hc)) fun D σ H h => ?_
  obtain ⟨F, m, env, st, r, rs, p⟩ := h
  exact ⟨F, m, env, st, r, rs, (PostS.res rs p).mono fun v F1 m1 st1 H1 e1 r1 q y k => q.nx r1 (rs.ext e1)⟩
theorem p_ret {e : E} {x : PySem.Expr} {pos : Pos} (he : PE X x (tE X G W e)) : PS X (.Return (some x) pos) (tS X G W (.ret e)) := by
  refine PS.imp (ps_ret he) fun D σ H h => ?_
  obtain ⟨F, m, env, st, r, rs, p⟩ := h
  exact ⟨F, m, env, st, r, rs, (PostS.res rs p).mono fun v F1 m1 st1 H1 e1 r1 q y k => q y F1 m1 H1 .refl r1 k⟩
theorem p_retn {pos : Pos} : PS X (.Return none pos) (tS X G W .retn) := by
  refine PS.imp ps_retN fun D σ H h => ?_
  obtain ⟨F, m, env, st, r, rs, p⟩ := h
  have p : PostS X G W D F m st H (.rt .non st) := p
  exact p .non F m H .refl r .non
theorem p_pass {pos : Pos} : PS X (.Pass pos) (tS X G W .pass) := by
  refine PS.imp ps_pass fun D σ H h => ?_
  obtain ⟨F, m, env, st, r, rs, p⟩ := h
  exact PostS.nx p r rs
theorem p_brk {pos : Pos} : PS X (.Break pos) (tS X G W .brk) := by
  refine PS.imp ps_break fun D σ H h => ?_
  obtain ⟨F, m, env, st, r, rs, p⟩ := h
  have p : PostS X G W D F m st H (.bk env st) := p
  exact p σ F m H .refl r rs
theorem p_cnt {pos : Pos} : PS X (.Continue pos) (tS X G W .cnt) := by
  refine PS.imp ps_continue fun D σ H h => ?_
  obtain ⟨F, m, env, st, r, rs, p⟩ := h
  have p : PostS X G W D F m st H (.ct env st) := p
  exact p σ F m H .refl r rs
theorem p_ite {c : E} {a b : Ss} {xc : PySem.Expr} {xa xb : List PySem.Stmt} {pos : Pos} (hc : PT X xc (tT X G W c)) (ha : PSs X xa (tSs X G W a)) (hb : PSs X xb (tSs X G W b)) : PS X (.If xc xa xb pos) (tS X G W (.ite c a b)) := by
  refine PS.imp (ps_if hc ha hb) fun D σ H h => ?_
  obtain ⟨F, m, env, st, r, rs, p⟩ := h
  refine ⟨F, m, env, st, r, rs, (PostS.res rs p).mono fun t F1 m1 st1 H1 e1 r1 q => ?_⟩
  cases t with
  | true => rw [if_pos rfl] at q ⊢; exact ⟨F1, m1, env, st1, r1, rs.ext e1, q⟩
  | false => rw [if_neg (by decide)] at q ⊢; exact ⟨F1, m1, env, st1, r1, rs.ext e1, q⟩
theorem p_nil : PSs X [] (tSs X G W .nil) := by
  refine PSs.imp pss_nil fun D σ H h => ?_
  obtain ⟨F, m, env, st, r, rs, p⟩ := h
  exact PostS.nx p r rs
theorem p_cons {s : S} {ss : Ss} {x : PySem.Stmt} {xs : List PySem.Stmt} (h1 : PS X x (tS X G W s)) (h2 : PSs X xs (tSs X G W ss)) : PSs X (x :: xs) (tSs X G W (.cons s ss)) := by
  refine PSs.imp (pss_cons h1 h2) fun D σ H h => ?_
  obtain ⟨F, m, env, st, r, rs, p⟩ := h
  exact ⟨F, m, env, st, r, rs, PostS.seq p fun env' st' σ' F' m' H' e r rs q => ⟨F', m', env', st', r, rs, q⟩⟩
theorem RepS.freeze {L : Nat} {env : Env} {σ : L2.St} {i n : Nat} {v w : Val} (h : RepS X.K G F m L env σ) (hv : env.getD i none = some v) (hw : ∀ y, Rep X.K G F m L v y → Rep X.K G F m L w y) : RepS X.K G F m L (env.set i (some w)) σ := by
  obtain ⟨y, h1, h2⟩ := h.get hv
  refine ⟨by simp [h.1], fun j u q => ?_⟩
  by_cases e : i = j
  · subst e
    by_cases hl : i < env.length
    · rw [List.getElem?_set_self hl] at q
      cases q
      exact ⟨y, h1, hw y h2⟩
    · rw [List.getElem?_eq_none (by simpa using hl)] at q
      cases q
  · rw [List.getElem?_set_ne e] at q
    exact h.2 j u q
theorem p_frz {i : Nat} {ss : Ss} {xs : List PySem.Stmt} (h : PSs X xs (tSs X G W ss)) : PSs X xs (tSs X G W (.cons (.frz i) ss)) := by
  refine PSs.imp h fun D σ H h => ?_
  obtain ⟨F, m, env, st, r, rs, p⟩ := h
  have p : PostS X G W D F m st H ((frzE i env st).seq (execs ss)) := p
  unfold frzE at p
  split at p
  · rename_i n hv
    split at p
    · rename_i zs hk
      obtain ⟨ys, h1, h2⟩ := r.cell n _ hk
      have hl : live st n := ⟨_, hk, by simp⟩
      have e := Ext.freeze (o := .lst ys) r hl
      have r2 := r.freeze hl h1
      refine ⟨_, m, _, _, r2, ?_, PostS.step p e⟩
      refine RepS.freeze (n := n) (rs.ext e) hv fun y k => ?_
      cases k with
      | ref hn z =>
        subst z
        exact .lst upd_same (h2.mono (Same.upd (r.off n hl)) (fun _ _ => rfl) (by simp))
    · rename_i zs hk
      obtain ⟨ys, h1, h2⟩ := r.cell n _ hk
      have hl : live st n := ⟨_, hk, by simp⟩
      have e := Ext.freeze (o := .dK ys) r hl
      have r2 := r.freeze hl h1
      refine ⟨_, m, _, _, r2, ?_, PostS.step p e⟩
      refine RepS.freeze (n := n) (rs.ext e) hv fun y k => ?_
      cases k with
      | ref hn z =>
        subst z
        exact .dK upd_same (h2.mono (Same.upd (r.off n hl)) (fun _ _ => rfl) (by simp))
    · rename_i zs hk
      obtain ⟨ys, h1, h2⟩ := r.cell n _ hk
      have hl : live st n := ⟨_, hk, by simp⟩
      have e := Ext.freeze (o := .dT ys) r hl
      have r2 := r.freeze hl h1
      refine ⟨_, m, _, _, r2, ?_, PostS.step p e⟩
      refine RepS.freeze (n := n) (rs.ext e) hv fun y k => ?_
      cases k with
      | ref hn z =>
        subst z
        exact .dT upd_same (h2.mono (Same.upd (r.off n hl)) (fun _ _ => rfl) (by simp))
    · exact p.elim
  · exact ⟨F, m, env, st, r, rs, p⟩
  · exact p.elim
theorem noswap_of (A : At X N sc) {ts : List PySem.Expr} {k : Nat} {pos : Pos} {x : PySem.Expr} (h : noSwapV sc ts x = true) : swappedStores [.Tuple ts k pos] x X.env = pure none := by
  cases x
  case Tuple vs k2 p2 =>
    simp only [noSwapV, noSwapB, Bool.or_eq_true] at h
    rcases h with (h | h) | h
    · exact noswap_len h
    · exact noswap_fold h
    · exact noswap_name A.s h
  all_goals exact noswap_plain (by intro _ _ _ z; cases z)
theorem sole_of {t x : PySem.Expr} {l : Nat} {env : PySem.Env} (h : noCompX x = true) : swapsWithSole [t] x l env = pure false := by
  cases x <;> first | rfl | cases h
theorem p_unp (C : CS X G W) (hca : X.calm = true) (A : At X N sc) {t : List Tgt} {e : E} {ts : List PySem.Expr} {x : PySem.Expr} {k : Nat} {tp pos : Pos} (ht : mTs N sc true t ts = true) (hc : noCompX x = true)
    (hn : noSwapV sc ts x = true) (he : PE X x (tE X G W e)) : PS X (.Assign [.Tuple ts k tp] x pos) (tS X G W (.unp t e)) := by
  refine PS.imp (ps_asg he (pg_T (G := G) (ck := true) hca C.c.nd A (fun _ => C.fn) (.tup t) (.Tuple ts k tp) (by simpa only [mT] using ht)) (sole_of hc) (noswap_of A hn)) fun D σ H h => ?_
  obtain ⟨F, m, env, st, r, rs, p⟩ := h
  refine ⟨F, m, env, st, r, rs, (PostS.res rs p).mono fun v F1 m1 st1 H1 e1 r1 q y k => ?_⟩
  cases v <;> try exact q.elim
  rename_i xs
  dsimp only at q
  split at q
  · rename_i env' hb
    exact ⟨F1, m1, st1, _, env, env', r1, k, rs.ext e1, by simpa only [bindT] using hb, fun σ' rs' _ _ => q.nx r1 rs'⟩
  · exact q.elim
theorem p_setix (C : CS X G W) {o i e : E} {xo xi x : PySem.Expr} {tp pos : Pos} (hn : noSlice xi = true) (ho : PE X xo (tE X G W o)) (hi : PE X xi (tE X G W i)) (he : PE X x (tE X G W e)) : PS X (.Assign [.Subscript xo xi tp] x pos) (tS X G W (.setix o i e)) := by
  refine PS.imp (ps_asg he (pg_sub ho hi (set_ix C.c) (by intro _; cases xi <;> first | rfl | cases hn)) (by cases x <;> rfl) (by cases x <;> rfl) rfl) fun D σ H h => ?_
  obtain ⟨F, m, env, st, r, rs, p⟩ := h
  refine ⟨F, m, env, st, r, rs, (PostS.res rs p).mono fun v F1 m1 st1 H1 e1 r1 q y k => ?_⟩
  refine ⟨F1, m1, env, st1, r1, rs.ext e1, (PostS.res (rs.ext e1) q).mono fun ov F2 m2 st2 H2 e2 r2 q2 yo ko => ?_⟩
  refine ⟨F2, m2, env, st2, r2, (rs.ext e1).ext e2, (PostS.res ((rs.ext e1).ext e2) q2).mono fun iv F3 m3 st3 H3 e3 r3 q3 yi ki => ?_⟩
  split at q3
  · rename_i st4 hs
    exact ⟨F3, m3, st3, ov, iv, v, r3, e3.rep ko, ki, (e2.trans e3).rep k, st4, hs, fun H' e4 r4 => q3 σ F3 m3 H' e4 r4 ((((rs.ext e1).ext e2).ext e3).ext e4)⟩
  · exact q3.elim
theorem p_aug (C : CS X G W) {i : Nat} {y : PySem.Str} {op : Bop} {pop : Operator} {e : E} {x : PySem.Expr} {py pos : Pos} (hi : X.N[i]? = some y) (hl : Loc X.env.scope y) (hm : (match op, pop with | .add, .Add => true | .sub, .Sub => true | .mul, .Mult => true | _, _ => false) = true) (he : PE X x (tE X G W e)) :
    PS X (.AugAssign (.Name y py) pop x pos) (tS X G W (.aug i op e)) := by
  have go : ∀ {f : Int → Int → Int} {c : Int → Int → Prop}, PIp X pop (fun x y H Q => ∃ i j, x = .int i ∧ y = .int j ∧ c i j ∧ Q (.int (f i j)) H) → (∀ a b z, bop op (.int a) (.int b) = some z → c a b ∧ z = .int (f a b)) → PS X (.AugAssign (.Name y py) pop x pos) (tS X G W (.aug i op e)) := by
    intro f c hp hf
    refine PS.imp (ps_aug C.c.nd hi hl he hp (.inl (C.fn y))) fun D σ H h => ?_
    obtain ⟨F, m, env, st, r, rs, p⟩ := h
    obtain ⟨v, hv, p⟩ := (PostS.res rs p).of r
    obtain ⟨z, h1, h2⟩ := rs.get hv
    refine ⟨z, h1, F, m, env, st, r, rs, (PostS.res rs p).mono fun w F1 m1 st1 H1 e1 r1 q u k => ?_⟩
    cases v <;> try exact q.elim
    cases w <;> try exact q.elim
    cases h2; cases k
    rename_i a b
    dsimp only at q
    split at q
    · rename_i z hz
      obtain ⟨hc, rfl⟩ := hf a b z hz
      exact ⟨a, b, rfl, rfl, hc, q.nx r1 ((rs.ext e1).set (.int _))⟩
    · exact q.elim
  cases op <;> cases pop <;> simp only at hm <;> first | (exact absurd hm Bool.false_ne_true) | skip
  · exact go (f := fun a b => a + b) (c := fun _ _ => True) (fun pins s σ H x y v u Q I r1 r2 ⟨i, j, e1, e2, _, q⟩ => ip_add pins s σ H x y v u Q I r1 r2 ⟨i, j, e1, e2, q⟩) fun a b z h => ⟨True.intro, by cases h; rfl⟩
  · exact go (f := fun a b => a - b) (c := fun _ _ => True) (fun pins s σ H x y v u Q I r1 r2 ⟨i, j, e1, e2, _, q⟩ => ip_sub pins s σ H x y v u Q I r1 r2 ⟨i, j, e1, e2, q⟩) fun a b z h => ⟨True.intro, by cases h; rfl⟩
  · refine go (f := fun a b => a * b) (c := fun a b => CMulW a b ∨ CMul a b) (fun pins s σ H x y v u Q I r1 r2 ⟨i, j, e1, e2, hc, q⟩ => ?_) fun a b z h => ?_
    · rcases hc with hc | hc
      · subst e1 e2
        obtain ⟨t, rfl⟩ := r1
        obtain ⟨t', rfl⟩ := r2
        exact imul_int ⟨.int _, H, I.tok _, ⟨_, rfl⟩, q⟩ hc.ok
      · exact iop_mul pins s σ H x y v u Q I r1 r2 ⟨i, j, e1, e2, hc, q⟩
    · simp only [bop] at h
      obtain ⟨h1, h2⟩ := ite_some h
      exact ⟨h1, h2.symm⟩
theorem p_par (C : CS X G W) (hca : X.calm = true) {i j : Nat} {x y : PySem.Str} {px py tp pos vp : Pos} {kt k2 : Nat} {a b : PySem.Expr} {es : Es} (hi : X.N[i]? = some x) (hj : X.N[j]? = some y) (hij : i ≠ j) (hx : X.env.scope.names.lookup x = some .local) (hy : X.env.scope.names.lookup y = some .local)
    (hw : swappedStores [.Tuple [.Name x px, .Name y py] kt tp] (.Tuple [a, b] k2 vp) X.env = pure (some [x, y])) (ha : PA X [a, b] (tA X G W es)) : PS X (.Assign [.Tuple [.Name x px, .Name y py] kt tp] (.Tuple [a, b] k2 vp) pos) (tS X G W (.par [i, j] es)) := by
  refine PS.imp (ps_par hca C.c.nd hi hj hij hx hy ha hw) fun D σ H h => ?_
  obtain ⟨F, m, env, st, r, rs, p⟩ := h
  refine ⟨F, m, env, st, r, rs, (PostS.res rs p).mono fun vs F1 m1 st1 H1 e1 r1 q ys k => ?_⟩
  match vs, k, q with
  | [v, w], .cons k1 (.cons k2 .nil), q =>
    simp only [setAll] at q
    exact ⟨_, _, rfl, q.nx r1 (((rs.ext e1).set k1).set k2)⟩
  | [], k, q => exact q.elim
  | [_], k, q => exact q.elim
  | _ :: _ :: _ :: _, k, q => exact q.elim
theorem p_loop (C : CS X G W) (hca : X.calm = true) (A : At X N sc) {t : Tgt} {it : It} {body : Ss} {tg x : PySem.Expr} {xb : List PySem.Stmt} {pos : Pos} (ht : mT N sc true t tg = true) (hs : noSet x = true) (hi : PI X tg x (tIt X G W it)) (hb : PSs X xb (tSs X G W body)) :
    PS X (.For tg x xb [] pos) (tS X G W (.loop t it body)) := by
  refine PS.imp (ps_for C.own hca hi (pg_T (G := G) (ck := true) hca C.c.nd A (fun _ => C.fn) t tg ht) hb (set_of hs)) fun D σ H h => ?_
  obtain ⟨F, m, env, st, r, rs, p⟩ := h
  refine ⟨F, m, env, st, r, rs, (PostS.res rs p).mono fun items F1 m1 st1 H1 e1 r1 q J wk => ?_⟩
  refine ⟨fun i n σ' H' => n = items.length - i ∧ i ≤ items.length ∧ ∃ F' m' env' st', RelH X.K G F' m' st' H' ∧ RepS X.K G F' m' st'.length env' σ' ∧ Same F1 F' ∧ Frs H1 H' ∧ (∀ n, n < st1.length → m' n = m1 n) ∧ st1.length ≤ st'.length ∧
    PostS X G W D F' m' st' H' (forL (fun x env' st' => match bindT t x env' with | some env2 => execs body env2 st' | none => .bad) (items.drop i) env' st'), ⟨items.length, rfl, Nat.zero_le _, F1, m1, env, st1, r1, rs.ext e1, Same.refl _, Frs.refl, fun _ _ => rfl, Nat.le_refl _, q⟩, ?_⟩
  rintro i n σ' H' ⟨rfl, hi, F', m', env', st', r', rs', sm, fr, mm, ll, p'⟩
  by_cases hlt : i < items.length
  · right
    refine ⟨wk.go i F' m' st' H' hlt r' sm fr, fun σ' H' => ∃ F' m' env' st', RelH X.K G F' m' st' H' ∧ RepS X.K G F' m' st'.length env' σ' ∧ Same F1 F' ∧ Frs H1 H' ∧ (∀ n, n < st1.length → m' n = m1 n) ∧ st1.length ≤ st'.length ∧
      PostS X G W D F' m' st' H' (forL (fun x env' st' => match bindT t x env' with | some env2 => execs body env2 st' | none => .bad) (items.drop (i + 1)) env' st'), fun σ2 H2 z => ⟨items.length - (i + 1), by omega, rfl, hlt, z⟩, fun y H2 hy => ?_⟩
    have hx : items[i]? = some items[i] := List.getElem?_eq_getElem hlt
    have hd : items.drop i = items[i] :: items.drop (i + 1) := List.drop_eq_getElem_cons hlt
    obtain ⟨F2, e2, r2, k2⟩ := wk.yld i F' m' st' H' y H2 items[i] hx r' sm fr mm ll hy
    rw [hd] at p'
    simp only [forL] at p'
    cases hb : bindT t items[i] env' with
    | none => simp only [hb] at p'; exact p'.elim
    | some env2 =>
      simp only [hb] at p'
      refine ⟨F2, m', st', items[i], env', env2, r2, k2, rs'.ext e2, hb, fun σ2 rs2 l2 o2 => ⟨F2, m', env2, st', r2, rs2, ?_⟩⟩
      have p' := PostS.step p' e2
      have again : ∀ {env3 st3}, PostS X G W D F2 m' st' H2 (forL (fun x env' st' => match bindT t x env' with | some env2 => execs body env2 st' | none => .bad) (items.drop (i + 1)) env3 st3) → ∀ σ3 F3 m3 H3, Ext F2 m' st' H2 F3 m3 st3 H3 → RelH X.K G F3 m3 st3 H3 → RepS X.K G F3 m3 st3.length env3 σ3 →
          ∃ F' m' env' st', RelH X.K G F' m' st' H3 ∧ RepS X.K G F' m' st'.length env' σ3 ∧ Same F1 F' ∧ Frs H1 H3 ∧ (∀ n, n < st1.length → m' n = m1 n) ∧ st1.length ≤ st'.length ∧
            PostS X G W D F' m' st' H3 (forL (fun x env' st' => match bindT t x env' with | some env2 => execs body env2 st' | none => .bad) (items.drop (i + 1)) env' st') := by
        intro env3 st3 pp σ3 F3 m3 H3 e3 r3 rs3
        have e23 := e2.trans e3
        exact ⟨F3, m3, env3, st3, r3, rs3, sm.trans e23.same, fr.trans (e23.frs r'), fun n hn => (e23.mm n (Nat.lt_of_lt_of_le hn ll)).trans (mm n hn), Nat.le_trans ll e23.len, PostS.step pp e3⟩
      cases hbody : execs body env2 st' with
      | nx env3 st3 => rw [hbody] at p'; exact again p'
      | ct env3 st3 => rw [hbody] at p'; exact again p'
      | bk env3 st3 => rw [hbody] at p'; exact p'
      | rt v st3 => rw [hbody] at p'; exact p'
      | ex c xs env3 st3 => rw [hbody] at p'; exact p'
      | bad => rw [hbody] at p'; exact p'
  · have hi' : i = items.length := by omega
    subst hi'
    left
    rw [List.drop_length] at p'
    exact ⟨wk.stop F' m' st' H' r' sm fr, PostS.nx p' r' rs'⟩
theorem p_whl (C : CS X G W) {c : E} {body : Ss} {xc : PySem.Expr} {xb : List PySem.Stmt} {pos : Pos} (hc : PT X xc (tT X G W c)) (hb : PSs X xb (tSs X G W body)) : PS X (.While xc xb [] pos) (tS X G W (.whl c body)) := by
  refine PS.imp (ps_while C.own hc hb) fun D σ H h => ?_
  obtain ⟨F, m, env, st, r, rs, p⟩ := h
  simp only [exec, whl] at p
  split at p
  · rename_i hx
    refine ⟨fun n σ' H' => ∃ F' m' env' st', RelH X.K G F' m' st' H' ∧ RepS X.K G F' m' st'.length env' σ' ∧ PostS X G W D F' m' st' H' (whlN (fun env' st' => (evalE c env' st').bind fun x st1 => Out.of (truth x st1) st1) (fun env' st' => execs body env' st') n env' st'),
      ⟨_, F, m, env, st, r, rs, p⟩, ?_⟩
    rintro n σ' H' ⟨F', m', env', st', r', rs', p'⟩
    cases n with
    | zero => exact p'.elim
    | succ n =>
      simp only [whlN] at p'
      refine ⟨F', m', env', st', r', rs', (PostS.res rs' p').mono fun b F1 m1 st1 H1 e1 r1 q => ?_⟩
      cases b with
      | false =>
        rw [if_neg (by decide)] at q ⊢
        exact q.nx r1 (rs'.ext e1)
      | true =>
        rw [if_pos rfl] at q ⊢
        refine ⟨fun σ' H' => ∃ F' m' env' st', RelH X.K G F' m' st' H' ∧ RepS X.K G F' m' st'.length env' σ' ∧ PostS X G W D F' m' st' H' (whlN (fun env' st' => (evalE c env' st').bind fun x st1 => Out.of (truth x st1) st1) (fun env' st' => execs body env' st') n env' st'),
          fun σ2 H2 z => ⟨n, Nat.lt_succ_self n, z⟩, F1, m1, env', st1, r1, rs'.ext e1, ?_⟩
        cases hbody : execs body env' st1 with
        | nx env3 st3 => rw [hbody] at q; exact fun σ3 F3 m3 H3 e3 r3 rs3 => ⟨F3, m3, env3, st3, r3, rs3, PostS.step q e3⟩
        | ct env3 st3 => rw [hbody] at q; exact fun σ3 F3 m3 H3 e3 r3 rs3 => ⟨F3, m3, env3, st3, r3, rs3, PostS.step q e3⟩
        | bk env3 st3 => rw [hbody] at q; exact q
        | rt v st3 => rw [hbody] at q; exact q
        | ex c xs env3 st3 => rw [hbody] at q; exact q
        | bad => rw [hbody] at q; exact q
  · exact p.elim
theorem p_raise (C : CS X G W) (hca : X.calm = true) {c : PySem.Str} {p pos pos2 : Pos} (hg : Gl X c) (hd : notDbg c = true) (ok : RaiseOk (stat X) c) : PS X (.Raise (some (.Call (.Name c p) [] [] pos)) none pos2) (tS X G W (.raise c)) := by
  obtain ⟨Ca, bmB, B, newId, initId, Fb, q, gC, kC, rz⟩ := ok
  have mk : PMk X (.Call (.Name c p) [] [] pos) (fun _ H Q => Q (.ref Ca) none H) := by
    intro pins s σ H Q I h
    refine wpAny_Call_Name_kw (ld_glob I hg gC (PySem.W.callWith_K0 I.kIn kC ?_) (dbg hd))
    show wpAny _ _ (call (.ref Ca) []) _ _ _
    obtain ⟨bm, Nn, nm, qn, bs, hdct, sn, sub, ab, col, dd, k0, k1, k2, k3, k5, mN, hC, hN, hni, T⟩ := exc_obj I.kIn q
    refine wpAny_call_exc_subT Fb T hC hN hni (fun h' e hm => ?_) (Nat.zero_le _)
    exact mk_of I hm rz h (I.hok.gone hm.new)
  refine PS.imp (ps_raise hca C.c.takes mk) fun D σ H h => ?_
  obtain ⟨F, m, env, st, r, rs, p⟩ := h
  have p : PostS X G W D F m st H (.ex c [] env st) := p
  exact p σ F m H .refl r rs (.ref Ca) none gC ⟨fun _ => rfl, fun z => absurd rfl z⟩
theorem p_raise1 (C : CS X G W) (hca : X.calm = true) (hr : Room 0 X.A) {c f : PySem.Str} {p pos pos2 : Pos} {e : E} {a : PySem.Expr} (hg : Gl X c) (hd : notDbg c = true) (hs : noStar a = true) (ok : ∃ C fI, XR.XTxt X.K X.mg c f C fI) (he : PE X a (tE X G W e)) :
    PS X (.Raise (some (.Call (.Name c p) [a] [] pos)) none pos2) (tS X G W (.raise1 c f e)) := by
  obtain ⟨Ca, fI, T⟩ := ok
  have ha : PA X [a] (tCons (tE X G W e) tNil) := pa_cons he pa_nil (star_of hs)
  refine PS.imp (ps_raise hca C.c.takes (XR.pmk1 T hr ha hg (dbg hd) (star_of hs) (any_of (by rfl)))) fun D σ H h => ?_
  obtain ⟨F, m, env, st, r, rs, q⟩ := h
  refine ⟨F, m, env, st, r, rs, (PostS.res rs q).mono fun v F1 m1 st1 H1 e1 r1 q1 y k => ?_⟩
  refine ⟨y, rfl, fun d hd2 => ?_⟩
  have q1 : PostS X G W D F1 m1 st1 H1 (.ex c [(f, v)] env st1) := q1
  refine q1 σ _ _ _ (Ext.fresh r1 hd2 _) (r1.fresh hd2 _ (by intro _ z; cases z)) ((rs.ext e1).ext (Ext.fresh r1 hd2 _)) (.ref Ca) (some d) T.gC ⟨fun z => (by cases z), fun _ => ⟨d, [(f, y)], rfl, upd_same, fun g w hw => ?_⟩⟩
  by_cases eg : g = f
  · subst eg
    have : w = v := by simpa [List.lookup] using hw.symm
    subst this
    exact ⟨y, by simp [List.lookup], k.mono (Same.upd (r1.fz.free hd2)) (fun _ _ => rfl) (Nat.le_refl _)⟩
  · have eq : (g == f) = false := by simpa using eg
    simp [List.lookup, eq] at hw
theorem p_augix (C : CS X G W) {o i e : E} {op : Bop} {pop : Operator} {xo xi x : PySem.Expr} {tp pos : Pos} (hn : noSlice xi = true) (hm : (match op, pop with | .add, .Add => true | .sub, .Sub => true | .mul, .Mult => true | _, _ => false) = true)
    (ho : PE X xo (tE X G W o)) (hi : PE X xi (tE X G W i)) (he : PE X x (tE X G W e)) : PS X (.AugAssign (.Subscript xo xi tp) pop x pos) (tS X G W (.augix o i op e)) := by
  have go : ∀ {f : Int → Int → Int} {c : Int → Int → Prop}, PIp X pop (fun x y H Q => ∃ i j, x = .int i ∧ y = .int j ∧ c i j ∧ Q (.int (f i j)) H) → (∀ a b z, bop op (.int a) (.int b) = some z → c a b ∧ z = .int (f a b)) → PS X (.AugAssign (.Subscript xo xi tp) pop x pos) (tS X G W (.augix o i op e)) := by
    intro f c hp hf
    refine PS.imp (ps_augS ho hi (get_ix C.c) he hp (set_ix C.c) (by intro _ _ _; cases xi <;> first | rfl | cases hn)) fun D σ H h => ?_
    obtain ⟨F, m, env, st, r, rs, q⟩ := h
    refine ⟨F, m, env, st, r, rs, (PostS.res rs q).mono fun ov F1 m1 st1 H1 e1 r1 q1 yo ko => ?_⟩
    refine ⟨F1, m1, env, st1, r1, rs.ext e1, (PostS.res (rs.ext e1) q1).mono fun iv F2 m2 st2 H2 e2 r2 q2 yi ki => ?_⟩
    obtain ⟨zv, hz, q3⟩ := (PostS.res ((rs.ext e1).ext e2) q2).of r2
    refine ⟨F2, m2, st2, ov, iv, zv, r2, e2.rep ko, ki, hz, fun F3 m3 H3 e3 r3 yz kz => ?_⟩
    have q3 := PostS.step q3 e3
    have rs3 := ((rs.ext e1).ext e2).ext e3
    refine ⟨F3, m3, env, st2, r3, rs3, (PostS.res rs3 q3).mono fun w F4 m4 st4 H4 e4 r4 q4 yw kw => ?_⟩
    obtain ⟨a, rfl⟩ : ∃ a, zv = .int a := by cases zv <;> first | exact ⟨_, rfl⟩ | exact q4.elim
    obtain ⟨b, rfl⟩ : ∃ b, w = .int b := by cases w <;> first | exact ⟨_, rfl⟩ | exact q4.elim
    cases kz; cases kw
    dsimp only at q4
    split at q4
    · rename_i u hu
      obtain ⟨hc, rfl⟩ := hf a b u hu
      refine ⟨a, b, rfl, rfl, hc, ?_⟩
      split at q4
      · rename_i st5 hs
        exact ⟨F4, m4, st4, ov, iv, _, r4, ((e2.trans e3).trans e4).rep ko, (e3.trans e4).rep ki, .int _, st5, hs, fun H' e5 r5 => q4 σ F4 m4 H' e5 r5 ((rs3.ext e4).ext e5)⟩
      · exact q4.elim
    · exact q4.elim
  cases op <;> cases pop <;> simp only at hm <;> first | (exact absurd hm Bool.false_ne_true) | skip
  · exact go (f := fun a b => a + b) (c := fun _ _ => True) (fun pins s σ H x y v u Q I r1 r2 ⟨i, j, e1, e2, _, q⟩ => ip_add pins s σ H x y v u Q I r1 r2 ⟨i, j, e1, e2, q⟩) fun a b z h => ⟨True.intro, by cases h; rfl⟩
  · exact go (f := fun a b => a - b) (c := fun _ _ => True) (fun pins s σ H x y v u Q I r1 r2 ⟨i, j, e1, e2, _, q⟩ => ip_sub pins s σ H x y v u Q I r1 r2 ⟨i, j, e1, e2, q⟩) fun a b z h => ⟨True.intro, by cases h; rfl⟩
  · refine go (f := fun a b => a * b) (c := fun a b => CMulW a b ∨ CMul a b) (fun pins s σ H x y v u Q I r1 r2 ⟨i, j, e1, e2, hc, q⟩ => ?_) fun a b z h => ?_
    · rcases hc with hc | hc
      · subst e1 e2
        obtain ⟨t, rfl⟩ := r1
        obtain ⟨t', rfl⟩ := r2
        exact imul_int ⟨.int _, H, I.tok _, ⟨_, rfl⟩, q⟩ hc.ok
      · exact iop_mul pins s σ H x y v u Q I r1 r2 ⟨i, j, e1, e2, hc, q⟩
    · simp only [bop] at h
      obtain ⟨h1, h2⟩ := ite_some h
      exact ⟨h1, h2.symm⟩
end
end MP
set_option maxHeartbeats 8000000
/-! MPStmt2: three stores at once, a comprehension's list into a name, try; every matched suite keeps its reading. -/
namespace MP
open PySem PyProof.Rows L2
section
variable {X : Cx} {G : GX} {W : WX} {N : List PySem.Str} {sc : Scope} {F F1 H H1 : Hp} {m m1 : Nat → Addr} {st st1 : Store} {D : Ends}
theorem swap3 {x y z : PySem.Str} {px py pz : Pos} {a b c : PySem.Expr} {k k2 : Nat} {pos p2 : Pos} {env : PySem.Env} (hk : env.scope.kind = .function) (hx : env.scope.names.lookup x = some .local) (hy : env.scope.names.lookup y = some .local) (hz : env.scope.names.lookup z = some .local)
   (hl : px.line = py.line) (hl2 : px.line = pz.line) (hxy : x ≠ y) (hxz : x ≠ z) (hyz : y ≠ z) (ha : noStar a = true) (hb : noStar b = true) (hc : noStar c = true) (h1 : ([a, b, c].all (foldedForSure 8)) = false) (h2 : ([a, b, c].all (constantsAlone 8)) = false) :
   swappedStores [.Tuple [.Name x px, .Name y py, .Name z pz] k pos] (.Tuple [a, b, c] k2 p2) env = pure (some [x, y, z]) := by
  have kb : env.blockKind = .function := by unfold Env.blockKind; rw [hk]; rfl
  have kx : env.kindOf x = some .local := hx
  have ky : env.kindOf y = some .local := hy
  have kz : env.kindOf z = some .local := hz
  have sa : ∀ z : PySem.Expr, noStar z = true → (match z with | .Starred .. => true | _ => false) = false := by intro z hz; cases z <;> first | rfl | cases hz
  unfold swappedStores
  simp only [kb, h1, h2]
  simp [List.any_cons, sa a ha, sa b hb, sa c hc, kx, ky, kz, hl, ← hl2, Expr.pos, List.eraseDups_cons]
  have e : (y == x) = false := by simp [Ne.symm hxy]
  have e2 : (z == x) = false := by simp [Ne.symm hxz]
  have e3 : (z == y) = false := by simp [Ne.symm hyz]
  have e1 : ([z] : List PySem.Str).eraseDups = [z] := by simp [List.eraseDups_cons]
  rw [if_neg (fun h => by
    rcases h with h | h | h
    · revert h ha; cases a <;> simp [noStar]
    · revert h hb; cases b <;> simp [noStar]
    · revert h hc; cases c <;> simp [noStar])]
  simp [e, e1, e2, e3, List.filter_cons]
  intro h
  exact absurd (by simp [List.eraseDups_cons, e3]) h
theorem p_par3 (C : CS X G W) (hca : X.calm = true) {i j l : Nat} {x y z : PySem.Str} {px py pz tp pos vp : Pos} {kt k2 : Nat} {a b c : PySem.Expr} {es : Es} (hi : X.N[i]? = some x) (hj : X.N[j]? = some y) (hl : X.N[l]? = some z) (hij : i ≠ j) (hil : i ≠ l) (hjl : j ≠ l)
    (hx : X.env.scope.names.lookup x = some .local) (hy : X.env.scope.names.lookup y = some .local) (hz : X.env.scope.names.lookup z = some .local)
    (hw : swappedStores [.Tuple [.Name x px, .Name y py, .Name z pz] kt tp] (.Tuple [a, b, c] k2 vp) X.env = pure (some [x, y, z])) (ha : PA X [a, b, c] (tA X G W es)) : PS X (.Assign [.Tuple [.Name x px, .Name y py, .Name z pz] kt tp] (.Tuple [a, b, c] k2 vp) pos) (tS X G W (.par [i, j, l] es)) := by
  refine PS.imp (ps_par3 hca C.c.nd hi hj hl hij hil hjl hx hy hz ha hw) fun D σ H h => ?_
  obtain ⟨F, m, env, st, r, rs, p⟩ := h
  refine ⟨F, m, env, st, r, rs, (PostS.res rs p).mono fun vs F1 m1 st1 H1 e1 r1 q ys k => ?_⟩
  match vs, k, q with
  | [u, v, w], .cons k1 (.cons k2 (.cons k3 .nil)), q =>
    simp only [setAll] at q
    exact ⟨_, _, _, rfl, q.nx r1 ((((rs.ext e1).set k1).set k2).set k3)⟩
  | [], k, q => exact q.elim
  | [_], k, q => exact q.elim
  | [_, _], k, q => exact q.elim
  | _ :: _ :: _ :: _ :: _, k, q => exact q.elim
/-! ### try -/
inductive HsL (X : Cx) (G : GX) : Hs → List (Value × (Addr → Value → Option Addr → TS)) → Prop
  | nil : HsL X G .nil []
  | cons {c : PySem.Str} {mt : List (PySem.Str × Bool)} {b : Ss} {hs : Hs} {C : Value} {l : List (Value × (Addr → Value → Option Addr → TS))} : X.mg c = some C → (∀ d b, mt.lookup d = some b → ∃ D, X.mg d = some D ∧ PySem.W.exmOne X.K D C = some b) → HsL X G hs l →
      HsL X G (.cons c mt b hs) ((C, fun _ _ _ => tSs X G W0 b) :: l)
theorem many_of {hs : Hs} {l : List (Value × (Addr → Value → Option Addr → TS))} (h : HsL X G hs l) {env : Env} {σ : L2.St} (r : RelH X.K G F m st H) (rs : RepS X.K G F m st.length env σ) {c : PySem.Str} {xs : List (PySem.Str × Val)} {C : Value} {d : Option Addr} (hc : X.mg c = some C) (hx : XArgs X.K G F m st.length H xs d)
    (p : PostS X G W D F m st H (execH hs c xs env st)) : wMany X.K W D l C d σ H := by
  induction h with
  | nil =>
    have p : PostS X G W D F m st H (.ex c xs env st) := p
    exact p σ F m H .refl r rs C d hc hx
  | @cons c' mt b hs C' l h1 h2 h3 ih =>
    simp only [execH] at p
    cases hm : mt.lookup c with
    | none => simp only [hm] at p; exact p.elim
    | some t =>
      obtain ⟨C2, g1, g2⟩ := h2 c t hm
      rw [hc] at g1; cases g1
      simp only [hm] at p
      refine ⟨t, g2, fun ht a ha => ?_, fun ht => ?_⟩
      · subst ht
        refine ⟨F, m, env, st, r, rs, ?_⟩
        dsimp only at p
        cases hq : execs b env st with
        | nx env' st' => rw [hq] at p; exact p
        | rt v st' => rw [hq] at p; exact p
        | bk env' st' => rw [hq] at p; exact p
        | ct env' st' => rw [hq] at p; exact p
        | ex c xs env' st' => rw [hq] at p; exact p.elim
        | bad => rw [hq] at p; exact p.elim
      · subst ht
        exact ih p
theorem p_try (C : CS X G W) {b : Ss} {hs : Hs} {l : List (Value × (Addr → Value → Option Addr → TS))} {xb : List PySem.Stmt} {x₀ : ExceptHandler} {xh : List ExceptHandler} {pos : Pos} (hl : HsL X G hs l)
    (hb : ∀ (W' : WX) (pn : List (Addr × Obj)) (xe : Value → Shared → Prop), CS (X.tr pn xe) G W' → PSs (X.tr pn xe) xb (tSs X G W' b)) (hh : HdsOk X (x₀ :: xh) l) : PS X (.Try xb (x₀ :: xh) [] [] pos) (tS X G W (.tryS b hs)) := by
  refine PS.imp (ps_try_many (tb := fun W' => tSs X G W' b) C.stk C.frm C.c.takes (fun W' pn xe tk ow => hb W' pn xe ⟨⟨tk, C.c.nd, C.c.units, C.c.gf, C.c.bl⟩, C.fn, ow, C.stk, C.frm⟩) hh) fun D σ H h => ?_
  obtain ⟨F, m, env, st, r, rs, p⟩ := h
  refine ⟨F, m, env, st, r, rs, ?_⟩
  simp only [exec] at p
  cases hq : execs b env st with
  | nx env' st' => rw [hq] at p; exact p
  | rt v st' => rw [hq] at p; exact p
  | bk env' st' => rw [hq] at p; exact p
  | ct env' st' => rw [hq] at p; exact p
  | bad => rw [hq] at p; exact p
  | ex c xs env' st' =>
    rw [hq] at p
    intro σ' F' m' H' e' r' rs' C' d hc hx
    exact many_of hl r' rs' hc hx (PostS.step p e')
/-- a comprehension's list, straight into the name -/
theorem p_asgc (C : CS X G W) {v : Lv} (A : AtL X G W N sc v) {i : Nat} {y : PySem.Str} {e : E} {x : PySem.Expr} {py pos : Pos} (hl : locB N sc i y = true) (hm : mE N sc e x = true) (ok : okE (stat X) G v e)
    (hx : lcX sc y py x = true) : PS X (.Assign [.Name y py] x pos) (tS X G W (.asg i e)) := by
  obtain ⟨hi, hloc⟩ := locB_of A.toAt hl
  have he := (sE e C.c A x hm ok).pe
  cases hn : noCompX x with
  | true => exact p_asg C hi hloc hn he
  | false =>
    cases x
    case ListComp elt gs scope p =>
      have hx2 : (lcSwap sc y py scope p || lcNo sc y py scope p) = true := hx
      clear hx
      rcases (Bool.or_eq_true _ _).mp hx2 with hx | hx
      · simp only [lcSwap, Bool.and_eq_true, Bool.not_eq_true'] at hx
        have hyl : X.env.scope.names.lookup y = some .local := by rw [A.s]; exact of_decide_eq_true hx.1.1.2
        have hk : X.env.scope.kind = .function := by rw [A.s]; exact of_decide_eq_true hx.2
        have go : ∀ (n : Nw), mN N sc n (.ListComp elt gs scope p) = true → okN (stat X) G v n → (∀ σ H Q, tE X G W e σ H Q → tN X G W n σ H Q) → PS X (.Assign [.Name y py] (.ListComp elt gs scope p) pos) (tS X G W (.asg i e)) := by
          intro n hmn okn himp
          cases n with
          | lst es => simp [mN] at hmn
          | dct t => simp [mN] at hmn
          | dct1 a b => simp [mN] at hmn
          | ls a => simp [mN] at hmn
          | cat a b => simp [mN] at hmn
          | rep a b => simp [mN] at hmn
          | dcomp a b c d e f => simp [mN] at hmn
          | comp e' t it c own =>
            simp only [mN] at hmn
            split at hmn
            · simp only [Bool.and_eq_true] at hmn
              obtain ⟨⟨⟨⟨⟨⟨h1, h2⟩, h3⟩, h4⟩, h5⟩, h6⟩, h7⟩ := hmn
              have hv : ∀ i, i ∈ tgtSlots t → i ∈ own.map (·.2) := fun i hi => by
                have z := List.all_eq_true.mp h4 i hi
                simpa using z
              refine PS.imp (ps_setLc (A.R.calm okn.1) C.c.nd hi hyl (sw_true hk hyl hx.1.1.1 hx.1.2) (sIt it C.c A _ _ h1 okn.2.2.1) (by rw [A.n, A.s]; exact blkOk_by h3) (fun s H Ca cl fp => ?_) (fun s H Ca cl fp => ?_) (fun s H Ca cl fp => ?_) (set_of h2)) fun D σ H h => asg_of (fun σ H Q q => comp_ok t c e' _ hv rfl (himp σ H Q q)) h
              · exact pg_T (G := G) (ck := false) (X := X.blk s H _ (compEnvC _ cl Ca X.env) fp) (A.R.calm okn.1) C.c.nd (A.blk s H Ca cl fp).toAt (fun z => by cases z) t _ h5
              · exact sC c (C.c.blk s H scope _ fp) (A.blk s H Ca cl fp) _ h6 okn.2.2.2
              · exact (sE e' (C.c.blk s H scope _ fp) (A.blk s H Ca cl fp) _ h7 okn.2.1).pe
            · cases hmn
        cases e with
        | val n => exact go n (by simpa only [mE] using hm) ok fun σ H Q q => val_of q
        | cell n => exact go n (by simpa only [mE] using hm) ok fun σ H Q q => cell_of q
        | _ => simp [mE, plainB] at hm
      · exact PS.imp (ps_set C.c.nd hi hloc he (sw_false A.s hx) (.inl (C.fn y))) fun D σ H h => asg_of (fun _ _ _ q => q) h
    case DictComp ke elt gs scope p => exact PS.imp (ps_set C.c.nd hi hloc he (sw_falseD A.s hx) (.inl (C.fn y))) fun D σ H h => asg_of (fun _ _ _ q => q) h
    all_goals first
      | (exfalso; simp [noCompX] at hn; done)
      | (exfalso; simp [lcX, noCompX] at hx; done)
end
end MP
set_option maxHeartbeats 8000000
/-! MPStmt3: every matched suite keeps its reading. -/
namespace MP
open PySem PyProof.Rows L2
section
variable {G : GX}
theorem CS.suite {X : Cx} {W : WX} (C : CS X G W) (a : Addr) (pn : List (Addr × Obj)) : CS (X.suite a pn) G W0 :=
  ⟨⟨takes0, C.c.nd, C.c.units, C.c.gf, C.c.bl⟩, C.fn, PassesOwn.never, C.stk, C.frm⟩
theorem RmS.suite {X : Cx} {v : Lv} (R : RmS X G v) (a : Addr) (pn : List (Addr × Obj)) : RmS (X.suite a pn) G v.sui :=
  ⟨(fun z => by cases z), R.gd, (fun z => by cases z), (fun z => by cases z), (fun _ _ _ z => by cases z), (fun _ _ _ z => by cases z)⟩
theorem RmS.tr {X : Cx} {v : Lv} (R : RmS X G v) (pn : List (Addr × Obj)) (xe : Value → Shared → Prop) : RmS (X.tr pn xe) G v.nox :=
  ⟨R.room, R.gd, R.lam, R.calm, (fun i w th h pn' xe' W' tk y p1 p2 pos hy => R.thk i w th h pn' xe' W' tk y p1 p2 pos hy), (fun _ _ _ z => by cases z)⟩
mutual
theorem sS : ∀ (s : S) {X : Cx} {W : WX} {N : List PySem.Str} {sc : Scope} {v : Lv} (C : CS X G W) (A : At X N sc) (R : RmS X G v) (x : PySem.Stmt), mS N sc s x = true → okS (stat X) G v s → PS X x (tS X G W s)
  | .asg i e, X, W, N, sc, v, C, A, R, x, h, ok => by
    cases x with
    | Assign ts x pos =>
      simp only [mS] at h
      split at h
      · simp only [Bool.and_eq_true] at h
        exact p_asgc C ⟨A, R.g C⟩ h.1.1 h.1.2 ok h.2
      · cases h
    | _ => simp [mS] at h
  | .par is es, X, W, N, sc, v, C, A, R, x, h, ok => by
    cases x with
    | Assign ts x pos =>
      simp only [mS] at h
      split at h
      · split at h
        · rename_i i j x px y py
          simp only [Bool.and_eq_true] at h
          obtain ⟨⟨⟨⟨h1, h2⟩, h3⟩, h4⟩, h5⟩ := h
          rename_i vs _ _
          unfold swapB at h1
          split at h1
          · rename_i x' px' y' py' a b e1 
            simp only [Bool.and_eq_true, Bool.not_eq_true', decide_eq_true_eq, beq_iff_eq, beq_eq_false_iff_ne] at h1
            obtain ⟨⟨⟨⟨⟨⟨⟨⟨g1, g2⟩, g3⟩, g4⟩, g5⟩, g6⟩, g7⟩, g8⟩, g9⟩ := h1
            cases e1
            have hij : i ≠ j := by simpa using h4
            exact p_par C (R.calm ok.1) (A.ix h2) (A.ix h3) hij (by rw [A.s]; exact g4) (by rw [A.s]; exact g5) (swap2 (by rw [A.s]; exact g1) (by rw [A.s]; exact g4) (by rw [A.s]; exact g5) g6 g7 g2 g3 g8 g9) (sA es C.c ⟨A, R.g C⟩ _ h5 ok.2)
          · cases h1
        · rename_i i j l x px y py z pz
          simp only [Bool.and_eq_true] at h
          obtain ⟨⟨⟨⟨⟨⟨⟨h1, h2⟩, h3⟩, h4⟩, h5⟩, h6⟩, h7⟩, h8⟩ := h
          rename_i vs _ _
          unfold swap3B at h1
          split at h1
          · rename_i x' px' y' py' z' pz' a b c e1
            simp only [Bool.and_eq_true, Bool.not_eq_true', decide_eq_true_eq, beq_iff_eq, beq_eq_false_iff_ne] at h1
            obtain ⟨⟨⟨⟨⟨⟨⟨⟨⟨⟨⟨⟨⟨g1, g2⟩, g3⟩, g4⟩, g5⟩, g6⟩, g7⟩, g8⟩, g9⟩, g10⟩, g11⟩, g12⟩, g13⟩, g14⟩ := h1
            cases e1
            have hij : i ≠ j := by simpa using h5
            have hil : i ≠ l := by simpa using h6
            have hjl : j ≠ l := by simpa using h7
            exact p_par3 C (R.calm ok.1) (A.ix h2) (A.ix h3) (A.ix h4) hij hil hjl (by rw [A.s]; exact g5) (by rw [A.s]; exact g6) (by rw [A.s]; exact g7) (swap3 (by rw [A.s]; exact g1) (by rw [A.s]; exact g5) (by rw [A.s]; exact g6) (by rw [A.s]; exact g7) g8 g9 g10 g11 g12 g2 g3 g4 g13 g14) (sA es C.c ⟨A, R.g C⟩ _ h8 ok.2)
          · cases h1
        · cases h
      · cases h
    | _ => simp [mS] at h
  | .unp t e, X, W, N, sc, v, C, A, R, x, h, ok => by
    cases x with
    | Assign ts x pos =>
      simp only [mS] at h
      split at h
      · simp only [Bool.and_eq_true] at h
        exact p_unp C (R.calm ok.1) A h.1.1.1 h.1.2 h.2 (sE e C.c ⟨A, R.g C⟩ _ h.1.1.2 ok.2).pe
      · cases h
    | _ => simp [mS] at h
  | .setix o i e, X, W, N, sc, v, C, A, R, x, h, ok => by
    cases x with
    | Assign ts x pos =>
      simp only [mS] at h
      split at h
      · simp only [Bool.and_eq_true] at h
        exact p_setix C h.1.2 (sE o C.c ⟨A, R.g C⟩ _ h.1.1.1 ok.1).pe (sE i C.c ⟨A, R.g C⟩ _ h.1.1.2 ok.2.1).pe (sE e C.c ⟨A, R.g C⟩ _ h.2 ok.2.2).pe
      · cases h
    | _ => simp [mS] at h
  | .aug i op e, X, W, N, sc, v, C, A, R, x, h, ok => by
    cases x with
    | AugAssign t pop x pos =>
      simp only [mS] at h
      split at h
      · simp only [Bool.and_eq_true] at h
        obtain ⟨hi, hl⟩ := locB_of A h.1.1
        exact p_aug C hi hl h.1.2 (sE e C.c ⟨A, R.g C⟩ _ h.2 ok).pe
      · cases h
    | _ => simp [mS] at h
  | .expr e, X, W, N, sc, v, C, A, R, x, h, ok => by
    cases x with
    | Expr x pos =>
      simp only [mS, Bool.and_eq_true] at h
      exact p_expr h.2 (sE e C.c ⟨A, R.g C⟩ _ h.1 ok).pe
    | _ => simp [mS] at h
  | .ret e, X, W, N, sc, v, C, A, R, x, h, ok => by
    cases x with
    | Return x pos =>
      simp only [mS] at h
      split at h
      · exact p_ret (sE e C.c ⟨A, R.g C⟩ _ h ok).pe
      · cases h
    | _ => simp [mS] at h
  | .retn, X, W, N, sc, v, C, A, R, x, h, ok => by
    cases x with
    | Return x pos =>
      cases x with
      | none => exact p_retn
      | some x => simp [mS] at h
    | _ => simp [mS] at h
  | .ite c a b, X, W, N, sc, v, C, A, R, x, h, ok => by
    cases x with
    | If xc xa xb pos =>
      simp only [mS, Bool.and_eq_true] at h
      exact p_ite (sE c C.c ⟨A, R.g C⟩ _ h.1.1 ok.1).pt (sSs a C A R _ h.1.2 ok.2.1) (sSs b C A R _ h.2 ok.2.2)
    | _ => simp [mS] at h
  | .loop t it body, X, W, N, sc, v, C, A, R, x, h, ok => by
    cases x with
    | For tg x xb xe pos =>
      simp only [mS, Bool.and_eq_true, List.isEmpty_iff] at h
      obtain ⟨⟨⟨⟨h1, h2⟩, h3⟩, h4⟩, rfl⟩ := h
      exact p_loop C (R.calm ok.1) A h1 h3 (sIt it C.c ⟨A, R.g C⟩ _ _ h2 ok.2.1) (sSs body C A R _ h4 ok.2.2)
    | _ => simp [mS] at h
  | .whl c body, X, W, N, sc, v, C, A, R, x, h, ok => by
    cases x with
    | While xc xb xe pos =>
      simp only [mS, Bool.and_eq_true, List.isEmpty_iff] at h
      obtain ⟨⟨h1, h2⟩, rfl⟩ := h
      exact p_whl C (sE c C.c ⟨A, R.g C⟩ _ h1 ok.1).pt (sSs body C A R _ h2 ok.2)
    | _ => simp [mS] at h
  | .brk, X, W, N, sc, v, C, A, R, x, h, ok => by
    cases x with
    | Break pos => exact p_brk
    | _ => simp [mS] at h
  | .cnt, X, W, N, sc, v, C, A, R, x, h, ok => by
    cases x with
    | Continue pos => exact p_cnt
    | _ => simp [mS] at h
  | .pass, X, W, N, sc, v, C, A, R, x, h, ok => by
    cases x with
    | Pass pos => exact p_pass
    | _ => simp [mS] at h
  | .raise c, X, W, N, sc, v, C, A, R, x, h, ok => by
    cases x with
    | Raise x y pos =>
      simp only [mS] at h
      split at h
      · simp only [Bool.and_eq_true] at h
        have e := eq_of_beq h.1.1
        subst e
        exact p_raise C (R.calm ok.1) (A.gl h.1.2) h.2 ok.2
      · cases h
    | _ => simp [mS] at h
  | .raise1 c f e, X, W, N, sc, v, C, A, R, x, h, ok => by
    cases x with
    | Raise x y pos =>
      simp only [mS] at h
      split at h
      · simp only [Bool.and_eq_true] at h
        have e1 := eq_of_beq h.1.1.1.1
        subst e1
        exact p_raise1 C (R.calm ok.1) ((R.room ok.1).mono (Nat.zero_le _)) (A.gl h.1.1.1.2) h.1.1.2 h.1.2 ok.2.1 (sE e C.c ⟨A, R.g C⟩ _ h.2 ok.2.2).pe
      · cases h
    | _ => simp [mS] at h
  | .augix o i op e, X, W, N, sc, v, C, A, R, x, h, ok => by
    cases x with
    | AugAssign t pop x pos =>
      simp only [mS] at h
      split at h
      · simp only [Bool.and_eq_true] at h
        exact p_augix C h.1.1.2 h.1.2 (sE o C.c ⟨A, R.g C⟩ _ h.1.1.1.1 ok.1).pe (sE i C.c ⟨A, R.g C⟩ _ h.1.1.1.2 ok.2.1).pe (sE e C.c ⟨A, R.g C⟩ _ h.2 ok.2.2).pe
      · cases h
    | _ => simp [mS] at h
  | .frz i, X, W, N, sc, v, C, A, R, x, h, ok => by cases x <;> simp [mS] at h
  | .thk i w th, X, W, N, sc, v, C, A, R, x, h, ok => by
    cases x with
    | Expr x pos =>
      simp only [mS] at h
      split at h
      · exact R.thk i w th ok X.pn X.xe W C.c.takes _ _ _ _ (A.ix h)
      · cases h
    | _ => simp [mS] at h
  | .any, X, W, N, sc, v, C, A, R, x, h, ok => ⟨fun pins s σ H D I ⟨_, _, _, _, _, _, p⟩ => p.elim⟩
  | .tryS b hs, X, W, N, sc, v, C, A, R, x, h, ok => by
    cases x with
    | Try xb xh xe xf pos =>
      simp only [mS, Bool.and_eq_true, List.isEmpty_iff, Bool.not_eq_true'] at h
      obtain ⟨⟨⟨⟨h1, h2⟩, h3⟩, rfl⟩, rfl⟩ := h
      obtain ⟨l, hl, hh⟩ := sHs hs C A R xh h2 ok.2.2
      cases xh with
      | nil => cases h3
      | cons x₀ xh =>
        exact p_try C hl (fun W' pn xe C' => sSs b (X := X.tr pn xe) C' ⟨A.n, A.s⟩ (R.tr pn xe) xb h1 ok.2.1) hh
    | _ => simp [mS] at h
theorem sHs : ∀ (hs : Hs) {X : Cx} {W : WX} {N : List PySem.Str} {sc : Scope} {v : Lv} (C : CS X G W) (A : At X N sc) (R : RmS X G v) (xh : List ExceptHandler), mHs N sc hs xh = true → okHs (stat X) G v hs → ∃ l, HsL X G hs l ∧ HdsOk X xh l
  | .nil, X, W, N, sc, v, C, A, R, xh, h, ok => by
    cases xh with
    | nil => exact ⟨[], .nil, .nil⟩
    | cons x xh => simp [mHs] at h
  | .cons c mt b hs, X, W, N, sc, v, C, A, R, xh, h, ok => by
    cases xh with
    | nil => simp [mHs] at h
    | cons x xh =>
      simp only [mHs, Bool.and_eq_true] at h
      obtain ⟨h1, h2⟩ := h
      split at h1
      · rename_i z np xb pos
        simp only [Bool.and_eq_true, Bool.not_eq_true'] at h1
        obtain ⟨⟨⟨⟨g1, g2⟩, g3⟩, g4⟩, g5⟩ := h1
        have e := eq_of_beq g1
        subst e
        obtain ⟨⟨Cv, k1, k2⟩, o2, o3⟩ := ok
        obtain ⟨l, hl, hh⟩ := sHs hs C A R xh h2 o3
        cases xb with
        | nil => cases g5
        | cons b₀ suite =>
          exact ⟨_, .cons k1 k2 hl, .cons ⟨A.gl g2, dbg g3, .inl k1⟩ (fun a oe cls d pn _ _ => sSs b (X := X.suite a ((a, oe) :: pn)) (C.suite a _) ⟨A.n, A.s⟩ (R.suite a _) _ g4 o2) hh⟩
      · cases h1
theorem sSs : ∀ (ss : Ss) {X : Cx} {W : WX} {N : List PySem.Str} {sc : Scope} {v : Lv} (C : CS X G W) (A : At X N sc) (R : RmS X G v) (xs : List PySem.Stmt), mSs N sc ss xs = true → okSs (stat X) G v ss → PSs X xs (tSs X G W ss)
  | .nil, X, W, N, sc, v, C, A, R, xs, h, ok => by
    cases xs with
    | nil => exact p_nil
    | cons x xs => simp [mSs] at h
  | .cons s ss, X, W, N, sc, v, C, A, R, xs, h, ok => by
    by_cases hf : ∃ i, s = .frz i
    · obtain ⟨i, rfl⟩ := hf
      simp only [mSs] at h
      exact p_frz (sSs ss C A R xs h ok.2)
    · have go : ∀ x xs, mS N sc s x = true → mSs N sc ss xs = true → PSs X (x :: xs) (tSs X G W (.cons s ss)) := fun x xs h1 h2 => p_cons (sS s C A R x h1 ok.1) (sSs ss C A R xs h2 ok.2)
      have h2 : ∃ x xs', xs = x :: xs' ∧ mS N sc s x = true ∧ mSs N sc ss xs' = true := by
        cases xs with
        | nil => cases s <;> first | (exact absurd ⟨_, rfl⟩ hf) | (simp [mSs] at h)
        | cons x xs' =>
          refine ⟨x, xs', rfl, ?_⟩
          cases s <;> first | (exact absurd ⟨_, rfl⟩ hf) | (simp only [mSs, Bool.and_eq_true] at h; exact h)
      obtain ⟨x, xs', rfl, h1, h2⟩ := h2
      exact go x xs' h1 h2
end
end
end MP
set_option maxHeartbeats 8000000
/-! MPFun: a matched def keeps the promise of its meaning. -/
namespace MP
open PySem PyProof.Rows L2
section
variable {K : PySem.W.Frag} {G : GX} {F F' F0 H H' : Hp} {m m' m0 : Nat → Addr} {L L0 : Nat} {st st' : Store}
mutual
/-- a value whose cells all stood before needs no later ones -/
theorem Rep.shrink : ∀ {v : Val} {y y0 : V}, Rep K G F m L v y → Rep K G F0 m0 L0 v y0 → Rep K G F m L0 v y
  | _, _, _, .non, _ => .non
  | _, _, _, .bl b, _ => .bl b
  | _, _, _, .int i, _ => .int i
  | _, _, _, .str x, _ => .str x
  | _, _, _, .tup h r, .tup _ r0 => .tup h (Reps.shrink r r0)
  | _, _, _, .lst h r, .lst _ r0 => .lst h (Reps.shrink r r0)
  | _, _, _, .slst h, _ => .slst h
  | _, _, _, .dK h r, .dK _ r0 => .dK h (RepK.shrink r r0)
  | _, _, _, .dT h r, .dT _ r0 => .dT h (RepT.shrink r r0)
  | _, _, _, .ref _ q, .ref h0 _ => .ref h0 q
  | _, _, _, .fn h, _ => .fn h
  | _, _, _, .ty n, _ => .ty n
  | _, _, _, .opq h1 h2 _, .opq _ _ h3 => .opq h1 h2 h3
theorem Reps.shrink : ∀ {v : List Val} {y y0 : List V}, Reps K G F m L v y → Reps K G F0 m0 L0 v y0 → Reps K G F m L0 v y
  | _, _, _, .nil, _ => .nil
  | _, _, _, .cons r t, .cons r0 t0 => .cons (Rep.shrink r r0) (Reps.shrink t t0)
theorem RepK.shrink : ∀ {v : List (L2.Key × Val)} {y y0 : List (L2.Key × V)}, RepK K G F m L v y → RepK K G F0 m0 L0 v y0 → RepK K G F m L0 v y
  | _, _, _, .nil, _ => .nil
  | _, _, _, .cons r t, .cons r0 t0 => .cons (Rep.shrink r r0) (RepK.shrink t t0)
theorem RepT.shrink : ∀ {v : List (List L2.Key × Val)} {y y0 : List (List L2.Key × V)}, RepT K G F m L v y → RepT K G F0 m0 L0 v y0 → RepT K G F m L0 v y
  | _, _, _, .nil, _ => .nil
  | _, _, _, .cons r t, .cons r0 t0 => .cons (Rep.shrink r r0) (RepT.shrink t t0)
end
theorem CellAt.shrink {a a0 : Addr} {H0 : Hp} {c : Cell} (h : CellAt K G F m L H a c) (h0 : CellAt K G F0 m0 L0 H0 a0 c) : CellAt K G F m L0 H a c := by
  cases c with
  | dead => exact True.intro
  | lst xs => obtain ⟨ys, q, r⟩ := h; obtain ⟨ys0, _, r0⟩ := h0; exact ⟨ys, q, r.shrink r0⟩
  | dK xs => obtain ⟨ys, q, r⟩ := h; obtain ⟨ys0, _, r0⟩ := h0; exact ⟨ys, q, r.shrink r0⟩
  | dT xs => obtain ⟨ys, q, r⟩ := h; obtain ⟨ys0, _, r0⟩ := h0; exact ⟨ys, q, r.shrink r0⟩
/-- cells are dropped behind a def -/
theorem pop_of (r0 : RelH K G F m st H) {v : Option Val} (e : Ext F m st H F' m' st' H') (r : RelH K G F' m' st' H') :
    Ext F m st H F' m' (popTo st st' v) H' ∧ RelH K G F' m' (popTo st st' v) H' ∧ ∀ w, v = some w → ∀ y, Rep K G F' m' st'.length w y → Rep K G F' m' (popTo st st' v).length w y := by
  unfold popTo
  split
  · rename_i hp
    obtain ⟨h1, h2⟩ := hp
    have lt : (st'.take st.length).length = st.length := by rw [List.length_take]; have := e.len; omega
    refine ⟨⟨e.same, by rw [lt]; exact Nat.le_refl _, e.mm, fun n hn l => e.lv n hn (live_take l).1, fun n hn l => absurd (live_take l).2 (Nat.not_lt.mpr hn), e.keep, e.there, e.fnew⟩, ?_, fun w hw y q => q.noref (Same.refl _) (h1 w hw)⟩
    refine ⟨r.fz, fun n c hn => ?_, fun i j hi hj => r.inj i j (live_take hi).1 (live_take hj).1, fun n l => r.off n (live_take l).1, r.nt, r.tb⟩
    have hlt : n < st.length := by
      have := (List.getElem?_eq_some_iff.mp hn).1
      omega
    rw [List.getElem?_take_of_lt hlt] at hn
    have q := r.cell n c hn
    rw [lt]
    rcases h2 n c hlt hn with z | z
    · exact q.shrink (r0.cell n c z)
    · exact q.noref (Same.refl _) z rfl
  · exact ⟨e, r, fun _ _ _ q => q⟩
theorem noref_lookup {f : PySem.Str} {v : Val} : ∀ {xs : List (PySem.Str × Val)}, xs.lookup f = some v → noRefs (xs.map (·.2)) = true → noRef v = true
  | [], h, _ => by cases h
  | (g, w) :: xs, h, q => by
    simp only [List.map_cons, noRefs, Bool.and_eq_true] at q
    rw [List.lookup_cons] at h
    split at h
    · cases h; exact q.1
    · exact noref_lookup h q.2
end
/-- what all contexts of a program share -/
structure TOk (T : Stat) (G : GX) : Prop where
  gf : ∀ x a, G.f x = some a → T.mg x = some (.ref a)
  bl : ∀ b, b ∈ bltNames → T.mg b = none
/-- .. of a def that makes lambdas: its code object, its table -/
def LamF (T : Stat) (G : GX) (qual : PySem.Str) (fd : FuncData) : Prop :=
  ∃ c P, fd.code = .ref c ∧ LamX.TabB T.base T.mg c P ∧ (P, (qual ++ ".<locals>.") ++ "<lambda>") ∈ G.T ∧ ∀ p ∈ G.T, p.1 = P → p.2 = (qual ++ ".<locals>.") ++ "<lambda>"
section
variable {T : Stat} {G : GX}
theorem reps_start {F : Hp} {m : Nat → Addr} {L : Nat} {args : List Val} {vs : List V} {N : List PySem.Str} (h : Reps T.K G F m L args vs) (hl : args.length ≤ N.length) : RepS T.K G F m L (args.map some ++ List.replicate (N.length - args.length) none) (L2.start N vs) := by
  have hlen := h.length
  refine ⟨?_, fun i v q => ?_⟩
  · unfold L2.start
    simp [hlen]
  · by_cases hi : i < args.length
    · rw [List.getElem?_append_left (by simpa using hi), List.getElem?_map] at q
      cases e : args[i]? with
      | none => rw [e] at q; cases q
      | some a =>
        rw [e] at q; cases q
        obtain ⟨y, h1, h2⟩ := h.get e
        refine ⟨y, ?_, h2⟩
        unfold L2.start
        rw [List.getElem?_append_left (by simpa [← hlen] using hi), List.getElem?_map, h1]; rfl
    · rw [List.getElem?_append_right (by simpa using hi)] at q
      rw [List.getElem?_replicate] at q
      split at q <;> cases q
theorem fn_ok (TK : TOk T G) {v : Lv} {x qual : PySem.Str} {params : Arguments} {body : List PySem.Stmt} {scope : Scope} {f : Addr} {fd : FuncData} {N ps : List PySem.Str} (b : Ss) (F : FunD T.K x qual params body scope [] [] f fd) (S : FnScope N ps scope)
    (hm : mSs N scope b body = true) (ok : okSs T G v b) (hc : v.c = true) (ht : v.t = none ∧ v.x = none) (hl : v.l = true → LamF T G qual fd) : FnG T v.g (v.k + 1) f fd ps (spOf T.K T.mg G (runFn ps.length N.length b)) := by
  obtain ⟨oc, od, dV, kV, doc, pm, an, cdv, ct, osl, rfl, lk, hcd, _, _⟩ := F.ex
  have npl : ps.length ≤ N.length := by have := congrArg List.length S.pre; rw [List.length_take] at this; omega
  have lenA : ∀ {F m st H E} {R : Val → RT} {args : List Val}, PostG T.K G E R F m st H (runFn ps.length N.length b args st) → args.length = ps.length := by
    intro F m st H E R args p
    unfold runFn at p
    split at p
    · assumption
    · exact p.elim
  refine ⟨fun vs H Q E h => ?_, fun A outer s H args us vs Q E hr hg e0 hb r h => ?_⟩
  · obtain ⟨F, m, st, args, r, rs, p⟩ := h
    rw [← rs.length]; exact lenA p
  · have hl' : vs.length = ps.length := by
      obtain ⟨F, m, st, args, r, rs, p⟩ := h
      rw [← rs.length]; exact lenA p
    refine LamX.run_ofS (N := N) (ps := ps) lk hcd S hr e0 hb r hl' fun hr' => ?_
    have C : CS (cxOf (L2.CX T.prog T.w) T.prog T.w T.K T.mg T.base N qual scope f cdv A outer s H E) G (WofE E) :=
      ⟨⟨takes_of rfl rfl rfl rfl, S.nd, by have := hr'.un; show (A.deeper (envOfC qual scope s.heap.objs.size f cdv)).units + 70 < cLine; omega, TK.gf, TK.bl⟩, fun _ => rfl, passes_of rfl, rfl, rfl⟩
    have R : RmS (cxOf (L2.CX T.prog T.w) T.prog T.w T.K T.mg T.base N qual scope f cdv A outer s H E) G v :=
      ⟨fun _ => hr', hg, fun z => by
        obtain ⟨c, P, h1, h2, h3, h4⟩ := hl z
        exact ⟨c, P, h2, h1, h3, h4⟩, fun _ => rfl, (fun i w th z => by rw [ht.1] at z; cases z), (fun i w tb z => by rw [ht.2] at z; cases z)⟩
    refine ⟨_, sSs b C ⟨rfl, rfl⟩ R body hm ok, ?_⟩
    obtain ⟨F0, m, st, as, r0, rs, p⟩ := h
    have la := lenA p
    refine ⟨F0, m, _, st, r0, reps_start rs (by rw [la]; exact npl), ?_⟩
    unfold runFn at p
    rw [if_pos la] at p
    rw [la]
    cases hx : execs b (as.map some ++ List.replicate (N.length - ps.length) none) st with
    | nx env' st' =>
      rw [hx] at p
      intro σ' F' m' H' e' r' rs'
      obtain ⟨z1, z2, _⟩ := pop_of (v := none) r0 e' r'
      exact p F' m' H' z1 z2 _ .non
    | rt w st' =>
      rw [hx] at p
      intro y F' m' H' e' r' k
      obtain ⟨z1, z2, z3⟩ := pop_of (v := some w) r0 e' r'
      exact p F' m' H' z1 z2 y (z3 w rfl y k)
    | ex c xs env' st' =>
      rw [hx] at p
      intro σ' F' m' H' e' r' rs' Cc d hC hX
      obtain ⟨z1, z2, z3⟩ := pop_of (v := some (.tup (xs.map (·.2)))) r0 e' r'
      refine p F' m' H' z1 z2 Cc d hC ⟨hX.1, fun hne => ?_⟩
      obtain ⟨dd, fs, q1, q2, q3⟩ := hX.2 hne
      refine ⟨dd, fs, q1, q2, fun f w hf => ?_⟩
      obtain ⟨y, g1, g2⟩ := q3 f w hf
      refine ⟨y, g1, ?_⟩
      unfold popTo
      split
      · rename_i hp
        have hn := hp.1 _ rfl
        simp only [noRef] at hn
        exact g2.noref (Same.refl _) (noref_lookup hf hn)
      · exact g2
    | bk env' st' => rw [hx] at p; exact p.elim
    | ct env' st' => rw [hx] at p; exact p.elim
    | bad => rw [hx] at p; exact p.elim
/-- .. and may be called by whoever has room -/
theorem call_ok (TK : TOk T G) {v v' : Lv} {x : PySem.Str} {params : Arguments} {body : List PySem.Stmt} {scope : Scope} {N ps : List PySem.Str} (b : Ss) (hf : ∃ f fd, T.mg x = some (.ref f) ∧ FunD T.K x x params body scope [] [] f fd ∧ (v.l = true → LamF T G x fd)) (S : FnScope N ps scope)
    (hm : mSs N scope b body = true) (ok : okSs T G v b) (hc : v.c = true) (ht : v.t = none ∧ v.x = none) (hb : ∀ (kV doc pm : Value) (an : Option Addr) (cdv ct : Value) (us : List Value), us.length = ps.length → bindArgs (PySem.W.fnOf x x params body scope .none kV doc pm an cdv ct) ⟨us, []⟩ = pure (ps.zip us))
    (hk : v.k + 1 ≤ v'.k) (hg : v.g = true → v'.g = true) : CallOk T G v' x (runFn ps.length N.length b) := by
  obtain ⟨f, fd, gm, F, hl⟩ := hf
  exact ⟨f, fd, ps, gm, F.kp, (fn_ok TK b F S hm ok hc ht hl).mono hk hg, F.bindsN hb⟩
end
end MP
set_option maxHeartbeats 8000000
/-! MPWord: a def that calls what it is handed, within a try. -/
namespace MP
open PySem PyProof.Rows L2
/-- some handed thing -/
def w0 : Val := .opq (fun _ => none) (fun _ => 0) 0 0
section
variable {T : Stat} {G : GX}
/-- where a state flies, all slots are there -/
theorem takes_len {X : Cx} {W : WX} (tk : Takes X W) : Takes X (fun cls d σ H => σ.length = X.N.length → W cls d σ H) := fun u s' ⟨a, B, sI, pins, σ, H, cls, d, e, I, nb, up, sky, na, os, ag, w⟩ =>
  tk u s' ⟨a, B, sI, pins, σ, H, cls, d, e, I, nb, up, sky, na, os, ag, w I.len⟩
theorem word_ok (TK : TOk T G) {v : Lv} {x a : PySem.Str} {params : Arguments} {body : List PySem.Stmt} {scope : Scope} {f : Addr} {fd : FuncData} {N : List PySem.Str} (F : FunD T.K x x params body scope [] [] f fd) (gm : T.mg x = some (.ref f)) (S : FnScope N [a] scope)
    (hN : N[0]? = some a) (hv : Vis scope a) (ha : notDbg a = true) (hb : Binds T.K fd [a] []) (wb : Val → (Store → Out Val) → Ss) (wd : (Store → Out Val) → Store → Out Val) (hm : ∀ w th, mSs N scope (wb w th) body = true) (ok : ∀ w th, okSs T G ⟨0, false, false, true, some (0, w, th), none⟩ (wb w th))
    (hw : ∀ w th st, noRef w = false → runFn 1 N.length (wb w th) [w] st = wd th st) : WordOk T G v x wd := by
  have kp := F.kp
  obtain ⟨oc, od, dV, kV, doc, pm, an, cdv, ct, osl, rfl, lk, hcd, _, _⟩ := F.ex
  refine ⟨f, params, body, scope, dV, kV, doc, pm, cdv, ct, oc, an, od, osl, N, a, gm, kp, lk, hcd, hb, S, hN, hv, ha, fun X q eT hk hr => ?_⟩
  subst eT
  intro fl c' s H Q tl act hc h
  obtain ⟨F0, m, st, th, r0, htl, p⟩ := h
  have hr0 : Room 0 (X.A.deeper (envOfC x scope s.heap.objs.size f cdv)) := (hr.mono hk).deeper _
  have npl : 1 ≤ N.length := by
    have := (List.getElem?_eq_some_iff.mp hN).1
    omega
  -- the code object among what stays
  obtain ⟨F2, s2, r2, c2, fn2⟩ : ∃ F2, Same F0 F2 ∧ RelH X.K G F2 m st H ∧ F2 c' = some (LamX.CodeO c' q) ∧ ∀ b, F2 b ≠ none → F0 b ≠ none ∨ b = c' := by
    have nm : ∀ n, live st n → m n ≠ c' := fun n l z => by
      obtain ⟨o, e1, _, e3⟩ := r0.cellO l
      rw [z, hc] at e1
      exact e3 c' q (Option.some.inj e1).symm
    cases hF : F0 c' with
    | none => exact ⟨_, Same.upd hF, r0.take hF nm hc (by intro ps z; exact LamX.codeO_ne ps z), upd_same, fun b hb => by
      by_cases e : b = c'
      · exact .inr e
      · rw [upd_ne e] at hb; exact .inl hb⟩
    | some o =>
      rcases r0.fz c' o hF with z | ⟨hd, ob, z⟩
      · rw [hc] at z; cases z
        exact ⟨F0, Same.refl _, r0, hF, fun b hb => .inl hb⟩
      · rw [hc] at z
        exfalso
        unfold LamX.CodeO at z
        cases z
  have hwv : noRef (.opq F2 m st.length fl) = false := by simp [noRef]
  generalize ew : Val.opq F2 m st.length fl = w at hwv
  have C : CS ((cxOf C8.CX0 X.prog X.w X.K X.mg X.base N x scope f cdv X.A X.stack s H C8.E0).nox) G W0 :=
    ⟨⟨takes0, S.nd, by have := hr0.un; show (X.A.deeper (envOfC x scope s.heap.objs.size f cdv)).units + 70 < cLine; omega, TK.gf, TK.bl⟩, fun _ => rfl, PassesOwn.never, rfl, rfl⟩
  have R : RmS ((cxOf C8.CX0 X.prog X.w X.K X.mg X.base N x scope f cdv X.A X.stack s H C8.E0).nox) G ⟨0, false, false, true, some (0, w, th), none⟩ := by
    refine ⟨fun _ => hr0, (fun z => by cases z), (fun z => by cases z), fun _ => rfl, fun i w' th' z pn xe W tk y p1 p2 pos hy => ?_, (fun _ _ _ z => by cases z)⟩
    cases z
    have ey : y = a := by
      have e2 : N[0]? = some y := hy
      rw [hN] at e2; cases e2; rfl
    subst ey
    refine ⟨fun pins sZ σ HZ D I h => ?_⟩
    obtain ⟨F1, m1, env, st1, r1, rs1, p1'⟩ := h
    simp only [exec] at p1'
    split at p1'
    · rename_i he
      obtain ⟨y0, hy1, hy2⟩ := rs1.get he
      subst ew
      cases hy2 with
      | opq k1 k2 k3 =>
        have hcz : HZ c' = some (LamX.CodeO c' q) := by
          rcases r1.fz c' _ (k1 c' _ c2) with z | ⟨hd, _, z⟩
          · exact z
          · unfold LamX.CodeO at hd; exact hd.elim
        have lenE : env.length = N.length := by rw [rs1.1]; exact I.len
        have A0 := act (fun cls d σ H => σ.length = N.length → W cls d σ H) pn xe (fun cls d H' => ∀ σ', σ'.length = N.length → W cls d σ' H') p1 p2 (takes_len tk) (fun cls d σ' H' hE hl => hE σ' hl)
        refine (ps_expr (pos := pos) A0 (by rfl)).run pins sZ σ HZ D I ⟨hy1, hcz, ?_⟩
        refine htl _ F1 m1 st1 HZ _ (s2.trans k1) k2 k3 r1 ?_
        cases ht : th st1 with
        | ok v st' =>
          rw [ht] at p1'
          exact fun F' m' H' e' r' _ _ => p1' σ F' m' H' e' r' (rs1.ext e')
        | exc c xs st' =>
          rw [ht] at p1'
          intro F' m' H' e' r' Cc d hC hX σ' hl'
          refine p1' σ' F' m' H' e' r' ⟨by rw [List.length_map, lenE, hl'], fun i u hu => ?_⟩ Cc d hC hX
          rw [List.getElem?_map] at hu
          cases hq : env[i]? with
          | none => rw [hq] at hu; cases hu
          | some o => rw [hq] at hu; cases hu
        | bad => rw [ht] at p1'; exact p1'.elim
    · exact p1'.elim
  refine ⟨_, sSs (wb w th) C ⟨rfl, rfl⟩ R body (hm w th) (ok w th), ?_⟩
  have rw0 : Rep X.K G F2 m st.length w (.ref fl) := by rw [← ew]; exact .opq (Same.refl _) (fun _ _ => rfl) (Nat.le_refl _)
  have rsA : Reps X.K G F2 m st.length [w] [.ref fl] := .cons rw0 .nil
  refine ⟨F2, m, _, st, r2, reps_start (T := stat X) (N := N) rsA (by simpa using npl), ?_⟩
  have x2 : Ext F0 m st H F2 m st H := ⟨s2, Nat.le_refl _, fun _ _ => rfl, fun _ _ h => h, fun n h l => absurd l.lt (Nat.not_lt.mpr h), fun _ _ h _ _ => .inl h, fun _ h => h, ?_⟩
  · have p := PostG.step p x2
    rw [← hw w th st hwv] at p
    unfold runFn at p
    rw [if_pos (by rfl)] at p
    show PostS _ G W0 _ F2 m st H (execs (wb w th) ([w].map some ++ List.replicate (N.length - 1) none) st)
    cases hx : execs (wb w th) ([w].map some ++ List.replicate (N.length - 1) none) st with
    | nx env' st' =>
      rw [hx] at p
      intro σ' F' m' H' e' r' rs'
      obtain ⟨z1, z2, _⟩ := pop_of (v := none) r2 e' r'
      exact p F' m' H' z1 z2 _ .non
    | rt u st' =>
      rw [hx] at p
      intro y F' m' H' e' r' k
      obtain ⟨z1, z2, z3⟩ := pop_of (v := some u) r2 e' r'
      exact p F' m' H' z1 z2 y (z3 u rfl y k)
    | ex c xs env' st' =>
      rw [hx] at p
      intro σ' F' m' H' e' r' rs' Cc d hC hX
      obtain ⟨z1, z2, z3⟩ := pop_of (v := some (.tup (xs.map (·.2)))) r2 e' r'
      exact (p F' m' H' z1 z2).elim
    | bk env' st' => rw [hx] at p; exact p.elim
    | ct env' st' => rw [hx] at p; exact p.elim
    | bad => rw [hx] at p; exact p.elim
  · intro b hb
    rcases fn2 b hb with z | z
    · exact .inl z
    · subst z
      refine .inr (.inl fun o z d => ?_)
      rw [hc] at z
      cases z
      unfold LamX.CodeO at d
      exact d
end
end MP
set_option maxHeartbeats 8000000
/-! MPHead: from a law's meaning to its row. -/
namespace MP
open PySem PySem.Spec PyProof.Rows L2
/-! ### the call from outside, nothing being shown -/
section
variable {P : Program} {w : World} {K : PySem.W.Frag} {mg mb : PySem.Str → Option Value} {s : Shared} {vs : List Value} {ns : List Int} {tabs : List Addr}
abbrev scrO (vs : List Value) : Obj := { cls := .type "list", data := .seq vs.toArray }
abbrev tabO : Obj := { cls := .none, data := .fields #[] }
open Classical in
/-- tracked at the start: the script where it is the caller's own, the tables -/
noncomputable def startH (K : PySem.W.Frag) (a : Addr) (vs : List Value) (ns : List Int) (tabs : List Addr) : Hp := fun b =>
  if b = a ∧ K.lookup a = none then some (.frz (scrO vs) (.lst (ns.map V.int))) else if b ∈ tabs then some (.tbl #[]) else none
structure Begin (K : PySem.W.Frag) (mg mb : PySem.Str → Option Value) (s : Shared) (a : Addr) (vs : List Value) (ns : List Int) (tabs : List Addr) : Prop where
  kin : K.In s.heap
  g : s.heap.Ns mainGlobals mg
  b : s.heap.Ns builtinsNs mb
  bb : ∀ x : PySem.Str, x ≠ "__name__" → mb x = bootBuiltins x
  lim : s.heap.NoLimit
  gens : s.gens = #[]
  scr : s.heap.get? a = some (scrO vs)
  intsA : IntsAre vs ns
  len : ns.length ≤ sizeLine
  tab : ∀ t ∈ tabs, s.heap.get? t = some tabO
  tabK : ∀ t ∈ tabs, K.lookup t = none
  bm : ∃ (bm : Addr) (ob : Obj), mg "__builtins__" = some (.ref bm) ∧ bm ≠ builtinsNs ∧ s.heap.get? bm = some ob ∧ ob.cls = .type "module" ∧ ob.dict = some builtinsNs ∧ ob.data = .plain
variable {a : Addr}
theorem startH_inv {b : Addr} {u : HO} (h : startH K a vs ns tabs b = some u) : (b = a ∧ K.lookup a = none ∧ u = .frz (scrO vs) (.lst (ns.map V.int))) ∨ (b ∈ tabs ∧ u = .tbl #[]) := by
  unfold startH at h
  split at h
  · rename_i q; cases h; exact .inl ⟨q.1, q.2, rfl⟩
  · split at h
    · rename_i q; cases h; exact .inr ⟨q, rfl⟩
    · cases h
theorem Begin.apart (B : Begin K mg mb s a vs ns tabs) : a ∉ tabs := fun z => by
  have q := B.scr.symm.trans (B.tab a z)
  cases q
theorem Begin.tabAt (B : Begin K mg mb s a vs ns tabs) {t : Addr} (ht : t ∈ tabs) : startH K a vs ns tabs t = some (.tbl #[]) := by
  unfold startH
  rw [if_neg (show ¬ (t = a ∧ K.lookup a = none) from fun q => B.apart (q.1 ▸ ht)), if_pos ht]
theorem Begin.free (B : Begin K mg mb s a vs ns tabs) {b : Addr} {o : Obj} (e : s.heap.get? b = some o) (h1 : o ≠ scrO vs) (h2 : o ≠ tabO) : startH K a vs ns tabs b = none := by
  cases q : startH K a vs ns tabs b with
  | none => rfl
  | some u =>
    rcases startH_inv q with ⟨z, _, _⟩ | ⟨z, _⟩
    · subst z; exact absurd (Option.some.inj (e.symm.trans B.scr)) h1
    · exact absurd (Option.some.inj (e.symm.trans (B.tab b z))) h2
theorem Begin.keep (B : Begin K mg mb s a vs ns tabs) {b : Addr} {o : Obj} (e : s.heap.get? b = some o) (h1 : o ≠ scrO vs) (h2 : o ≠ tabO) : (hidT s.heap (startH K a vs ns tabs)).get? b = some o := hidT_get e (B.free e h1 h2)
theorem Begin.nsK (B : Begin K mg mb s a vs ns tabs) {b : Addr} {m : PySem.Str → Option Value} (h : s.heap.Ns b m) : (hidT s.heap (startH K a vs ns tabs)).Ns b m := by
  obtain ⟨o, es, ep, e, d, r⟩ := h
  exact ⟨o, es, ep, B.keep e (fun z => by rw [z] at d; cases d) (fun z => by rw [z] at d; cases d), d, r⟩
theorem Begin.kin' (B : Begin K mg mb s a vs ns tabs) : K.In (hidT s.heap (startH K a vs ns tabs)) := fun b o e => by
  refine hidT_get (B.kin b o e) ?_
  cases q : startH K a vs ns tabs b with
  | none => rfl
  | some u =>
    rcases startH_inv q with ⟨z, z2, _⟩ | ⟨z, _⟩
    · subst z; rw [z2] at e; cases e
    · rw [B.tabK b z] at e; cases e
theorem Begin.tabB (B : Begin K mg mb s a vs ns tabs) {c t : Addr} (ht : t ∈ tabs) (hc : PySem.W.CodeHd s.heap c t) : LamX.TabB (hidT s.heap (startH K a vs ns tabs)) mg c t := by
  refine ⟨?_, ?_, fun z => ?_⟩
  · obtain ⟨o, us, e1, e2, e3, e4, e5, e6, e7, g1, g2, g3, g4⟩ := hc
    refine ⟨o, us, e1, e2, e3, e4, e5, e6, e7, B.keep g1 (fun z => ?_) (fun z => ?_), g2, g3, g4⟩
    · rw [z] at g3; cases g3
    · rw [z] at g3; cases g3; simp at g4
  · obtain ⟨bm, ob, g1, g2, g3, g4, g5, g6⟩ := B.bm
    have n1 : bm ≠ mainGlobals := fun z => by
      obtain ⟨o, es, ep, e, hd, _⟩ := B.g
      rw [← z, g3] at e; cases e; rw [g6] at hd; cases hd
    have n2 : bm ≠ t := fun z => by
      rw [z, B.tab t ht] at g3; cases g3; cases g6
    exact ⟨bm, ob, g1, g2, n1, n2, B.keep g3 (fun z => by rw [z] at g6; cases g6) (fun z => by rw [z] at g6; cases g6), g4, g5, g6⟩
  · obtain ⟨o, es, ep, e, hd, _⟩ := B.g
    rw [z, B.tab t ht] at e; cases e; cases hd
theorem Begin.hok (B : Begin K mg mb s a vs ns tabs) : HOk P w (startH K a vs ns tabs) s.heap := fun b u q => by
  rcases startH_inv q with ⟨z, _, e⟩ | ⟨z, e⟩
  · subst z e
    exact ⟨B.scr, by rw [List.length_map]; exact B.len, vs, _, vals_ints B.intsA, B.scr⟩
  · subst e; exact B.tab b z
theorem Begin.sq (B : Begin K mg mb s a vs ns tabs) : SqL K (startH K a vs ns tabs) a (ns.map V.int) := by
  cases q : K.lookup a with
  | none => exact .inl (.inr ⟨scrO vs, by unfold startH; rw [if_pos ⟨rfl, q⟩]⟩)
  | some o =>
    have e := B.kin a o q
    rw [B.scr] at e; cases e
    exact .inr ⟨_, vs.toArray, _, q, rfl, rfl, rfl, by rw [List.size_toArray, B.intsA.length]; exact B.len, by simpa using vals_ints B.intsA⟩
/-- the law is called: its promise gives True, all that stood before stands -/
theorem law_callG {g : Bool} {k : Nat} {fa : Addr} {fd : FuncData} {x : PySem.Str} {sp : Sp} (B : Begin K mg mb s a vs ns tabs) (hc : ∀ t ∈ tabs, ∃ c, PySem.W.CodeHd s.heap c t) (hr : Room k callerA)
    (F : FnG ⟨P, w, K, mg, hidT s.heap (startH K a vs ns tabs)⟩ g k fa fd [x] sp) (hb : ∀ (s : Shared) (u : Value), BindsTo s fd ⟨[u], []⟩ [(x, u)]) (hsp : sp [.ref a] (startH K a vs ns tabs) (fun v _ => v = .bl true) fun _ _ _ => False) :
    codeAny (model P w) callerA (.call (.ref fa) ⟨[.ref a], []⟩) (fun r s' => r = .ok (.ret (.bool true)) ∧ OldK s.heap s'.heap ∧ s'.os = s.os ∧ AllBare s'.gens) s := by
  have e0 : Env0 P w K mg (hidT s.heap (startH K a vs ns tabs)) callerA [] s (startH K a vs ns tabs) :=
    ⟨rfl, ⟨B.kin', B.nsK B.g, ⟨mb, B.nsK B.b, B.bb⟩, let ⟨mc, z1, z2⟩ := B.lim; ⟨mc, B.nsK z1, z2⟩⟩, fun b o e => of_hidT e, Nat.le_of_eq (hidT_size _ _), trivial, fun b hb => absurd (show b ∈ ([] : List Addr) from hb) (by simp), B.hok, .of_eq B.gens⟩
  refine codeAny_mono (F.run callerA [] s _ ⟨[.ref a], []⟩ [.ref a] [.ref a] _ _ hr (fun _ => rfl) e0 (hb s (.ref a)) (.cons rfl .nil) hsp) fun r s' h => ?_
  match r, h with
  | .error e, ⟨_, _, _, _, _, _, _, _, _, _, _, _, z⟩ => exact z.elim
  | .ok (.ret u), ⟨v, H', os, bare, un, hok', rv, q⟩ =>
    have q : v = .bl true := q
    subst q
    cases (show u = Value.bool true from rv)
    have noE : ∀ b : Addr, b ∉ ([] : List Addr) := fun b z => by cases z
    have kept : ∀ b o, s.heap.get? b = some o → b ∉ tabs → s'.heap.get? b = some o := fun b o e nb => by
      cases q : startH K a vs ns tabs b with
      | none => exact un.keep b o e q (noE b) (noE b)
      | some u =>
        rcases startH_inv q with ⟨z1, z2, z3⟩ | ⟨z, _⟩
        · subst z1 z3
          have y := un.frzs b _ _ q
          obtain ⟨y1, _⟩ := hok' b _ y
          rw [B.scr] at e; cases e
          exact y1
        · exact absurd z nb
    have grown : ∀ t ∈ tabs, ∃ more : Array Value, s'.heap.get? t = some { cls := .none, data := .fields more } := fun t ht => by
      obtain ⟨more, z⟩ := un.tbls t #[] (B.tabAt ht)
      exact ⟨_, hok' t _ z⟩
    refine ⟨rfl, ⟨fun b o e => ?_, fun b o e => ?_⟩, os, bare⟩
    · by_cases ht : b ∈ tabs
      · obtain ⟨more, z⟩ := grown b ht
        obtain ⟨c, hcc⟩ := hc b ht
        cases e.symm.trans (B.tab b ht)
        exact .inr (.inl ⟨(hcc.tab (B.tab b ht)).isCodeTable, rfl, #[], more, rfl, by rw [Array.empty_append]; exact z⟩)
      · exact .inl (kept b o e ht)
    · by_cases ht : b ∈ tabs
      · obtain ⟨more, z⟩ := grown b ht
        exact ⟨_, z⟩
      · exact ⟨o, kept b o e ht⟩
end
/-! ### a law's row -/
/-- what is to be shown of the law's def, at the heap behind the top -/
def LawG (P : Program) (w : World) (k n : Nat) (x : PySem.Str) (mg : PySem.Str → Option Value) (fa : Addr) (h : Heap) : Prop :=
  ∃ (K : PySem.W.Frag) (tabs : List Addr) (g : Bool) (fd : FuncData) (sp : Sp), K.In h ∧ (∀ t ∈ tabs, h.get? t = some tabO) ∧ (∀ t ∈ tabs, K.lookup t = none) ∧ (∀ t ∈ tabs, ∃ c, PySem.W.CodeHd h c t) ∧
    (∀ (s : Shared) (u : Value), BindsTo s fd ⟨[u], []⟩ [(x, u)]) ∧
    (∀ (H : Hp) (a : Addr) (ns : List Int), ns.length ≤ n → (∀ z ∈ ns, Builtin.Int.intBits z ≤ 1048576) → (∀ t ∈ tabs, H t = some (.tbl #[])) → (∀ b ps, H b = some (.tbl ps) → b ∈ tabs) → SqL K H a (ns.map V.int) → sp [.ref a] H (fun v _ => v = .bl true) fun _ _ _ => False) ∧
    ∀ base : Heap, K.In base → base.Ns mainGlobals mg → (∀ c t, t ∈ tabs → PySem.W.CodeHd h c t → LamX.TabB base mg c t) → FnG ⟨P, w, K, mg, base⟩ g k fa fd [x] sp
theorem walk_G {l : PySem.W.OpenLaw} {n k : Nat} {q : Program} {loose : List PySem.Str} {XP : (PySem.Str → Option Value) → Heap → Prop} {YP : World → Heap → Prop} {d : DefRec} {x : PySem.Str}
    (hn : l.most = some n) (hn2 : n ≤ sizeLine) (hdf : d.params.defaults = []) (hr : Room k callerA)
    (F : ∀ (w : World) (mg : PySem.Str → Option Value) (fa : Addr) (h : Heap), YP w h → h.Ns mainGlobals mg → mg d.name = some (.ref fa) → LawG l.prog w k n x mg fa h) :
    PySem.W.WalkO q loose XP YP l.row.toRowW d [] (fun f vs => PySem.call f vs) := by
  refine Att.attach_callB hn hdf fun w s₀ s mg mb fa o pm cd doc a vs ns G Y ho hd hcd hmg hobj hints hlen hbits hg => ?_
  obtain ⟨K, tabs, g, fd, sp, KX, t1, t2, t3, hb, hsp, hF⟩ := F w mg fa _ Y G.T.g hmg
  have B : Begin K mg mb s a vs ns tabs := ⟨KX, G.T.g, G.T.b, G.T.builtins, G.T.nolimit, hg, hobj, hints, Nat.le_trans hlen hn2, t1, t2, G.T.bmain⟩
  refine law_callG B t3 hr (hF _ B.kin' (B.nsK B.g) fun c t ht hc => B.tabB ht hc) hb (hsp _ a ns hlen hbits (fun t ht => B.tabAt ht) (fun b ps q => ?_) B.sq)
  rcases startH_inv q with ⟨_, _, z⟩ | ⟨z, _⟩
  · cases z
  · exact z
/-! ### facts at the heap behind the top -/
/-- an empty table of code objects -/
def isTabO : Obj → Bool
  | ⟨.none, none, .fields vs, sl⟩ => vs.size == 0 && sl.size == 0
  | _ => false
theorem isTabO_eq {o : Obj} (h : isTabO o = true) : o = tabO := by
  unfold isTabO at h
  split at h
  · rename_i vs sl
    simp only [Bool.and_eq_true, beq_iff_eq] at h
    rw [Array.eq_empty_of_size_eq_zero h.1, Array.eq_empty_of_size_eq_zero h.2]
  · cases h
/-- all but the tables -/
def cutK (K : PySem.W.Frag) : PySem.W.Frag := K.filter fun q => !isTabO q.2
theorem mem_at {a : Addr} {o : Obj} : ∀ {K : PySem.W.Frag}, K.lookup a = some o → (a, o) ∈ K
  | [], h => by cases h
  | (b, u) :: r, h => by
    rw [List.lookup_cons] at h
    split at h
    · rename_i e
      rw [beq_iff_eq] at e
      cases h; subst e
      exact List.mem_cons_self
    · exact List.mem_cons_of_mem _ (mem_at h)
open He in
def codeAd (K : PySem.W.Frag) (p : PySem.Str × Option PySem.Str) : Addr := match K.lookup (fAd K p) with
  | some ⟨_, _, .func fd, _⟩ => (match fd.code with
    | .ref c => c
    | _ => 0)
  | _ => 0
def tabAd (K : PySem.W.Frag) (c : Addr) : Addr := match K.lookup c with
  | some ⟨_, _, .fields vs, _⟩ => (match (vs[11]? : Option Value) with
    | some (.ref P) => P
    | _ => 0)
  | _ => 0
def tabOk (K : PySem.W.Frag) (p : PySem.Str × Option PySem.Str) : Bool :=
  PySem.W.codeHdIn (cutK K) (codeAd (cutK K) p) (tabAd (cutK K) (codeAd (cutK K) p)) && ((cutK K).lookup (tabAd (cutK K) (codeAd (cutK K) p))).isNone && (match K.lookup (tabAd (cutK K) (codeAd (cutK K) p)) with
    | some o => isTabO o
    | none => false) && (match (cutK K).lookup (He.fAd (cutK K) p) with
    | some ⟨_, _, .func fd, _⟩ => decide (fd.code = .ref (codeAd (cutK K) p))
    | _ => false)
/-- what a law's proof asks of the top: facts, defs, the defs that make lambdas -/
structure Ask where
  fa : List (PySem.W.Frag → Bool)
  fn : List He.DefD
  tb : List (PySem.Str × Option PySem.Str)
/-- the tables of the defs that make lambdas -/
def Ask.tabs (A : Ask) (K : PySem.W.Frag) : List Addr := A.tb.map fun p => tabAd (cutK K) (codeAd (cutK K) p)
def Ask.obs (A : Ask) (K : PySem.W.Frag) : He.AlD := ((A.fa.all fun f => f (cutK K)) && (A.fn.all fun d => d.ok (cutK K)) && (A.tb.all (tabOk K) && decide ((A.tabs K).Nodup)), A.fn.map fun d => He.fnW (cutK K) d.at_)
def Ask.Says (A : Ask) (K : PySem.W.Frag) : Prop := A.obs K = He.valD A.fn
def Ask.hook (n : Nat) (A : Ask) : PySem.W.Hook where
  α := He.AlD
  obs := fun s => A.obs (He.frG s.heap.get? (He.asD s.heap.get? n))
  val := fun _ => He.valD A.fn
  says := fun _ h => ∃ K : PySem.W.Frag, K.In h ∧ (∀ p ∈ K, h.get? p.1 = some p.2) ∧ A.Says K
  of := fun _ s e => ⟨_, He.frG_in, fun p hp => by
    obtain ⟨a, _, e⟩ := List.mem_filterMap.mp hp
    cases q : s.heap.get? a with
    | none => rw [q] at e; cases e
    | some o => rw [q] at e; cases e; exact q, e⟩
  keeps := fun _ _ _ ⟨K, hK, hm, c⟩ k => ⟨K, PySem.W.Frag.In.keeps hK k, fun p hp => k _ _ (hm p hp), c⟩
theorem Ask.obs_eq {n : Nat} {A : Ask} (s : PySem.W.SharedT) : A.obs (He.frG (HandSHeadRun.getT s) (He.asD (HandSHeadRun.getT s) n)) = (A.hook n).obs s.abs := by
  have e : HandSHeadRun.getT s = s.abs.heap.get? := funext (HandSHeadRun.getT_eq s)
  rw [e]; rfl
section
variable {A : Ask} {K : PySem.W.Frag} {h : Heap}
theorem Ask.Says.all (c : A.Says K) : (A.fa.all fun f => f (cutK K)) = true ∧ (A.fn.all fun d => d.ok (cutK K)) = true ∧ A.tb.all (tabOk K) = true ∧ (A.tabs K).Nodup := by
  have := congrArg (fun z : He.AlD => z.1) c
  have h2 : ((A.fa.all fun f => f (cutK K)) && (A.fn.all fun d => d.ok (cutK K)) && (A.tb.all (tabOk K) && decide ((A.tabs K).Nodup))) = true := this
  simp only [Bool.and_eq_true, decide_eq_true_eq] at h2
  exact ⟨h2.1.1, h2.1.2, h2.2.1, h2.2.2⟩
theorem Ask.Says.fact (c : A.Says K) {f : PySem.W.Frag → Bool} (i : Nat) (hf : A.fa[i]? = some f) : f (cutK K) = true := List.all_eq_true.mp c.all.1 f (List.mem_of_getElem? hf)
theorem Ask.Says.def_ (c : A.Says K) (i : Nat) {d : He.DefD} (hd : A.fn[i]? = some d) : ∃ fd, FunD (cutK K) d.name d.qual d.params d.body d.scope (d.dvs (cutK K)) (d.kws (cutK K)) (He.fAd (cutK K) d.at_) fd := by
  have e : A.fn.map (fun d => He.fnW (cutK K) d.at_) = A.fn.map He.DefD.val := congrArg (fun z : He.AlD => z.2) c
  have e2 : (A.fn.map fun d => He.fnW (cutK K) d.at_)[i]? = (A.fn.map He.DefD.val)[i]? := by rw [e]
  rw [List.getElem?_map, List.getElem?_map, hd] at e2
  exact He.DefD.funD (Option.some.inj e2) (List.all_eq_true.mp c.all.2.1 d (List.mem_of_getElem? hd))
theorem cut_in (hm : ∀ p ∈ K, h.get? p.1 = some p.2) : (cutK K).In h := fun a o e => hm _ (List.mem_filter.mp (mem_at e)).1
theorem Ask.Says.tab (c : A.Says K) (hm : ∀ p ∈ K, h.get? p.1 = some p.2) {p : PySem.Str × Option PySem.Str} (hp : p ∈ A.tb) :
    PySem.W.CodeHd h (codeAd (cutK K) p) (tabAd (cutK K) (codeAd (cutK K) p)) ∧ (cutK K).lookup (tabAd (cutK K) (codeAd (cutK K) p)) = none ∧ h.get? (tabAd (cutK K) (codeAd (cutK K) p)) = some tabO := by
  have q := List.all_eq_true.mp c.all.2.2.1 p hp
  simp only [tabOk, Bool.and_eq_true, Option.isNone_iff_eq_none] at q
  obtain ⟨⟨⟨q1, q2⟩, q3⟩, _⟩ := q
  refine ⟨PySem.W.codeHd_of_K (cut_in hm) q1, q2, ?_⟩
  split at q3
  · rename_i o e
    rw [← isTabO_eq q3]
    exact hm _ (mem_at e)
  · cases q3
/-- a lambda's name -/
def lamName (p : PySem.Str × Option PySem.Str) : PySem.Str := (p.1 ++ ".<locals>.") ++ "<lambda>"
def Ask.tT (A : Ask) (K : PySem.W.Frag) : List (Addr × PySem.Str) := A.tb.map fun p => (tabAd (cutK K) (codeAd (cutK K) p), lamName p)
theorem nodup_map {α β : Type} {f : α → β} : ∀ {l : List α} {x y : α}, (l.map f).Nodup → x ∈ l → y ∈ l → f x = f y → x = y
  | [], x, y, _, hx, _, _ => by cases hx
  | z :: l, x, y, h, hx, hy, e => by
    rw [List.map_cons, List.nodup_cons] at h
    rcases List.mem_cons.mp hx with h1 | h1
    · rcases List.mem_cons.mp hy with h2 | h2
      · rw [h1, h2]
      · exact absurd (show f z ∈ l.map f by rw [← h1, e]; exact List.mem_map_of_mem h2) h.1
    · rcases List.mem_cons.mp hy with h2 | h2
      · exact absurd (show f z ∈ l.map f by rw [← h2, ← e]; exact List.mem_map_of_mem h1) h.1
      · exact nodup_map h.2 h1 h2 e
theorem Ask.Says.lamF (c : A.Says K) (hm : ∀ p ∈ K, h.get? p.1 = some p.2) {p : PySem.Str × Option PySem.Str} (hp : p ∈ A.tb) {P : Program} {w : World} {mg : PySem.Str → Option Value} {base : Heap} {G : GX} (hG : G.T = A.tT K)
    (TB : ∀ c t, t ∈ A.tabs K → PySem.W.CodeHd h c t → LamX.TabB base mg c t) {x qual : PySem.Str} {params : Arguments} {body : List PySem.Stmt} {scope : Scope} {fd : FuncData} (F : FunD (cutK K) x qual params body scope [] [] (He.fAd (cutK K) p) fd) : LamF ⟨P, w, cutK K, mg, base⟩ G p.1 fd := by
  have q := List.all_eq_true.mp c.all.2.2.1 p hp
  simp only [tabOk, Bool.and_eq_true] at q
  have q4 := q.2
  obtain ⟨oc, od, dV, kV, doc, pm, an, cdv, ct, osl, e1, e2, _, _, _⟩ := F.ex
  rw [e2] at q4
  have q5 := of_decide_eq_true q4
  refine ⟨codeAd (cutK K) p, tabAd (cutK K) (codeAd (cutK K) p), q5, TB _ _ (List.mem_map_of_mem hp) (c.tab hm hp).1, ?_, fun z hz e => ?_⟩
  · rw [hG]; exact List.mem_map_of_mem hp
  · rw [hG] at hz
    obtain ⟨p', hp', rfl⟩ := List.mem_map.mp hz
    have e3 := nodup_map c.all.2.2.2 hp' hp e
    rw [e3]; rfl
end
/-- the end: the law's meaning tells True of every script -/
theorem lawG_of {A : Ask} {K : PySem.W.Frag} {h : Heap} {P : Program} {w : World} {k n : Nat} {x : PySem.Str} {mg : PySem.Str → Option Value} {fa : Addr} (c : A.Says K) (hm : ∀ p ∈ K, h.get? p.1 = some p.2) {G : GX} (hG : G.T = A.tT K) {g : Bool} {fd : FuncData} {D : Den}
    (hb : ∀ (s : Shared) (u : Value), BindsTo s fd ⟨[u], []⟩ [(x, u)])
    (hD : ∀ ns : List Int, ns.length ≤ n → (∀ z ∈ ns, Builtin.Int.intBits z ≤ 1048576) → ∃ st, D [.slst ns] [] = .ok (.bl true) st)
    (hF : ∀ base : Heap, (cutK K).In base → base.Ns mainGlobals mg → (∀ c t, t ∈ A.tabs K → PySem.W.CodeHd h c t → LamX.TabB base mg c t) → FnG ⟨P, w, cutK K, mg, base⟩ g k fa fd [x] (spOf (cutK K) mg G D)) : LawG P w k n x mg fa h := by
  refine ⟨cutK K, A.tabs K, g, fd, spOf (cutK K) mg G D, cut_in hm, fun t ht => ?_, fun t ht => ?_, fun t ht => ?_, hb, fun H a ns h1 h2 h3 h4 hs => ?_, hF⟩
  · obtain ⟨p, hp, rfl⟩ := List.mem_map.mp ht; exact (c.tab hm hp).2.2
  · obtain ⟨p, hp, rfl⟩ := List.mem_map.mp ht; exact (c.tab hm hp).2.1
  · obtain ⟨p, hp, rfl⟩ := List.mem_map.mp ht; exact ⟨_, (c.tab hm hp).1⟩
  · obtain ⟨st, e⟩ := hD ns h1 h2
    classical
    have hF : ∃ F : Hp, (∀ b o, F b = some o → H b = some o) ∧ (∀ b ps, F b ≠ some (.tbl ps)) ∧ ∀ b o, H b = some o → notT o → F b = some o := by
      refine ⟨fun b => if (∃ ps, H b = some (.tbl ps)) then none else H b, fun b o q => ?_, fun b ps q => ?_, fun b o q t => ?_⟩
      · dsimp only at q; split at q
        · cases q
        · exact q
      · dsimp only at q; split at q
        · cases q
        · rename_i z; exact z ⟨ps, q⟩
      · dsimp only; rw [if_neg]
        · exact q
        · rintro ⟨ps, z⟩; rw [q] at z; cases z; exact t ps rfl
    obtain ⟨F, f1, f2, f3⟩ := hF
    refine ⟨F, fun _ => 0, [], [.slst ns], ⟨fun b o q => .inl (f1 b o q), fun n c q => by simp at q, fun i j hi => by obtain ⟨_, z, _⟩ := hi; simp at z, fun n hi => by obtain ⟨_, z, _⟩ := hi; simp at z, f2, fun p hp => ?_⟩, .cons (.slst ?_) .nil, ?_⟩
    · rw [hG] at hp
      obtain ⟨p', hp', rfl⟩ := List.mem_map.mp hp
      exact LamX.TabS.nil (h3 _ (List.mem_map_of_mem hp'))
    · rcases hs with (z | ⟨o, z⟩) | z
      · exact .inl (.inl (f3 _ _ z (by intro _ q; cases q)))
      · exact .inl (.inr ⟨o, f3 _ _ z (by intro _ q; cases q)⟩)
      · exact .inr z
    · rw [e]
      intro F' m' H' _ _ y hy
      cases hy; rfl
/-! ### the facts by kind -/
def fBlt (K : PySem.W.Frag) : Bool := bltNames.all fun b => (He.Fa.free b).ok K
def fGlo (x : PySem.Str) (K : PySem.W.Frag) : Bool := (He.Fa.glo x).ok K
def fInt (x : PySem.Str) (i : Int) (K : PySem.W.Frag) : Bool := (He.Fa.int x i).ok K
def fStr (x z : PySem.Str) (K : PySem.W.Frag) : Bool := (He.Fa.str x z).ok K
def exB : List Value := [.type "Exception", .type "BaseException", .type "object"]
/-- an own class of exceptions over Exception -/
def fExc (x : PySem.Str) (K : PySem.W.Frag) : Bool := PySem.W.excIn K (He.ga K x) exB "Exception.__new__" && PySem.W.keepIn K (.ref (He.ga K x)) && decide (PySem.W.subIn K (.ref (He.ga K x)) (.type "BaseException") = some true) && decide (PySem.W.typeIn K (.ref (He.ga K x)) = some (.type "type")) && fGlo x K
def fCls (x : PySem.Str) (mt : List (PySem.Str × Bool)) (K : PySem.W.Frag) : Bool := fGlo x K && mt.all fun q => fGlo q.1 K && (He.Fa.exm q.1 x q.2).ok K
section
variable {T : Stat} {h : Heap}
theorem bltN_of (X : T.K.In h) (Gm : h.Ns mainGlobals T.mg) (c : fBlt T.K = true) : ∀ b, b ∈ bltNames → T.mg b = none := fun b hb => He.free_ok X Gm (List.all_eq_true.mp c b hb)
theorem int_of (X : T.K.In h) (Gm : h.Ns mainGlobals T.mg) {x : PySem.Str} {i : Int} (c : fInt x i T.K = true) : GconOk T x (.int i) := by
  obtain ⟨t, e⟩ := He.int_ok X Gm c
  exact ⟨_, .int i, e, ⟨t, rfl⟩, rfl⟩
theorem str_of (X : T.K.In h) (Gm : h.Ns mainGlobals T.mg) {x z : PySem.Str} (c : fStr x z T.K = true) : GconOk T x (.str z) := by
  obtain ⟨t, e⟩ := He.str_ok X Gm c
  exact ⟨_, .str z, e, ⟨t, rfl⟩, rfl⟩
theorem exc_of (X : T.K.In h) (Gm : h.Ns mainGlobals T.mg) {x : PySem.Str} (c : fExc x T.K = true) : RaiseOk T x := by
  simp only [fExc, Bool.and_eq_true, decide_eq_true_eq] at c
  obtain ⟨⟨⟨⟨c1, c2⟩, c3⟩, c4⟩, c5⟩ := c
  exact ⟨He.ga T.K x, exB, _, _, _, PySem.F.excBase_Exception, c1, He.glo_ok X Gm c5, c2, fun M h k => ⟨PySem.W.looks_subIn k c3, PySem.W.looks_typeIn k c4⟩⟩
theorem cls_of (X : T.K.In h) (Gm : h.Ns mainGlobals T.mg) {x : PySem.Str} {mt : List (PySem.Str × Bool)} (c : fCls x mt T.K = true) : ClsOk T x mt := by
  simp only [fCls, Bool.and_eq_true] at c
  refine ⟨_, He.glo_ok X Gm c.1, fun d b hd => ?_⟩
  have q := List.all_eq_true.mp c.2 (d, b) (PySem.mem_of_lookup hd)
  simp only [Bool.and_eq_true] at q
  exact ⟨_, He.glo_ok X Gm q.1, of_decide_eq_true q.2⟩
end
theorem gf_of {mg : PySem.Str → Option Value} {ga : PySem.Str → Addr} {l : List PySem.Str} (h : ∀ x ∈ l, mg x = some (.ref (ga x))) (x : PySem.Str) (a : Addr) (z : (if x ∈ l then some (ga x) else none) = some a) : mg x = some (.ref a) := by
  split at z
  · rename_i hx
    cases z
    exact h x hx
  · cases z
theorem fund_eq {K : PySem.W.Frag} {x qual : PySem.Str} {params : Arguments} {body : List PySem.Stmt} {scope : Scope} {dvs : List V} {kws : List (PySem.Str × V)} {f : Addr} {fd fd' : FuncData} (F : FunD K x qual params body scope dvs kws f fd) (F' : FunD K x qual params body scope dvs kws f fd') : fd = fd' := by
  obtain ⟨_, _, _, _, _, _, _, _, _, _, _, e, _⟩ := F.ex
  obtain ⟨_, _, _, _, _, _, _, _, _, _, _, e', _⟩ := F'.ex
  rw [e] at e'
  cases e'; rfl
end MP
set_option maxHeartbeats 4000000
/-! MPHead2: what the top says of own classes of exceptions with a field -/
namespace MP
open PySem PyProof.Rows L2
def noP : Pos := ⟨0, 0, 0, 0⟩
/-- the i-th statement of a class -/
def clsM (s : PySem.Stmt) (i : Nat) : PySem.Stmt := match s with
  | .ClassDef _ _ _ body _ _ _ _ _ _ _ => body.getD i (.Pass noP)
  | s => s
def initP (s : PySem.Stmt) (k : Nat) : Pos := match defBody s with
  | [.Assign [.Attribute (.Name _ q1) _ q2] (.Name _ q3) q4] => ([q1, q2, q3, q4] : List Pos).getD k noP
  | _ => noP
def xDef (c f : PySem.Str) (s : PySem.Stmt) : He.DefD := ⟨(c, some "__init__"), "__init__", c ++ ".__init__", defArgs (clsM s 0), XR.iB f (initP (clsM s 0) 0) (initP (clsM s 0) 1) (initP (clsM s 0) 2) (initP (clsM s 0) 3), XR.iS f, [], []⟩
def fX1 (c f : PySem.Str) (K : PySem.W.Frag) : Bool :=
  PySem.W.excInitIn K (He.ga K c) XR.xTl "Exception.__new__" && PySem.W.excOver K (He.ga K c) XR.xTl && PySem.W.hasDictIn K (He.ga K c) &&
  (match PySem.W.findIn K (.ref (He.ga K c)) "__setattr__" with | some (some (.builtin z)) => decide (z = "object.__setattr__") | _ => false) &&
  (match PySem.W.takerIn K (He.ga K c) f with | some none => true | _ => false) &&
  (match PySem.W.findIn K (.ref (He.ga K c)) "__init__" with | some (some (.ref _)) => true | _ => false) &&
  decide (PySem.W.typeIn K (.ref (He.ma K (He.ga K c) "__init__")) = some (.type "function")) && PySem.W.keepIn K (.ref (He.ga K c)) &&
  decide (PySem.W.subIn K (.ref (He.ga K c)) (.type "BaseException") = some true) && decide (PySem.W.typeIn K (.ref (He.ga K c)) = some (.type "type")) && fGlo c K
section
variable {T : Stat} {h : Heap}
theorem x1_of (X : T.K.In h) (Gm : h.Ns mainGlobals T.mg) {c f : PySem.Str} (fl : XR.fld f) (q : fX1 c f T.K = true) {params : Arguments} {q1 q2 q3 q4 : Pos} {qual : PySem.Str}
    (hF : ∃ fd, FunD T.K "__init__" qual params (XR.iB f q1 q2 q3 q4) (XR.iS f) [] [] (He.fAd T.K (c, some "__init__")) fd ∧ ∀ (s : Shared) (us : List Value), us.length = 2 → BindsTo s fd ⟨us, []⟩ ([("self" : PySem.Str), f].zip us)) :
    ∃ C fI, XR.XTxt T.K T.mg c f C fI := by
  simp only [fX1, Bool.and_eq_true, decide_eq_true_eq] at q
  obtain ⟨⟨⟨⟨⟨⟨⟨⟨⟨⟨c1, c2⟩, c3⟩, c4⟩, c5⟩, c6⟩, c7⟩, c8⟩, c9⟩, c10⟩, c11⟩ := q
  obtain ⟨fd, F, hb⟩ := hF
  refine ⟨He.ga T.K c, He.ma T.K (He.ga T.K c) "__init__", He.glo_ok X Gm c11, fl, c1, c2, c3, ?_, ?_, ?_, c7, c8, c9, c10, fd, params, q1, q2, q3, q4, qual, F, hb⟩
  · split at c4
    · rename_i z hz
      rw [hz, of_decide_eq_true c4]
    · cases c4
  · split at c5
    · assumption
    · cases c5
  · unfold He.ma
    split at c6
    · rename_i a ha
      rw [ha]
    · cases c6
end
end MP
set_option maxHeartbeats 4000000
/-! MPSpec: plain lemmas of the small language's meanings. -/
namespace MP
open PySem L2
theorem popTo_self {st : Store} {v : Option Val} : popTo st st v = st := by
  unfold popTo; split <;> simp
theorem popTo_pre {st st' : Store} {v : Option Val} (hv : ∀ x, v = some x → noRef x = true) (h : ∀ n c, n < st.length → st'[n]? = some c → st[n]? = some c ∨ cellNoRef c = true) : popTo st st' v = st'.take st.length := by
  unfold popTo; rw [if_pos ⟨hv, h⟩]
/-- a walk whose turns go on -/
theorem forL_nx {f : Val → Env → Store → Res} {st : Store} {P : Env → Prop} : ∀ {xs : List Val} {env : Env}, (∀ x ∈ xs, ∀ env, P env → ∃ env', f x env st = .nx env' st ∧ P env') → P env → ∃ env', forL f xs env st = .nx env' st ∧ P env'
  | [], env, _, h => ⟨env, rfl, h⟩
  | x :: xs, env, hf, h => by
    obtain ⟨env1, e1, h1⟩ := hf x List.mem_cons_self env h
    obtain ⟨env2, e2, h2⟩ := forL_nx (xs := xs) (fun y hy => hf y (List.mem_cons_of_mem _ hy)) h1
    exact ⟨env2, by simp only [forL, e1]; exact e2, h2⟩
/-- .. with a state -/
theorem forL_st {f : Val → Env → Store → Res} {P : List Val → Env → Store → Prop} : ∀ {xs ys : List Val} {env : Env} {st : Store}, (∀ ys x zs env st, ys ++ x :: zs = ys ++ x :: zs → P ys env st → x ∈ xs → ∃ env' st', f x env st = .nx env' st' ∧ P (ys ++ [x]) env' st') → P ys env st → ∃ env' st', forL f xs env st = .nx env' st' ∧ P (ys ++ xs) env' st'
  | [], ys, env, st, _, h => ⟨env, st, rfl, by simpa using h⟩
  | x :: xs, ys, env, st, hf, h => by
    obtain ⟨env1, st1, e1, h1⟩ := hf ys x [] env st rfl h List.mem_cons_self
    obtain ⟨env2, st2, e2, h2⟩ := forL_st (xs := xs) (fun ys y zs env st e p hy => hf ys y zs env st e p (List.mem_cons_of_mem _ hy)) h1
    exact ⟨env2, st2, by simp only [forL, e1]; exact e2, by simpa using h2⟩
/-- a walk that answers where a turn fails -/
theorem forL_all {f : Val → Env → Store → Res} {p : Val → Bool} {st : Store} {P : Env → Prop} {v : Val} : ∀ {xs : List Val} {env : Env}, (∀ x ∈ xs, ∀ env, P env → (p x = true → ∃ env', f x env st = .nx env' st ∧ P env') ∧ (p x = false → f x env st = .rt v st)) → P env →
    (xs.all p = true → ∃ env', forL f xs env st = .nx env' st ∧ P env') ∧ (xs.all p = false → forL f xs env st = .rt v st)
  | [], env, _, h => ⟨fun _ => ⟨env, rfl, h⟩, fun z => by simp at z⟩
  | x :: xs, env, hf, h => by
    obtain ⟨h1, h2⟩ := hf x List.mem_cons_self env h
    simp only [List.all_cons]
    cases hp : p x with
    | false => exact ⟨fun z => by simp at z, fun _ => by simp only [forL, h2 hp]⟩
    | true =>
      obtain ⟨env1, e1, q1⟩ := h1 hp
      simp only [Bool.true_and, forL, e1]
      exact forL_all (fun y hy => hf y (List.mem_cons_of_mem _ hy)) q1
theorem compL_map {f : Val → Store → Out (Option Val)} {g : Val → Val} {st : Store} : ∀ {xs acc : List Val}, (∀ x ∈ xs, f x st = .ok (some (g x)) st) → acc.length + xs.length ≤ sizeLine → compL f xs acc st = .ok (acc ++ xs.map g) st
  | [], acc, _, _ => by simp [compL]
  | x :: xs, acc, hf, hl => by
    simp only [compL, hf x List.mem_cons_self, Out.noExc, Out.bind_ok]
    simp only [List.length_cons] at hl
    rw [if_pos (by omega), compL_map (fun y hy => hf y (List.mem_cons_of_mem _ hy)) (by simp; omega)]
    simp
theorem compL_filter {f : Val → Store → Out (Option Val)} {g : Val → Val} {p : Val → Bool} {st : Store} : ∀ {xs acc : List Val}, (∀ x ∈ xs, f x st = .ok (if p x = true then some (g x) else none) st) → acc.length + xs.length ≤ sizeLine → compL f xs acc st = .ok (acc ++ (xs.filter p).map g) st
  | [], acc, _, _ => by simp [compL]
  | x :: xs, acc, hf, hl => by
    simp only [compL, hf x List.mem_cons_self, Out.noExc, Out.bind_ok]
    simp only [List.length_cons] at hl
    cases hp : p x with
    | true =>
      simp only [if_true]
      rw [if_pos (by omega), compL_filter (fun y hy => hf y (List.mem_cons_of_mem _ hy)) (by simp; omega)]
      simp [hp]
    | false =>
      simp only [Bool.false_eq_true, if_false]
      rw [compL_filter (fun y hy => hf y (List.mem_cons_of_mem _ hy)) (by omega)]
      simp [hp]
/-- .. whose turns change the state -/
theorem compL_st {f : Val → Store → Out (Option Val)} {I : Nat → Store → Prop} {Q : Val → Prop} {N : Nat} : ∀ {xs acc : List Val} {n : Nat} {st : Store}, (∀ x ∈ xs, ∀ n st, n < N → I n st → ∃ v st', f x st = .ok (some v) st' ∧ I (n + 1) st' ∧ Q v) → n + xs.length ≤ N → acc.length + xs.length ≤ sizeLine → I n st →
    ∃ ys st', compL f xs acc st = .ok (acc ++ ys) st' ∧ I (n + xs.length) st' ∧ ys.length = xs.length ∧ ∀ y ∈ ys, Q y
  | [], acc, n, st, _, _, _, h => ⟨[], st, by simp [compL], h, rfl, fun _ hy => by cases hy⟩
  | x :: xs, acc, n, st, hf, hN, hl, h => by
    simp only [List.length_cons] at hl hN
    obtain ⟨v, st1, e1, h1, q1⟩ := hf x List.mem_cons_self n st (by omega) h
    obtain ⟨ys, st2, e2, h2, l2, q2⟩ := compL_st (N := N) (xs := xs) (acc := acc ++ [v]) (fun y hy => hf y (List.mem_cons_of_mem _ hy)) (by omega) (by simp; omega) h1
    refine ⟨v :: ys, st2, ?_, by rw [List.length_cons, show n + (xs.length + 1) = n + 1 + xs.length by omega]; exact h2, by simp [l2], fun y hy => ?_⟩
    · simp only [compL, e1, Out.noExc, Out.bind_ok]
      rw [if_pos (by omega), e2]
      simp
    · rcases List.mem_cons.mp hy with e | hy
      · rw [e]; exact q1
      · exact q2 y hy
theorem evalN_lst (es : Es) (env : Env) (st : Store) : evalN (.lst es) env st = (evalEs es env st).bind fun xs st1 => if xs.length ≤ sizeLine then .ok (.lst xs) st1 else .bad := by simp only [evalN]
theorem evalN_dct (t : Bool) (env : Env) (st : Store) : evalN (.dct t) env st = .ok (if t = true then .dT [] else .dK []) st := by simp only [evalN]
/-- a comprehension whose turns leave the state -/
theorem comp_map {e : E} {t : Tgt} {it : It} {own : List (PySem.Str × Nat)} {env : Env} {st : Store} {items : List Val} {g : Val → Val} (hi : evalIt it env st = .ok items st)
    (hf : ∀ x ∈ items, ∃ env', bindT t x (wipeE env (own.map (·.2))) = some env' ∧ evalE e env' st = .ok (g x) st) (hl : items.length ≤ sizeLine) : evalN (.comp e t it .none own) env st = .ok (.lst (items.map g)) st := by
  simp only [evalN, hi, Out.bind_ok]
  rw [compL_map (g := g) (fun x hx => ?_) (by simpa using hl)]
  · simp
  · obtain ⟨env', e1, e2⟩ := hf x hx
    simp only [e1, evalC, Out.bind_ok, if_true, e2]
theorem comp_filter {e c : E} {t : Tgt} {it : It} {own : List (PySem.Str × Nat)} {env : Env} {st : Store} {items : List Val} {g : Val → Val} {p : Val → Bool} (hi : evalIt it env st = .ok items st)
    (hf : ∀ x ∈ items, ∃ env', bindT t x (wipeE env (own.map (·.2))) = some env' ∧ evalE c env' st = .ok (.bl (p x)) st ∧ (p x = true → evalE e env' st = .ok (g x) st)) (hl : items.length ≤ sizeLine) : evalN (.comp e t it (.some c) own) env st = .ok (.lst ((items.filter p).map g)) st := by
  simp only [evalN, hi, Out.bind_ok]
  rw [compL_filter (g := g) (p := p) (fun x hx => ?_) (by simpa using hl)]
  · simp
  · obtain ⟨env', e1, e2, e3⟩ := hf x hx
    simp only [e1, evalC, Out.bind_ok, e2, truth, Out.of_some]
    cases hp : p x with
    | true => simp [e3 hp]
    | false => simp
/-- .. change the state -/
theorem comp_st {e : E} {t : Tgt} {it : It} {own : List (PySem.Str × Nat)} {env : Env} {st st1 : Store} {items : List Val} {I : Nat → Store → Prop} {Q : Val → Prop} {n : Nat} (hi : evalIt it env st = .ok items st1)
    (hf : ∀ x ∈ items, ∀ k st, k < n + items.length → I k st → ∃ env' v st', bindT t x (wipeE env (own.map (·.2))) = some env' ∧ evalE e env' st = .ok v st' ∧ I (k + 1) st' ∧ Q v) (hl : items.length ≤ sizeLine) (h0 : I n st1) :
    ∃ ys st', evalN (.comp e t it .none own) env st = .ok (.lst ys) st' ∧ I (n + items.length) st' ∧ ys.length = items.length ∧ ∀ y ∈ ys, Q y := by
  obtain ⟨ys, st', e1, e2, e3, e4⟩ := compL_st (f := fun x st2 => match bindT t x (wipeE env (own.map (·.2))) with
      | none => Out.bad
      | some env' => (evalC .none env' st2).bind fun b st3 => if b = true then (evalE e env' st3).bind fun y st4 => .ok (some y) st4 else .ok none st3) (I := I) (Q := Q) (N := n + items.length) (acc := []) (fun x hx k st hk h => by
    obtain ⟨env', v, st', a1, a2, a3, a4⟩ := hf x hx k st hk h
    exact ⟨v, st', by simp only [a1, evalC, Out.bind_ok, if_true, a2], a3, a4⟩) (Nat.le_refl _) (by simpa using hl) h0
  refine ⟨ys, st', ?_, e2, e3, e4⟩
  simp only [evalN, hi, Out.bind_ok]
  refine (congrArg (fun z : Out (List Val) => z.bind fun ys st2 => Out.ok (Cell.lst ys) st2) e1).trans ?_
  simp
/-- .. each of which stands so to its item -/
theorem compL_rel {f : Val → Store → Out (Option Val)} {I : Nat → Store → Prop} {Q : Val → Val → Prop} {N : Nat} : ∀ {xs acc : List Val} {n : Nat} {st : Store}, (∀ x ∈ xs, ∀ n st, n < N → I n st → ∃ v st', f x st = .ok (some v) st' ∧ I (n + 1) st' ∧ Q x v) → n + xs.length ≤ N → acc.length + xs.length ≤ sizeLine → I n st →
    ∃ ys st', compL f xs acc st = .ok (acc ++ ys) st' ∧ I (n + xs.length) st' ∧ ys.length = xs.length ∧ ∀ (i : Nat) x y, xs[i]? = some x → ys[i]? = some y → Q x y
  | [], acc, n, st, _, _, _, h => ⟨[], st, by simp [compL], h, rfl, fun i x y hx => by simp at hx⟩
  | x :: xs, acc, n, st, hf, hN, hl, h => by
    simp only [List.length_cons] at hl hN
    obtain ⟨v, st1, e1, h1, q1⟩ := hf x List.mem_cons_self n st (by omega) h
    obtain ⟨ys, st2, e2, h2, l2, q2⟩ := compL_rel (N := N) (xs := xs) (acc := acc ++ [v]) (fun y hy => hf y (List.mem_cons_of_mem _ hy)) (by omega) (by simp; omega) h1
    refine ⟨v :: ys, st2, ?_, by rw [List.length_cons, show n + (xs.length + 1) = n + 1 + xs.length by omega]; exact h2, by simp [l2], fun i a b ha hb => ?_⟩
    · simp only [compL, e1, Out.noExc, Out.bind_ok]
      rw [if_pos (by omega), e2]
      simp
    · cases i with
      | zero => simp at ha hb; subst ha hb; exact q1
      | succ i => exact q2 i a b (by simpa using ha) (by simpa using hb)
theorem comp_rel {e : E} {t : Tgt} {it : It} {own : List (PySem.Str × Nat)} {env : Env} {st st1 : Store} {items : List Val} {I : Nat → Store → Prop} {Q : Val → Val → Prop} {n : Nat} (hi : evalIt it env st = .ok items st1)
    (hf : ∀ x ∈ items, ∀ k st, k < n + items.length → I k st → ∃ env' v st', bindT t x (wipeE env (own.map (·.2))) = some env' ∧ evalE e env' st = .ok v st' ∧ I (k + 1) st' ∧ Q x v) (hl : items.length ≤ sizeLine) (h0 : I n st1) :
    ∃ ys st', evalN (.comp e t it .none own) env st = .ok (.lst ys) st' ∧ I (n + items.length) st' ∧ ys.length = items.length ∧ ∀ (i : Nat) x y, items[i]? = some x → ys[i]? = some y → Q x y := by
  obtain ⟨ys, st', e1, e2, e3, e4⟩ := compL_rel (f := fun x st2 => match bindT t x (wipeE env (own.map (·.2))) with
      | none => Out.bad
      | some env' => (evalC .none env' st2).bind fun b st3 => if b = true then (evalE e env' st3).bind fun y st4 => .ok (some y) st4 else .ok none st3) (I := I) (Q := Q) (N := n + items.length) (acc := []) (fun x hx k st hk h => by
    obtain ⟨env', v, st', a1, a2, a3, a4⟩ := hf x hx k st hk h
    exact ⟨v, st', by simp only [a1, evalC, Out.bind_ok, if_true, a2], a3, a4⟩) (Nat.le_refl _) (by simpa using hl) h0
  refine ⟨ys, st', ?_, e2, e3, e4⟩
  simp only [evalN, hi, Out.bind_ok]
  refine (congrArg (fun z : Out (List Val) => z.bind fun ys st2 => Out.ok (Cell.lst ys) st2) e1).trans ?_
  simp
theorem bools_map {α : Type} (f : α → Bool) : ∀ xs : List α, boolsOf (xs.map fun p => Val.bl (f p)) = some (xs.map f)
  | [] => rfl
  | x :: xs => by simp [boolsOf, bools_map f xs]
theorem forL_pre' {f : Val → Env → Store → Res} {P : List Val → Env → Store → Prop} {all : List Val} (hf : ∀ ys x zs env st, all = ys ++ x :: zs → P ys env st → ∃ env' st', f x env st = .nx env' st' ∧ P (ys ++ [x]) env' st') :
    ∀ (xs ys : List Val) (env : Env) (st : Store), all = ys ++ xs → P ys env st → ∃ env' st', forL f xs env st = .nx env' st' ∧ P all env' st'
  | [], ys, env, st, e, h => ⟨env, st, rfl, by rw [e, List.append_nil]; exact h⟩
  | x :: xs, ys, env, st, e, h => by
    obtain ⟨env1, st1, e1, h1⟩ := hf ys x xs env st e h
    obtain ⟨env2, st2, e2, h2⟩ := forL_pre' hf xs (ys ++ [x]) env1 st1 (by rw [e]; simp) h1
    exact ⟨env2, st2, by simp only [forL, e1]; exact e2, h2⟩
/-- a walk, by what is done of it -/
theorem forL_pre {f : Val → Env → Store → Res} {P : List Val → Env → Store → Prop} {all : List Val} {env : Env} {st : Store} (h : P [] env st) (hf : ∀ ys x zs env st, all = ys ++ x :: zs → P ys env st → ∃ env' st', f x env st = .nx env' st' ∧ P (ys ++ [x]) env' st') :
    ∃ env' st', forL f all env st = .nx env' st' ∧ P all env' st' := forL_pre' hf all [] env st rfl h
/-- .. that may answer early: each turn goes on or answers v -/
theorem forL_pre2 {f : Val → Env → Store → Res} {P : List Val → Env → Store → Prop} {all : List Val} {env : Env} {st : Store} (h : P [] env st) (hf : ∀ ys x zs env st, all = ys ++ x :: zs → P ys env st → ∃ env' st', f x env st = .nx env' st' ∧ P (ys ++ [x]) env' st') :
    ∃ env' st', forL f all env st = .nx env' st' ∧ P all env' st' := forL_pre h hf
theorem atI_nat {α : Type} {xs : List α} {k : Nat} {v : α} (h : xs[k]? = some v) : atI xs (k : Int) = some v := by
  have hl : k < xs.length := (List.getElem?_eq_some_iff.mp h).1
  have e : ixN xs.length (k : Int) = some k := by
    unfold ixN
    rw [if_pos (by omega), if_pos (by omega)]; simp
  rw [atI, e]; exact h
theorem idx_tup {xs : List Val} {k : Nat} {v : Val} {st : Store} (h : xs[k]? = some v) : idxV (.tup xs) (.int k) st = some v := by simp only [idxV, seqOf, atI_nat h]
theorem idx_lst {xs : List Val} {k : Nat} {v : Val} {st : Store} (h : xs[k]? = some v) : idxV (.lst xs) (.int k) st = some v := by simp only [idxV, seqOf, atI_nat h]
theorem idx0 {a : Val} {xs : List Val} {st : Store} : idxV (.tup (a :: xs)) (.int 0) st = some a := idx_tup (k := 0) rfl
theorem idx1 {a b : Val} {xs : List Val} {st : Store} : idxV (.tup (a :: b :: xs)) (.int 1) st = some b := idx_tup (k := 1) rfl
theorem bop_add {i j : Int} : bop .add (.int i) (.int j) = some (.int (i + j)) := rfl
theorem bop_sub {i j : Int} : bop .sub (.int i) (.int j) = some (.int (i - j)) := rfl
theorem bop_mulL {i j : Int} (h1 : -18446744073709551616 < i) (h2 : i < 18446744073709551616) : bop .mul (.int i) (.int j) = some (.int (i * j)) := by
  have : CMulW i j ∨ CMul i j := .inr (.inl ⟨by omega, by omega⟩)
  simp only [bop, if_pos this]
theorem bop_mulR {i j : Int} (h1 : -18446744073709551616 < j) (h2 : j < 18446744073709551616) : bop .mul (.int i) (.int j) = some (.int (i * j)) := by
  have : CMulW i j ∨ CMul i j := .inr (.inr ⟨by omega, by omega⟩)
  simp only [bop, if_pos this]
theorem bop_fdiv {i j : Int} (h1 : 0 < j) (h2 : j < 18446744073709551616) : bop .fdiv (.int i) (.int j) = some (.int (i / j)) := by
  have : CDivW i j := by
    refine ⟨h1, ?_⟩
    have h3 : j.natAbs < 2 ^ 64 := by omega
    by_cases h0 : j.natAbs = 0
    · rw [h0]; decide
    · have := (Nat.log2_lt h0).mpr h3
      omega
  simp only [bop, if_pos this]
theorem bop_mod {i j : Int} (h1 : 0 < j) : bop .mod (.int i) (.int j) = some (.int (i % j)) := by simp only [bop, if_pos h1]
theorem bop_pow {i j : Int} (h0 : 0 ≤ j) (h1 : j ≤ 1000000) (h2 : i.natAbs < 18446744073709551616) : bop .pow (.int i) (.int j) = some (.int (i ^ j.toNat)) := by
  have : CPow i j := ⟨h0, h1, by omega⟩
  simp only [bop, if_pos this]
/-- a turn of a for -/
noncomputable def turnL (t : Tgt) (body : Ss) (x : Val) (env : Env) (st : Store) : Res := match bindT t x env with
  | some env2 => execs body env2 st
  | none => .bad
theorem exec_loop (t : Tgt) (it : It) (body : Ss) (env : Env) (st : Store) : exec (.loop t it body) env st = (evalIt it env st).res env fun items st1 => forL (turnL t body) items env st1 := by simp only [exec]; rfl
theorem turnL_eq {t : Tgt} {body : Ss} {x : Val} {env env2 : Env} {st : Store} (h : bindT t x env = some env2) : turnL t body x env st = execs body env2 st := by simp only [turnL, h]
/-! ### equations -/
theorem e_var (i : Nat) (env : Env) (st : Store) : evalE (.var i) env st = (Out.of (env.getD i none) st) := by first | (simp only [evalE]; done) | (simp only [evalE]; rfl)
theorem e_lit (v : Val) (env : Env) (st : Store) : evalE (.lit v) env st = (.ok v st) := by first | (simp only [evalE]; done) | (simp only [evalE]; rfl)
theorem e_gcon (x0 : PySem.Str) (v : Val) (env : Env) (st : Store) : evalE (.gcon x0 v) env st = (.ok v st) := by first | (simp only [evalE]; done) | (simp only [evalE]; rfl)
theorem e_gfn (x : PySem.Str) (env : Env) (st : Store) : evalE (.gfn x) env st = (.ok (.fn x) st) := by first | (simp only [evalE]; done) | (simp only [evalE]; rfl)
theorem e_bin (op : Bop) (a b : E) (env : Env) (st : Store) : evalE (.bin op a b) env st = ((evalE a env st).bind fun x st1 => (evalE b env st1).bind fun y st2 => Out.of (bop op x y) st2) := by first | (simp only [evalE]; done) | (simp only [evalE]; rfl)
theorem e_neg (a : E) (env : Env) (st : Store) : evalE (.neg a) env st = ((evalE a env st).bind fun x st1 => match x with | .int i => .ok (.int (-i)) st1 | _ => .bad) := by first | (simp only [evalE]; done) | (simp only [evalE]; rfl)
theorem e_cmp (op : Cop) (a b : E) (env : Env) (st : Store) : evalE (.cmp op a b) env st = ((evalE a env st).bind fun x st1 => (evalE b env st1).bind fun y st2 => Out.of ((cop op x y st2).map .bl) st2) := by first | (simp only [evalE]; done) | (simp only [evalE]; rfl)
theorem e_chain (op op2 : Cop) (a b c : E) (env : Env) (st : Store) : evalE (.chain op op2 a b c) env st = ((evalE a env st).bind fun x st1 => (evalE b env st1).bind fun y st2 => (Out.of (cop op x y st2) st2).bind fun t st3 =>
    if t = true then (evalE c env st3).bind fun z st4 => Out.of ((cop op2 y z st4).map .bl) st4 else .ok (.bl false) st3) := by first | (simp only [evalE]; done) | (simp only [evalE]; rfl)
theorem e_isn (n : Bool) (a : E) (env : Env) (st : Store) : evalE (.isn n a) env st = ((evalE a env st).bind fun x st1 => .ok (.bl (n != isNon x)) st1) := by first | (simp only [evalE]; done) | (simp only [evalE]; rfl)
theorem e_isb (n : Bool) (a : E) (b : Bool) (env : Env) (st : Store) : evalE (.isb n a b) env st = ((evalE a env st).bind fun x st1 => match x with | .bl c => .ok (.bl (n != decide (c = b))) st1 | _ => .bad) := by first | (simp only [evalE]; done) | (simp only [evalE]; rfl)
theorem e_and (a b : E) (env : Env) (st : Store) : evalE (.and a b) env st = ((evalE a env st).bind fun x st1 => (Out.of (truth x st1) st1).bind fun t st2 => if t = true then evalE b env st2 else .ok x st2) := by first | (simp only [evalE]; done) | (simp only [evalE]; rfl)
theorem e_or (a b : E) (env : Env) (st : Store) : evalE (.or a b) env st = ((evalE a env st).bind fun x st1 => (Out.of (truth x st1) st1).bind fun t st2 => if t = true then .ok x st2 else evalE b env st2) := by first | (simp only [evalE]; done) | (simp only [evalE]; rfl)
theorem e_not (a : E) (env : Env) (st : Store) : evalE (.not a) env st = ((evalE a env st).bind fun x st1 => Out.of ((truth x st1).map fun t => .bl (!t)) st1) := by first | (simp only [evalE]; done) | (simp only [evalE]; rfl)
theorem e_ite (c a b : E) (env : Env) (st : Store) : evalE (.ite c a b) env st = ((evalE c env st).bind fun x st1 => (Out.of (truth x st1) st1).bind fun t st2 => if t = true then evalE a env st2 else evalE b env st2) := by first | (simp only [evalE]; done) | (simp only [evalE]; rfl)
theorem e_tup (es : Es) (env : Env) (st : Store) : evalE (.tup es) env st = ((evalEs es env st).bind fun xs st1 => if xs.length ≤ sizeLine then .ok (.tup xs) st1 else .bad) := by first | (simp only [evalE]; done) | (simp only [evalE]; rfl)
theorem e_val (n : Nw) (env : Env) (st : Store) : evalE (.val n) env st = ((evalN n env st).bind fun c st1 => match c with
    | .lst xs => .ok (.lst xs) st1
    | .dK kvs => .ok (.dK kvs) st1
    | .dT kvs => .ok (.dT kvs) st1
    | .dead => .bad) := by first | (simp only [evalE]; done) | (simp only [evalE]; rfl)
theorem e_cell (n : Nw) (env : Env) (st : Store) : evalE (.cell n) env st = ((evalN n env st).bind fun c st1 => .ok (.ref st1.length) (st1 ++ [c])) := by first | (simp only [evalE]; done) | (simp only [evalE]; rfl)
theorem e_idx (o i : E) (env : Env) (st : Store) : evalE (.idx o i) env st = ((evalE o env st).bind fun x st1 => (evalE i env st1).bind fun y st2 => Out.of (idxV x y st2) st2) := by first | (simp only [evalE]; done) | (simp only [evalE]; rfl)
theorem e_slc (o : E) (lo hi : Eo) (env : Env) (st : Store) : evalE (.slc o lo hi) env st = ((evalE o env st).bind fun x st1 => (evalEo lo env st1).bind fun l st2 => (evalEo hi env st2).bind fun h st3 => Out.of (slcV x l h st3) st3) := by first | (simp only [evalE]; done) | (simp only [evalE]; rfl)
theorem e_blt (f : Blt) (es : Es) (env : Env) (st : Store) : evalE (.blt f es) env st = ((evalEs es env st).bind fun xs st1 => Out.of (blt f xs st1) st1) := by first | (simp only [evalE]; done) | (simp only [evalE]; rfl)
theorem e_isi (a : E) (t : Tn) (env : Env) (st : Store) : evalE (.isi a t) env st = ((evalE a env st).bind fun x st1 => Out.of ((isInst x t st1).map .bl) st1) := by first | (simp only [evalE]; done) | (simp only [evalE]; rfl)
theorem e_call (x0 : PySem.Str) (d : Den) (es : Es) (env : Env) (st : Store) : evalE (.call x0 d es) env st = ((evalEs es env st).bind fun xs st1 => d xs st1) := by first | (simp only [evalE]; done) | (simp only [evalE]; rfl)
theorem e_word (x0 : PySem.Str) (wd : (Store → Out Val) → Store → Out Val) (e : E) (env : Env) (st : Store) : evalE (.word x0 wd e) env st = ((wd (fun st' => evalE e env st') st).noExc) := by first | (simp only [evalE]; done) | (simp only [evalE]; rfl)
theorem e_mth (m : Mth) (o : E) (es : Es) (env : Env) (st : Store) : evalE (.mth m o es) env st = ((evalE o env st).bind fun x st1 => if mthPre m x st1 = true then (evalEs es env st1).bind fun xs st2 => mth m x xs st2 else .bad) := by first | (simp only [evalE]; done) | (simp only [evalE]; rfl)
theorem e_lenset (o : E) (env : Env) (st : Store) : evalE (.lenset o) env st = ((evalE o env st).bind fun x st1 => Out.of (lensV x) st1) := by first | (simp only [evalE]; done) | (simp only [evalE]; rfl)
theorem e_litems (o : E) (env : Env) (st : Store) : evalE (.litems o) env st = ((evalE o env st).bind fun x st1 => Out.of (litemsV x st1) st1) := by first | (simp only [evalE]; done) | (simp only [evalE]; rfl)
theorem e_rev (o : E) (env : Env) (st : Store) : evalE (.rev o) env st = ((evalE o env st).bind fun x st1 => Out.of (revV x st1) st1) := by first | (simp only [evalE]; done) | (simp only [evalE]; rfl)
theorem e_callv (i : Nat) (ds : List (PySem.Str × Den)) (es : Es) (env : Env) (st : Store) : evalE (.callv i ds es) env st = ((Out.of ((env.getD i none).bind (fnIn ds)) st).bind fun d st1 => (evalEs es env st1).bind fun xs st2 => d xs st2) := by first | (simp only [evalE]; done) | (simp only [evalE]; rfl)
theorem e_isx {i : Nat} {w : Val} {c : PySem.Str} {b : Bool} {env : Env} {st : Store} (h : env.getD i none = some w) : evalE (.isx i w c b) env st = .ok (.bl b) st := by
  simp only [evalE]
  rw [if_pos h]
theorem execs_nx {s : S} {ss : Ss} {env env' : Env} {st st' : Store} {r : Res} (h : exec s env st = .nx env' st') (h2 : execs ss env' st' = r) : execs (.cons s ss) env st = r := by simp only [execs, h, Res.seq_nx, h2]
theorem execs_nil {env : Env} {st : Store} : execs .nil env st = .nx env st := by simp only [execs]
/-- the word that a def tells of a lambda -/
theorem word_is {x : PySem.Str} {W : (Store → Out Val) → Store → Out Val} {e : E} {env : Env} {st st' : Store} {c : PySem.Str} {o : Val} (h : W (fun st' => evalE e env st') st = .ok (.tup [.str c, o]) st') : evalE (.idx (.word x W e) (.lit (.int 0))) env st = .ok (.str c) st' := by
  simp only [e_idx, e_word, h, Out.noExc, Out.bind_ok, e_lit, idx0, Out.of_some]
theorem word_ne {x : PySem.Str} {W : (Store → Out Val) → Store → Out Val} {e : E} {env : Env} {st st' : Store} {c : PySem.Str} {o : Val} (h : W (fun st' => evalE e env st') st = .ok (.tup [.str c, o]) st') : evalE (.cmp .ne (.idx (.word x W e) (.lit (.int 0))) (.lit (.str c))) env st = .ok (.bl false) st' := by
  simp [e_cmp, word_is h, e_lit, cop, eqV]
theorem word_eq {x : PySem.Str} {W : (Store → Out Val) → Store → Out Val} {e : E} {env : Env} {st st' : Store} {c : PySem.Str} {o : Val} (h : W (fun st' => evalE e env st') st = .ok (.tup [.str c, o]) st') : evalE (.cmp .eq (.idx (.word x W e) (.lit (.int 0))) (.lit (.str c))) env st = .ok (.bl true) st' := by
  simp [e_cmp, word_is h, e_lit, cop, eqV]
/-- a test that fails -/
theorem ite_no {c : E} {a : Ss} {env : Env} {st st' : Store} (h : evalE c env st = .ok (.bl false) st') : exec (.ite c a .nil) env st = .nx env st' := by
  simp [exec, h, truth, execs]
theorem not_yes {c : E} {env : Env} {st st' : Store} (h : evalE c env st = .ok (.bl true) st') : evalE (.not c) env st = .ok (.bl false) st' := by
  simp [e_not, h, truth]
end MP
set_option maxHeartbeats 8000000
/-! MPWordAs: a def that calls what it is handed, and tells by its class what came (one clause with a name). -/
namespace MP
open PySem PyProof.Rows L2
/-- what such a def tells -/
noncomputable def WAs (dom : List PySem.Str) (wt : PySem.Str → PySem.Str) (w1 : PySem.Str) (th : Store → Out Val) (st : Store) : Out Val := match th st with
  | .ok _ st1 => .ok (.str w1) (popTo st st1 (some (.str w1)))
  | .exc d xs st1 => if xs = [] ∧ d ∈ dom then .ok (.str (wt d)) (popTo st st1 (some (.str (wt d)))) else .bad
  | .bad => .bad
/-- what is known of the classes that may come -/
def IsTab (T : Stat) (C0 : Value) (tb : PySem.Str → List (PySem.Str × Bool)) (d : PySem.Str) : Prop :=
  ∃ D : Addr, T.mg d = some (.ref D) ∧ PySem.W.exmOne T.K (.ref D) C0 = some true ∧ ExcC T.K D ∧ ∀ c b, (tb d).lookup c = some b → ∃ Cc : Addr, T.mg c = some (.ref Cc) ∧ PySem.W.kitOne T.K (.ref D) (.ref Cc) = some b
section
variable {T : Stat} {G : GX}
/-- isinstance(e, C) where e is the exception that the suite holds -/
theorem pe_isx {X : Cx} {W : WX} {a D : Addr} {oe : Obj} {pn : List (Addr × Obj)} (C : Cxt (X.suite a ((a, oe) :: pn)) G W) (EC : ExcC X.K D) (hz : Zc (.ref D) none oe) (hf : ∃ vs, oe.data = .fields vs) {F0 : Hp} {m0 : Nat → Addr} {L0 : Nat} {c : PySem.Str} {b : Bool} {Cc : Addr} (hc : X.mg c = some (.ref Cc)) (hk : PySem.W.kitOne X.K (.ref D) (.ref Cc) = some b)
    {i : Nat} {y : PySem.Str} {p1 p2 p3 pos : Pos} (hy : X.N[i]? = some y) (vy : Vis X.env.scope y) (ny : notDbg y = true) (gi : Gl X "isinstance") (gc : Gl X c) (nc : notDbg c = true) :
    PE (X.suite a ((a, oe) :: pn)) (.Call (.Name "isinstance" p1) [.Name y p2, .Name c p3] [] pos) (tE (X.suite a ((a, oe) :: pn)) G W (.isx i (.opq F0 m0 L0 a) c b)) := by
  have hv : PE (X.suite a ((a, oe) :: pn)) (.Name y p2) (tE (X.suite a ((a, oe) :: pn)) G W (.var i)) := s_var C hy vy ny
  have hg : PE (X.suite a ((a, oe) :: pn)) (.Name c p3) (tC (.ref Cc)) := pe_glob gc hc rfl (dbg nc)
  have hA : PA (X.suite a ((a, oe) :: pn)) [.Name y p2, .Name c p3] (tCons (tE (X.suite a ((a, oe) :: pn)) G W (.var i)) (tCons (tC (.ref Cc)) tNil)) := pa_cons hv (pa_cons hg pa_nil rfl) rfl
  refine PE.imp (pe_callB (call_isE EC hz hf) gi (C.bl _ (by decide)) (by decide +kernel) hA (by decide) (by decide) rfl (any_of (by rfl))) fun σ H Q h => ?_
  obtain ⟨F, m, env, st, r, rs, p⟩ := h
  simp only [evalE] at p
  split at p
  · rename_i he
    refine ⟨F, m, env, st, r, rs, ?_⟩
    simp only [evalE, he, Out.of_some]
    intro F' m' H' e' r' u hu
    cases hu with
    | opq k1 k2 k3 =>
      exact ⟨.ref Cc, .ref Cc, b, rfl, fun u hu => hu, hk, p F' m' H' e' r' _ (.bl b)⟩
  · exact p.elim
theorem word_as (TK : TOk T G) {v : Lv} {x a : PySem.Str} {params : Arguments} {body : List PySem.Stmt} {scope : Scope} {f : Addr} {fd : FuncData} {N : List PySem.Str} (F : FunD T.K x x params body scope [] [] f fd) (gm : T.mg x = some (.ref f)) (S : FnScope N [a] scope)
    (hN : N[0]? = some a) (hv : Vis scope a) (ha : notDbg a = true) (hb : Binds T.K fd [a] [])
    {tb : List PySem.Stmt} {c0 n : PySem.Str} {np pos' pos : Pos} {b₀ : PySem.Stmt} {suite rest : List PySem.Stmt} (eB : body = .Try tb [.ExceptHandler (some (.Name c0 np)) (some n) (b₀ :: suite) pos'] [] [] pos :: rest)
    {i : Nat} (hi : N[i]? = some n) (hln : scope.names.lookup n = some .local) (hg0 : glB scope c0 = true) (hd0 : notDbg c0 = true) {C0 : Value} (hC0 : T.mg c0 = some C0)
    (dom : List PySem.Str) (tbl : PySem.Str → List (PySem.Str × Bool)) (hT : ∀ d ∈ dom, IsTab T C0 tbl d) (hs : Val → PySem.Str → Ss) (re : Ss) (wt : PySem.Str → PySem.Str) (w1 : PySem.Str)
    (htb : ∀ w th, mSs N scope (.cons (.thk 0 w th) .nil) tb = true) (hms : ∀ w d, mSs N scope (hs w d) (b₀ :: suite) = true) (hre : mSs N scope re rest = true)
    (oks : ∀ w d, d ∈ dom → okSs T G ⟨0, false, false, false, none, some (i, w, tbl d)⟩ (hs w d)) (okr : okSs T G ⟨0, false, false, true, none, none⟩ re)
    (hx : ∀ w d st, d ∈ dom → execs (hs w d) ((List.replicate N.length none).set i (some w)) st = .rt (.str (wt d)) st) (hr : ∀ env st, execs re env st = .rt (.str w1) st) : WordOk T G v x (WAs dom wt w1) := by
  have kp := F.kp
  obtain ⟨oc, od, dV, kV, doc, pm, an, cdv, ct, osl, rfl, lk, hcd, _, _⟩ := F.ex
  refine ⟨f, params, body, scope, dV, kV, doc, pm, cdv, ct, oc, an, od, osl, N, a, gm, kp, lk, hcd, hb, S, hN, hv, ha, fun X q eT hk hr' => ?_⟩
  subst eT
  intro fl c' s H Q tl act hc h
  obtain ⟨F0, m, st, th, r0, htl, p⟩ := h
  have hr0 : Room 0 (X.A.deeper (envOfC x scope s.heap.objs.size f cdv)) := (hr'.mono hk).deeper _
  have npl : 1 ≤ N.length := by
    have := (List.getElem?_eq_some_iff.mp hN).1
    omega
  obtain ⟨F2, s2, r2, c2, fn2⟩ : ∃ F2, Same F0 F2 ∧ RelH X.K G F2 m st H ∧ F2 c' = some (LamX.CodeO c' q) ∧ ∀ b, F2 b ≠ none → F0 b ≠ none ∨ b = c' := by
    have nm : ∀ n, live st n → m n ≠ c' := fun n l z => by
      obtain ⟨o, e1, _, e3⟩ := r0.cellO l
      rw [z, hc] at e1
      exact e3 c' q (Option.some.inj e1).symm
    cases hF : F0 c' with
    | none => exact ⟨_, Same.upd hF, r0.take hF nm hc (by intro ps z; exact LamX.codeO_ne ps z), upd_same, fun b hb => by
      by_cases e : b = c'
      · exact .inr e
      · rw [upd_ne e] at hb; exact .inl hb⟩
    | some o =>
      rcases r0.fz c' o hF with z | ⟨hd, ob, z⟩
      · rw [hc] at z; cases z
        exact ⟨F0, Same.refl _, r0, hF, fun b hb => .inl hb⟩
      · rw [hc] at z
        exfalso
        unfold LamX.CodeO at z
        cases z
  have hwv : noRef (.opq F2 m st.length fl) = false := by simp [noRef]
  generalize ew : Val.opq F2 m st.length fl = w at hwv
  have C : CS ((cxOf C8.CX0 X.prog X.w X.K X.mg X.base N x scope f cdv X.A X.stack s H C8.E0).nox) G W0 :=
    ⟨⟨takes0, S.nd, by have := hr0.un; show (X.A.deeper (envOfC x scope s.heap.objs.size f cdv)).units + 70 < cLine; omega, TK.gf, TK.bl⟩, fun _ => rfl, PassesOwn.never, rfl, rfl⟩
  have Rthk : ∀ (pn : List (Addr × Obj)) (xe : Value → Shared → Prop) (W : WX), Takes (((cxOf C8.CX0 X.prog X.w X.K X.mg X.base N x scope f cdv X.A X.stack s H C8.E0).nox).tr pn xe) W → ∀ y p1 p2 pos, N[0]? = some y → PS (((cxOf C8.CX0 X.prog X.w X.K X.mg X.base N x scope f cdv X.A X.stack s H C8.E0).nox).tr pn xe) (.Expr (.Call (.Name y p1) [] [] p2) pos) (tS ((cxOf C8.CX0 X.prog X.w X.K X.mg X.base N x scope f cdv X.A X.stack s H C8.E0).nox) G W (.thk 0 w th)) := by
    intro pn xe W tk y p1 p2 pos hy
    have ey : y = a := by
      rw [hN] at hy; cases hy; rfl
    subst ey
    refine ⟨fun pins sZ σ HZ D I h => ?_⟩
    obtain ⟨F1, m1, env, st1, r1, rs1, p1'⟩ := h
    simp only [exec] at p1'
    split at p1'
    · rename_i he
      obtain ⟨y0, hy1, hy2⟩ := rs1.get he
      subst ew
      cases hy2 with
      | opq k1 k2 k3 =>
        have hcz : HZ c' = some (LamX.CodeO c' q) := by
          rcases r1.fz c' _ (k1 c' _ c2) with z | ⟨hd, _, z⟩
          · exact z
          · unfold LamX.CodeO at hd; exact hd.elim
        have lenE : env.length = N.length := by rw [rs1.1]; exact I.len
        have A0 := act (fun cls d σ H => σ.length = N.length → W cls d σ H) pn xe (fun cls d H' => ∀ σ', σ'.length = N.length → W cls d σ' H') p1 p2 (takes_len tk) (fun cls d σ' H' hE hl => hE σ' hl)
        refine (ps_expr (pos := pos) A0 (by rfl)).run pins sZ σ HZ D I ⟨hy1, hcz, ?_⟩
        refine htl _ F1 m1 st1 HZ _ (s2.trans k1) k2 k3 r1 ?_
        cases ht : th st1 with
        | ok v st' =>
          rw [ht] at p1'
          exact fun F' m' H' e' r' _ _ => p1' σ F' m' H' e' r' (rs1.ext e')
        | exc c xs st' =>
          rw [ht] at p1'
          intro F' m' H' e' r' Cc d hC hX σ' hl'
          refine p1' σ' F' m' H' e' r' ⟨by rw [List.length_map, lenE, hl'], fun i u hu => ?_⟩ Cc d hC hX
          rw [List.getElem?_map] at hu
          cases hq : env[i]? with
          | none => rw [hq] at hu; cases hu
          | some o => rw [hq] at hu; cases hu
        | bad => rw [ht] at p1'; exact p1'.elim
    · exact p1'.elim
  have R : RmS ((cxOf C8.CX0 X.prog X.w X.K X.mg X.base N x scope f cdv X.A X.stack s H C8.E0).nox) G ⟨0, false, false, true, some (0, w, th), none⟩ := by
    refine ⟨fun _ => hr0, (fun z => by cases z), (fun z => by cases z), fun _ => rfl, fun i w' th' z pn xe W tk y p1 p2 pos hy => ?_, (fun _ _ _ z => by cases z)⟩
    cases z
    exact Rthk pn xe W tk y p1 p2 pos hy
  have R1 : RmS ((cxOf C8.CX0 X.prog X.w X.K X.mg X.base N x scope f cdv X.A X.stack s H C8.E0).nox) G ⟨0, false, false, true, none, none⟩ :=
    ⟨fun _ => hr0, (fun z => by cases z), (fun z => by cases z), fun _ => rfl, (fun _ _ _ z => by cases z), (fun _ _ _ z => by cases z)⟩
  generalize eX : ((cxOf C8.CX0 X.prog X.w X.K X.mg X.base N x scope f cdv X.A X.stack s H C8.E0).nox) = X1 at C R R1
  have eK : X1.K = X.K := by rw [← eX]; rfl
  have eM : X1.mg = X.mg := by rw [← eX]; rfl
  have eS : stat X1 = stat X := by rw [← eX]; rfl
  have eN : X1.N = N := by rw [← eX]; rfl
  have eSc : X1.env.scope = scope := by rw [← eX]; rfl
  have A1 : At X1 N scope := ⟨eN, eSc⟩
  -- the suite
  let ts : Addr → Value → Option Addr → TS := fun a cls d D σ H => ∃ dn F m st, d = none ∧ dn ∈ dom ∧ X1.mg dn = some cls ∧ RelH X1.K G F m st H ∧ RepS X1.K G F m st.length ((List.replicate N.length none).set i (some (.opq F m st.length a))) σ ∧ ∀ y F' m' H', Ext F m st H F' m' st H' → RelH X1.K G F' m' st H' → Rep X1.K G F' m' st.length (.str (wt dn)) y → D.rt y H'
  have hsu : ∀ (a : Addr) (oe : Obj) (cls : Value) (d : Option Addr) (pn : List (Addr × Obj)), Zc cls d oe → (∃ vs, oe.data = .fields vs) → PSs (X1.suite a ((a, oe) :: pn)) (b₀ :: suite) (ts a cls d) := by
    intro a oe cls d pn hz hf
    refine ⟨fun pins s σ H D I h => ?_⟩
    obtain ⟨dn, F, m, st, rfl, hd, hcls, r, rs, q⟩ := h
    obtain ⟨Dc, t1, t2, t3, t4⟩ := hT dn hd
    have ecls : cls = .ref Dc := by
      rw [eM] at hcls
      have t1' : X.mg dn = some (.ref Dc) := t1
      rw [t1'] at hcls; exact (Option.some.inj hcls).symm
    subst ecls
    have Rs : RmS (X1.suite a ((a, oe) :: pn)) G ⟨0, false, false, false, none, some (i, .opq F m st.length a, tbl dn)⟩ := by
      refine ⟨(fun z => by cases z), (fun z => by cases z), (fun z => by cases z), (fun z => by cases z), (fun _ _ _ z => by cases z), fun i' w' tb' z W c b hl y p1 p2 p3 pos hy vy ny gi gc nc => ?_⟩
      cases z
      obtain ⟨Cc, u1, u2⟩ := t4 c b hl
      have Cs := (C.suite a ((a, oe) :: pn)).c
      have Cs' : Cxt (X1.suite a ((a, oe) :: pn)) G W0 := Cs
      have z := pe_isx (X := X1) (W := W0) (pn := pn) (F0 := F) (m0 := m) (L0 := st.length) Cs' (by rw [eK]; exact t3) hz hf (show X1.mg c = some (.ref Cc) by rw [eM]; exact u1) (by rw [eK]; exact u2) (p1 := p1) (p2 := p2) (p3 := p3) (pos := pos) hy vy ny gi gc nc
      refine PE.imp z fun σ H Q h => ?_
      obtain ⟨F, m, env, st, r, rs, p⟩ := h
      refine ⟨F, m, env, st, r, rs, ?_⟩
      simp only [evalE] at p ⊢
      split at p
      · rename_i he; rw [if_pos he]; exact p
      · exact p.elim
    refine (sSs (hs (.opq F m st.length a) dn) (C.suite a _) ⟨A1.n, A1.s⟩ Rs (b₀ :: suite) (hms _ _) (by rw [show stat (X1.suite a ((a, oe) :: pn)) = stat X1 from rfl, eS]; exact oks _ _ hd)).run pins s σ H D I ⟨F, m, _, st, r, rs, ?_⟩
    rw [hx _ _ _ hd]
    exact q
  have hnames : Names X1 c0 C0 := ⟨A1.gl hg0, dbg hd0, .inl (by rw [eM]; exact hC0)⟩
  have hTry := ps_try_as (X := X1) (np := np) (pos := pos) (pos' := pos') (tb := fun W => tSs X1 G W (.cons (.thk 0 w th) .nil)) C.stk C.frm C.c.nd (show X1.N[i]? = some n by rw [eN]; exact hi) (show X1.env.kindOf n = some .local by show X1.env.scope.names.lookup n = _; rw [eSc]; exact hln) hnames C.c.takes
    (fun W' pn xe tk ow => sSs (.cons (.thk 0 w th) .nil) (X := X1.tr pn xe) ⟨⟨tk, C.c.nd, C.c.units, C.c.gf, C.c.bl⟩, C.fn, ow, C.stk, C.frm⟩ ⟨A1.n, A1.s⟩ (R.tr pn xe) tb (htb w th) ⟨rfl, True.intro⟩) hsu
  have hAll : PSs X1 body (tSeq (fun D σ H => tSs X1 G (wAs X1.K C0 i ts W0 D) (.cons (.thk 0 w th) .nil) D σ H) (tSs X1 G W0 re)) := by
    rw [eB]
    exact pss_cons hTry (sSs re C A1 R1 rest hre (by rw [eS]; exact okr))
  subst eX
  refine ⟨_, hAll, ?_⟩
  have rw0 : Rep X.K G F2 m st.length w (.ref fl) := by rw [← ew]; exact .opq (Same.refl _) (fun _ _ => rfl) (Nat.le_refl _)
  have rsA : Reps X.K G F2 m st.length [w] [.ref fl] := .cons rw0 .nil
  refine ⟨F2, m, _, st, r2, reps_start (T := stat X) (N := N) rsA (by simpa using npl), ?_⟩
  have x2 : Ext F0 m st H F2 m st H := ⟨s2, Nat.le_refl _, fun _ _ => rfl, fun _ _ h => h, fun n h l => absurd l.lt (Nat.not_lt.mpr h), fun _ _ h _ _ => .inl h, fun _ h => h, ?_⟩
  · have p := PostG.step p x2
    unfold WAs at p
    have e1 : (([w].map some ++ List.replicate (N.length - 1) none : Env)).getD 0 none = some w := rfl
    have ex0 : execs (.cons (.thk 0 w th) .nil) ([w].map some ++ List.replicate (N.length - 1) none) st = (match th st with
      | .ok _ st' => .nx ([w].map some ++ List.replicate (N.length - 1) none) st'
      | .exc c xs st' => .ex c xs (([w].map some ++ List.replicate (N.length - 1) none : Env).map fun _ => none) st'
      | .bad => .bad) := by
      simp only [execs, exec, e1, if_true]
      cases th st <;> rfl
    show PostS _ G _ _ F2 m st H (execs (.cons (.thk 0 w th) .nil) ([w].map some ++ List.replicate (N.length - 1) none) st)
    rw [ex0]
    cases ht : th st with
    | ok v st' =>
      rw [ht] at p
      intro σ' F' m' H' e' r' rs'
      refine ⟨F', m', _, st', r', rs', ?_⟩
      rw [hr]
      intro y F'' m'' H'' e'' r'' k
      obtain ⟨z1, z2, z3⟩ := pop_of (v := some (.str w1)) r2 (e'.trans e'') r''
      exact p F'' m'' H'' z1 z2 y (z3 _ rfl y k)
    | exc d xs st' =>
      rw [ht] at p
      dsimp only at p
      split at p
      · rename_i hh
        obtain ⟨rfl, hd⟩ := hh
        intro σ' F' m' H' e' r' rs' Cc d' hC hX
        obtain ⟨Dc, t1, t2, t3, t4⟩ := hT d hd
        have ec : Cc = .ref Dc := by
          have hC' : X.mg d = some Cc := hC
          have t1' : X.mg d = some (.ref Dc) := t1
          rw [t1'] at hC'; exact (Option.some.inj hC').symm
        subst ec
        have ed : d' = none := hX.1 rfl
        subst ed
        refine ⟨true, t2, fun _ a' ha' => ?_, fun z => by cases z⟩
        refine ⟨d, F', m', st', rfl, hd, t1, r', ?_, ?_⟩
        · have el : (([w].map some ++ List.replicate (N.length - 1) none : Env).map fun _ => (none : Option Val)) = List.replicate N.length none := by
            rw [List.map_append, List.map_replicate]
            have : N.length = (N.length - 1) + 1 := by omega
            rw [this, List.replicate_succ]
            simp
          rw [el] at rs'
          exact rs'.set (.opq (Same.refl _) (fun _ _ => rfl) (Nat.le_refl _))
        · intro y F'' m'' H'' e'' r'' k
          obtain ⟨z1, z2, z3⟩ := pop_of (v := some (.str (wt d))) r2 (e'.trans e'') r''
          exact p F'' m'' H'' z1 z2 y (z3 _ rfl y k)
      · exact p.elim
    | bad => rw [ht] at p; exact p.elim
  · intro b hb
    rcases fn2 b hb with z | z
    · exact .inl z
    · subst z
      refine .inr (.inl fun o z d => ?_)
      rw [hc] at z
      cases z
      unfold LamX.CodeO at d
      exact d
/-! the parts of such a def -/
def asTb : List PySem.Stmt → List PySem.Stmt
  | .Try b _ _ _ _ :: _ => b
  | _ => []
def asHd : List PySem.Stmt → List ExceptHandler
  | .Try _ h _ _ _ :: _ => h
  | _ => []
def asPos : List PySem.Stmt → Pos
  | .Try _ _ _ _ p :: _ => p
  | _ => ⟨0, 0, 0, 0⟩
def asRest : List PySem.Stmt → List PySem.Stmt
  | _ :: r => r
  | _ => []
def hdNp : List ExceptHandler → Pos
  | .ExceptHandler (some (.Name _ p)) _ _ _ :: _ => p
  | _ => ⟨0, 0, 0, 0⟩
def hdPos : List ExceptHandler → Pos
  | .ExceptHandler _ _ _ p :: _ => p
  | _ => ⟨0, 0, 0, 0⟩
def hdBody : List ExceptHandler → List PySem.Stmt
  | .ExceptHandler _ _ b _ :: _ => b
  | _ => []
/-! what is seen of the classes -/
def fIsx (c0 d : PySem.Str) (tb : List (PySem.Str × Bool)) (K : PySem.W.Frag) : Bool :=
  fGlo d K && (He.Fa.exm d c0 true).ok K && decide (PySem.W.findIn K (.ref (He.ga K d)) "__getattribute__" = some (some (.builtin "BaseException.__getattribute__"))) && decide (PySem.W.findIn K (.ref (He.ga K d)) "__getattr__" = some none) &&
  decide (PySem.W.subIn K (.ref (He.ga K d)) (.type "BaseException") = some true) && PySem.W.hasDictIn K (He.ga K d) && decide (PySem.W.findIn K (.ref (He.ga K d)) "__class__" = some (some (.builtin "object.__class__"))) &&
  decide (PySem.W.specialIn K (.builtin "object.__class__") "__get__" = some (some (.builtin "getset_descriptor.__get__"))) && decide (PySem.W.takesIn K (.builtin "object.__class__") = some true) && decide (PySem.W.mroIn K (He.ga K d) (.type "object") = some true) &&
  tb.all fun q => fGlo q.1 K && decide (PySem.W.kitOne K (.ref (He.ga K d)) (.ref (He.ga K q.1)) = some q.2)
def fAs (c0 : PySem.Str) (tbs : List (PySem.Str × List (PySem.Str × Bool))) (K : PySem.W.Frag) : Bool := fGlo c0 K && tbs.all fun p => fIsx c0 p.1 p.2 K
def AsOk (T : Stat) (c0 : PySem.Str) (tbs : List (PySem.Str × List (PySem.Str × Bool))) : Prop := ∃ C0, T.mg c0 = some C0 ∧ ∀ d ∈ tbs.map (·.1), IsTab T C0 (fun d => (tbs.lookup d).getD []) d
theorem as_of {h : Heap} (X : T.K.In h) (Gm : h.Ns mainGlobals T.mg) {c0 : PySem.Str} {tbs : List (PySem.Str × List (PySem.Str × Bool))} (c : fAs c0 tbs T.K = true) : AsOk T c0 tbs := by
  simp only [fAs, Bool.and_eq_true] at c
  refine ⟨_, He.glo_ok X Gm c.1, fun d hd => ?_⟩
  have hl : ∃ tb, tbs.lookup d = some tb := by
    obtain ⟨p, hp, rfl⟩ := List.mem_map.mp hd
    have : ∀ {l : List (PySem.Str × List (PySem.Str × Bool))}, p ∈ l → ∃ tb, l.lookup p.1 = some tb := by
      intro l
      induction l with
      | nil => intro h; cases h
      | cons a l ih =>
        intro h
        rw [List.lookup_cons]
        cases e : p.1 == a.1 with
        | true => exact ⟨_, rfl⟩
        | false =>
          refine ih ((List.mem_cons.mp h).resolve_left fun z => ?_)
          rw [z] at e; simp at e
    exact this hp
  obtain ⟨tb, hl⟩ := hl
  have q := List.all_eq_true.mp c.2 (d, tb) (PySem.mem_of_lookup hl)
  simp only [fIsx, Bool.and_eq_true, decide_eq_true_eq] at q
  obtain ⟨⟨⟨⟨⟨⟨⟨⟨⟨⟨q1, q2⟩, q3⟩, q4⟩, q5⟩, q6⟩, q7⟩, q8⟩, q9⟩, q10⟩, q11⟩ := q
  refine ⟨_, He.glo_ok X Gm q1, of_decide_eq_true q2, ⟨q3, q4, q5, q6, q7, q8, q9, q10⟩, fun c b hcb => ?_⟩
  have hcb : ((tbs.lookup d).getD []).lookup c = some b := hcb
  rw [hl] at hcb
  have z := List.all_eq_true.mp q11 (c, b) (PySem.mem_of_lookup hcb)
  simp only [Bool.and_eq_true, decide_eq_true_eq] at z
  exact ⟨_, He.glo_ok X Gm z.1, z.2⟩
end
end MP
set_option maxHeartbeats 8000000
/-! the defs of law k31 in the small language (printed by gen.py) -/
namespace MP.Pk31
open PySem PyProof.Rows L2 MP
noncomputable section
abbrev R : PySem.W.OpenLaw := PySem.Challenge.rw_arrivalboards_k31_whole_moves_of_heaps_c
def top (i : Nat) : PySem.Stmt := R.prog.main.body.getD i (.Pass ⟨0, 0, 0, 0⟩)
def mt_BallError : List (PySem.Str × Bool) := [("NoBoard", true), ("NoHands", true), ("NoHeap", true), ("NoMoves", true)]
def mt_NoBoard : List (PySem.Str × Bool) := [("NoBoard", true), ("NoHands", false), ("NoHeap", false), ("NoMoves", false)]
def mt_NoHands : List (PySem.Str × Bool) := [("NoBoard", false), ("NoHands", true), ("NoHeap", false), ("NoMoves", false)]
def mt_NoHeap : List (PySem.Str × Bool) := [("NoBoard", false), ("NoHands", false), ("NoHeap", true), ("NoMoves", false)]
def mt_NoMoves : List (PySem.Str × Bool) := [("NoBoard", false), ("NoHands", false), ("NoHeap", false), ("NoMoves", true)]
def b_is_integer : Ss := .cons (.ret (.and (.isi (.var 0) .int) (.not (.isi (.var 0) .bool)))) .nil
abbrev N_is_integer : List PySem.Str := ["thing"]
def D_is_integer : Den := runFn 1 1 b_is_integer
def b_is_within : Ss := .cons (.ret (.and (.call "is_integer" D_is_integer (.cons (.var 0) .nil)) (.chain .le .le (.var 1) (.var 0) (.var 2)))) .nil
abbrev N_is_within : List PySem.Str := ["thing", "low", "high"]
def D_is_within : Den := runFn 3 3 b_is_within
def b_is_tuple_of : Ss := .cons (.ret (.and (.isi (.var 0) .tuple) (.cmp .eq (.blt .len (.cons (.var 0) .nil)) (.var 1)))) .nil
abbrev N_is_tuple_of : List PySem.Str := ["thing", "size"]
def D_is_tuple_of : Den := runFn 2 2 b_is_tuple_of
def b_is_place_of : Ss := .cons (.ite (.or (.not (.call "is_tuple_of" D_is_tuple_of (.cons (.var 2) (.cons (.lit (.int 2)) .nil)))) (.not (.isi (.idx (.var 2) (.lit (.int 0))) .str))) (.cons (.ret (.lit (.bl false))) .nil) (.nil)) (.cons (.ite (.cmp .eq (.idx (.var 2) (.lit (.int 0))) (.gcon "SWITCH" (.str "switch"))) (.cons (.ret (.call "is_within" D_is_within (.cons (.idx (.var 2) (.lit (.int 1))) (.cons (.lit (.int 0)) (.cons (.bin .sub (.var 1) (.lit (.int 1))) .nil))))) .nil) (.nil)) (.cons (.ret (.and (.cmp .eq (.idx (.var 2) (.lit (.int 0))) (.gcon "CUP" (.str "cup"))) (.call "is_within" D_is_within (.cons (.idx (.var 2) (.lit (.int 1))) (.cons (.lit (.int 0)) (.cons (.bin .sub (.var 0) (.lit (.int 1))) .nil)))))) .nil))
abbrev N_is_place_of : List PySem.Str := ["cups", "switches", "thing"]
def D_is_place_of : Den := runFn 3 3 b_is_place_of
def c_is_board_0 : Nw := .comp (.call "is_place_of" D_is_place_of (.cons (.var 2) (.cons (.blt .len (.cons (.var 3) .nil)) (.cons (.var 4) .nil)))) (.name 4) (.seq (.var 1)) .none [("one", 4)]
def lb_is_board_0 : Ss := .cons (.ite (.or (.not (.isi (.var 1) .tuple)) (.not (.chain .le .le (.lit (.int 1)) (.blt .len (.cons (.var 1) .nil)) (.gcon "MOST_EXITS" (.int 4))))) (.cons (.ret (.lit (.bl false))) .nil) (.nil)) (.cons (.ite (.not (.blt .all (.cons (.val c_is_board_0) .nil))) (.cons (.ret (.lit (.bl false))) .nil) (.nil)) .nil)
def l_is_board_0 : S := .loop (.name 1) (.seq (.var 3)) lb_is_board_0
def b_is_board : Ss := .cons (.ite (.or (.not (.call "is_tuple_of" D_is_tuple_of (.cons (.var 0) (.cons (.lit (.int 2)) .nil)))) (.or (.not (.call "is_within" D_is_within (.cons (.idx (.var 0) (.lit (.int 0))) (.cons (.lit (.int 1)) (.cons (.gcon "MOST_CUPS" (.int 4)) .nil))))) (.not (.isi (.idx (.var 0) (.lit (.int 1))) .tuple)))) (.cons (.ret (.lit (.bl false))) .nil) (.nil)) (.cons (.unp [.name 2, .name 3] (.var 0)) (.cons (.ite (.not (.chain .le .le (.lit (.int 1)) (.blt .len (.cons (.var 3) .nil)) (.gcon "MOST_SWITCHES" (.int 24)))) (.cons (.ret (.lit (.bl false))) .nil) (.nil)) (.cons (l_is_board_0) (.cons (.ret (.lit (.bl true))) .nil))))
abbrev N_is_board : List PySem.Str := ["thing", "exits", "cups", "switches", "one"]
def D_is_board : Den := runFn 1 5 b_is_board
def b_check_board : Ss := .cons (.ite (.not (.call "is_board" D_is_board (.cons (.var 0) .nil))) (.cons (.raise "NoBoard") .nil) (.nil)) .nil
abbrev N_check_board : List PySem.Str := ["board"]
def D_check_board : Den := runFn 1 1 b_check_board
def c_raw_is_hands_0 : Nw := .comp (.call "is_within" D_is_within (.cons (.var 2) (.cons (.lit (.int 0)) (.cons (.bin .sub (.blt .len (.cons (.var 3) .nil)) (.lit (.int 1))) .nil)))) (.tup [.name 2, .name 3]) (.zip (.var 1) (.idx (.var 0) (.lit (.int 1)))) .none [("hand", 2), ("exits", 3)]
def b_raw_is_hands : Ss := .cons (.ite (.not (.call "is_tuple_of" D_is_tuple_of (.cons (.var 1) (.cons (.blt .len (.cons (.idx (.var 0) (.lit (.int 1))) .nil)) .nil)))) (.cons (.ret (.lit (.bl false))) .nil) (.nil)) (.cons (.ret (.blt .all (.cons (.val c_raw_is_hands_0) .nil))) .nil)
abbrev N_raw_is_hands : List PySem.Str := ["board", "thing", "hand", "exits"]
def D_raw_is_hands : Den := runFn 2 4 b_raw_is_hands
def b_check_hands : Ss := .cons (.expr (.call "check_board" D_check_board (.cons (.var 0) .nil))) (.cons (.ite (.not (.call "raw_is_hands" D_raw_is_hands (.cons (.var 0) (.cons (.var 1) .nil)))) (.cons (.raise "NoHands") .nil) (.nil)) .nil)
abbrev N_check_hands : List PySem.Str := ["board", "hands"]
def D_check_hands : Den := runFn 2 2 b_check_hands
def b_is_number : Ss := .cons (.ret (.and (.call "is_integer" D_is_integer (.cons (.var 0) .nil)) (.cmp .ge (.var 0) (.lit (.int 0))))) .nil
abbrev N_is_number : List PySem.Str := ["thing"]
def D_is_number : Den := runFn 1 1 b_is_number
def c_raw_is_heap_0 : Nw := .comp (.call "is_within" D_is_within (.cons (.var 2) (.cons (.lit (.int 0)) (.cons (.gcon "MOST_WAIT" (.int 1000000000000000000000000000000)) .nil)))) (.name 2) (.seq (.var 1)) .none [("one", 2)]
def b_raw_is_heap : Ss := .cons (.ret (.and (.call "is_tuple_of" D_is_tuple_of (.cons (.var 1) (.cons (.blt .len (.cons (.idx (.var 0) (.lit (.int 1))) .nil)) .nil))) (.blt .all (.cons (.val c_raw_is_heap_0) .nil)))) .nil
abbrev N_raw_is_heap : List PySem.Str := ["board", "thing", "one"]
def D_raw_is_heap : Den := runFn 2 3 b_raw_is_heap
def b_is_heap : Ss := .cons (.expr (.call "check_board" D_check_board (.cons (.var 0) .nil))) (.cons (.ret (.call "raw_is_heap" D_raw_is_heap (.cons (.var 0) (.cons (.var 1) .nil)))) .nil)
abbrev N_is_heap : List PySem.Str := ["board", "thing"]
def D_is_heap : Den := runFn 2 2 b_is_heap
def c_raw_are_moves_0 : Nw := .comp (.call "is_number" D_is_number (.cons (.var 2) .nil)) (.name 2) (.seq (.var 1)) .none [("one", 2)]
def b_raw_are_moves : Ss := .cons (.ret (.and (.call "is_tuple_of" D_is_tuple_of (.cons (.var 1) (.cons (.blt .len (.cons (.idx (.var 0) (.lit (.int 1))) .nil)) .nil))) (.blt .all (.cons (.val c_raw_are_moves_0) .nil)))) .nil
abbrev N_raw_are_moves : List PySem.Str := ["board", "thing", "one"]
def D_raw_are_moves : Den := runFn 2 3 b_raw_are_moves
def b_are_moves : Ss := .cons (.expr (.call "check_board" D_check_board (.cons (.var 0) .nil))) (.cons (.ret (.call "raw_are_moves" D_raw_are_moves (.cons (.var 0) (.cons (.var 1) .nil)))) .nil)
abbrev N_are_moves : List PySem.Str := ["board", "thing"]
def D_are_moves : Den := runFn 2 2 b_are_moves
def b_check_hand : Ss := .cons (.expr (.call "check_board" D_check_board (.cons (.var 0) .nil))) (.cons (.expr (.call "check_hands" D_check_hands (.cons (.var 0) (.cons (.var 1) .nil)))) .nil)
abbrev N_check_hand : List PySem.Str := ["board", "hands"]
def D_check_hand : Den := runFn 2 2 b_check_hand
def b_check_moves : Ss := .cons (.ite (.not (.call "raw_are_moves" D_raw_are_moves (.cons (.var 0) (.cons (.var 1) .nil)))) (.cons (.raise "NoMoves") .nil) (.nil)) .nil
abbrev N_check_moves : List PySem.Str := ["board", "moves"]
def D_check_moves : Den := runFn 2 2 b_check_moves
def b_check_heap : Ss := .cons (.expr (.call "check_hand" D_check_hand (.cons (.var 0) (.cons (.var 1) .nil)))) (.cons (.ite (.not (.call "raw_is_heap" D_raw_is_heap (.cons (.var 0) (.cons (.var 2) .nil)))) (.cons (.raise "NoHeap") .nil) (.nil)) .nil)
abbrev N_check_heap : List PySem.Str := ["board", "hands", "heap"]
def D_check_heap : Den := runFn 3 3 b_check_heap
def c_along_exits_0 : Nw := .comp (.bin .sub (.bin .add (.var 1) (.var 6)) (.bin .mul (.var 0) (.bin .fdiv (.bin .add (.var 1) (.var 6)) (.var 0)))) (.name 6) (.range1 (.var 5)) .none [("turn", 6)]
def c_along_exits_1 : Nw := .comp (.bin .add (.var 4) (.blt .int (.cons (.cmp .isin (.var 7) (.var 3)) .nil))) (.name 7) (.range1 (.var 0)) .none [("at", 7)]
def b_along_exits : Ss := .cons (.unp [.name 4, .name 5] (.tup (.cons (.bin .fdiv (.var 2) (.var 0)) (.cons (.bin .sub (.var 2) (.bin .mul (.var 0) (.bin .fdiv (.var 2) (.var 0)))) (.nil))))) (.cons (.asg 3 (.val c_along_exits_0)) (.cons (.ret (.blt .tuple (.cons (.val c_along_exits_1) .nil))) .nil))
abbrev N_along_exits : List PySem.Str := ["many", "hand", "moves", "ahead", "whole", "rest", "turn", "at"]
def D_along_exits : Den := runFn 3 8 b_along_exits
def c_raw_outflow_0 : Nw := .comp (.call "along_exits" D_along_exits (.cons (.blt .len (.cons (.var 3) .nil)) (.cons (.var 4) (.cons (.var 5) .nil)))) (.tup [.name 3, .name 4, .name 5]) (.zip3 (.idx (.var 0) (.lit (.int 1))) (.var 1) (.var 2)) .none [("exits", 3), ("hand", 4), ("one", 5)]
def b_raw_outflow : Ss := .cons (.ret (.blt .tuple (.cons (.val c_raw_outflow_0) .nil))) .nil
abbrev N_raw_outflow : List PySem.Str := ["board", "hands", "moves", "exits", "hand", "one"]
def D_raw_outflow : Den := runFn 3 6 b_raw_outflow
def b_outflow : Ss := .cons (.expr (.call "check_hand" D_check_hand (.cons (.var 0) (.cons (.var 1) .nil)))) (.cons (.expr (.call "check_moves" D_check_moves (.cons (.var 0) (.cons (.var 2) .nil)))) (.cons (.ret (.call "raw_outflow" D_raw_outflow (.cons (.var 0) (.cons (.var 1) (.cons (.var 2) .nil))))) .nil))
abbrev N_outflow : List PySem.Str := ["board", "hands", "moves"]
def D_outflow : Den := runFn 3 3 b_outflow
def lb_raw_hands_by_0 : Ss := .cons (.expr (.mth .append (.var 3) (.cons (.bin .sub (.bin .add (.var 5) (.var 6)) (.bin .mul (.blt .len (.cons (.var 4) .nil)) (.bin .fdiv (.bin .add (.var 5) (.var 6)) (.blt .len (.cons (.var 4) .nil))))) .nil))) .nil
def l_raw_hands_by_0 : S := .loop (.tup [.name 4, .name 5, .name 6]) (.zip3 (.idx (.var 0) (.lit (.int 1))) (.var 1) (.var 2)) lb_raw_hands_by_0
def b_raw_hands_by : Ss := .cons (.asg 3 (.cell (.lst (.nil)))) (.cons (l_raw_hands_by_0) (.cons (.frz 3) (.cons (.ret (.blt .tuple (.cons (.var 3) .nil))) .nil)))
abbrev N_raw_hands_by : List PySem.Str := ["board", "hands", "moves", "found", "exits", "hand", "one"]
def D_raw_hands_by : Den := runFn 3 7 b_raw_hands_by
def b_hands_behind_moves : Ss := .cons (.expr (.call "check_hand" D_check_hand (.cons (.var 0) (.cons (.var 1) .nil)))) (.cons (.expr (.call "check_moves" D_check_moves (.cons (.var 0) (.cons (.var 2) .nil)))) (.cons (.ret (.call "raw_hands_by" D_raw_hands_by (.cons (.var 0) (.cons (.var 1) (.cons (.var 2) .nil))))) .nil))
abbrev N_hands_behind_moves : List PySem.Str := ["board", "hands", "moves"]
def D_hands_behind_moves : Den := runFn 3 3 b_hands_behind_moves
def lb_raw_inflow_0 : Ss := .cons (.ite (.cmp .eq (.var 8) (.gcon "CUP" (.str "cup"))) (.cons (.augix (.var 3) (.var 9) .add (.var 7)) .nil) (.cons (.augix (.var 4) (.var 9) .add (.var 7)) .nil)) .nil
def l_raw_inflow_0 : S := .loop (.tup [.tup [.name 8, .name 9], .name 7]) (.zip (.var 5) (.var 6)) lb_raw_inflow_0
def lb_raw_inflow_1 : Ss := .cons (l_raw_inflow_0) .nil
def l_raw_inflow_1 : S := .loop (.tup [.name 5, .name 6]) (.zip (.idx (.var 0) (.lit (.int 1))) (.call "raw_outflow" D_raw_outflow (.cons (.var 0) (.cons (.var 1) (.cons (.var 2) .nil))))) lb_raw_inflow_1
def b_raw_inflow : Ss := .cons (.par [3, 4] (.cons (.cell (.rep (.val (.lst (.cons (.lit (.int 0)) .nil))) (.idx (.var 0) (.lit (.int 0))))) (.cons (.cell (.rep (.val (.lst (.cons (.lit (.int 0)) .nil))) (.blt .len (.cons (.idx (.var 0) (.lit (.int 1))) .nil)))) (.nil)))) (.cons (l_raw_inflow_1) (.cons (.frz 3) (.cons (.frz 4) (.cons (.ret (.tup (.cons (.var 3) (.cons (.var 4) .nil)))) .nil))))
abbrev N_raw_inflow : List PySem.Str := ["board", "hands", "moves", "cups", "switches", "exits", "flows", "many", "word", "number"]
def D_raw_inflow : Den := runFn 3 10 b_raw_inflow
def b_cups_by : Ss := .cons (.expr (.call "check_hand" D_check_hand (.cons (.var 0) (.cons (.var 1) .nil)))) (.cons (.expr (.call "check_moves" D_check_moves (.cons (.var 0) (.cons (.var 2) .nil)))) (.cons (.ret (.blt .tuple (.cons (.idx (.call "raw_inflow" D_raw_inflow (.cons (.var 0) (.cons (.var 1) (.cons (.var 2) .nil)))) (.lit (.int 0))) .nil))) .nil))
abbrev N_cups_by : List PySem.Str := ["board", "hands", "moves"]
def D_cups_by : Den := runFn 3 3 b_cups_by
def c_raw_waiting_0 : Nw := .comp (.bin .sub (.bin .add (.var 5) (.var 6)) (.var 7)) (.tup [.name 5, .name 6, .name 7]) (.zip3 (.var 2) (.var 4) (.var 3)) .none [("one", 5), ("more", 6), ("less", 7)]
def b_raw_waiting : Ss := .cons (.asg 4 (.idx (.call "raw_inflow" D_raw_inflow (.cons (.var 0) (.cons (.var 1) (.cons (.var 3) .nil)))) (.lit (.int 1)))) (.cons (.ret (.blt .tuple (.cons (.val c_raw_waiting_0) .nil))) .nil)
abbrev N_raw_waiting : List PySem.Str := ["board", "hands", "heap", "moves", "comes", "one", "more", "less"]
def D_raw_waiting : Den := runFn 4 8 b_raw_waiting
def b_waiting : Ss := .cons (.expr (.call "check_heap" D_check_heap (.cons (.var 0) (.cons (.var 1) (.cons (.var 2) .nil))))) (.cons (.expr (.call "check_moves" D_check_moves (.cons (.var 0) (.cons (.var 3) .nil)))) (.cons (.ret (.call "raw_waiting" D_raw_waiting (.cons (.var 0) (.cons (.var 1) (.cons (.var 2) (.cons (.var 3) .nil)))))) .nil))
abbrev N_waiting : List PySem.Str := ["board", "hands", "heap", "moves"]
def D_waiting : Den := runFn 4 4 b_waiting
def c_law_hand_0 : Nw := .comp (.bin .mod (.blt .int (.cons (.blt .abs (.cons (.blt .int (.cons (.var 2) .nil)) .nil)) .nil)) (.bin .pow (.lit (.int 10)) (.lit (.int 36)))) (.name 2) (.seq (.slc (.var 0) .none (.some (.lit (.int 63))))) .none [("cell", 2)]
def b_law_hand : Ss := .cons (.asg 1 (.val c_law_hand_0)) (.cons (.ret (.cell (.lst (.cons (.var 1) (.cons (.lit (.int 0)) (.cons (.lit (.int 0)) (.cons (.bin .add (.lit (.int 499)) (.bin .mul (.lit (.int 239)) (.blt .len (.cons (.var 1) .nil)))) (.cons (.lit (.int 0)) .nil)))))))) .nil)
abbrev N_law_hand : List PySem.Str := ["script", "cells", "cell"]
def D_law_hand : Den := runFn 1 3 b_law_hand
def b_law_draw : Ss := .cons (.ite (.and (.cmp .eq (.idx (.var 0) (.lit (.int 2))) (.lit (.int 0))) (.cmp .lt (.idx (.var 0) (.lit (.int 1))) (.blt .len (.cons (.idx (.var 0) (.lit (.int 0))) .nil)))) (.cons (.asg 3 (.idx (.idx (.var 0) (.lit (.int 0))) (.idx (.var 0) (.lit (.int 1))))) (.cons (.setix (.var 0) (.lit (.int 1)) (.bin .add (.idx (.var 0) (.lit (.int 1))) (.lit (.int 1)))) (.cons (.setix (.var 0) (.lit (.int 3)) (.bin .mod (.blt .int (.cons (.bin .add (.bin .add (.bin .mul (.idx (.var 0) (.lit (.int 3))) (.lit (.int 69621))) (.bin .mul (.var 3) (.lit (.int 48271)))) (.lit (.int 17))) .nil)) (.lit (.int 2147483629)))) (.cons (.ite (.cmp .ge (.var 3) (.bin .pow (.lit (.int 10)) (.lit (.int 18)))) (.cons (.setix (.var 0) (.lit (.int 2)) (.var 3)) .nil) (.nil)) .nil)))) (.nil)) (.cons (.ite (.cmp .gt (.idx (.var 0) (.lit (.int 2))) (.lit (.int 0))) (.cons (.asg 4 (.bin .mod (.blt .int (.cons (.idx (.var 0) (.lit (.int 2))) .nil)) (.var 1))) (.cons (.setix (.var 0) (.lit (.int 2)) (.bin .fdiv (.idx (.var 0) (.lit (.int 2))) (.var 1))) (.cons (.ret (.var 4)) .nil))) (.nil)) (.cons (.setix (.var 0) (.lit (.int 4)) (.bin .add (.idx (.var 0) (.lit (.int 4))) (.lit (.int 1)))) (.cons (.asg 2 (.bin .mod (.blt .int (.cons (.bin .mul (.blt .int (.cons (.bin .add (.idx (.var 0) (.lit (.int 3))) (.bin .mul (.lit (.int 7919)) (.idx (.var 0) (.lit (.int 4))))) .nil)) (.lit (.int 40692))) .nil)) (.lit (.int 2147483647)))) (.cons (.asg 2 (.bin .mod (.blt .int (.cons (.bin .mul (.var 2) (.bin .add (.bin .fdiv (.var 2) (.lit (.int 1009))) (.lit (.int 69621)))) .nil)) (.lit (.int 2147483647)))) (.cons (.asg 2 (.bin .mod (.blt .int (.cons (.bin .mul (.var 2) (.bin .add (.bin .fdiv (.var 2) (.lit (.int 2003))) (.lit (.int 40014)))) .nil)) (.lit (.int 2147483563)))) (.cons (.ret (.bin .mod (.blt .int (.cons (.bin .fdiv (.var 2) (.lit (.int 16))) .nil)) (.var 1))) .nil))))))
abbrev N_law_draw : List PySem.Str := ["hand", "many", "number", "cell", "digit"]
def D_law_draw : Den := runFn 2 5 b_law_draw
def b_law_some : Ss := .cons (.ret (.idx (.var 1) (.call "_law_draw" D_law_draw (.cons (.var 0) (.cons (.blt .len (.cons (.var 1) .nil)) .nil))))) .nil
abbrev N_law_some : List PySem.Str := ["hand", "things"]
def D_law_some : Den := runFn 2 2 b_law_some
def b_law_is : Ss := .cons (.ret (.cmp .eq (.blt .repr (.cons (.var 0) .nil)) (.blt .repr (.cons (.var 1) .nil)))) .nil
abbrev N_law_is : List PySem.Str := ["mine", "yours"]
def D_law_is : Den := runFn 2 2 b_law_is
def b_law_place : Ss := .cons (.asg 3 (.call "_law_draw" D_law_draw (.cons (.var 0) (.cons (.bin .add (.var 1) (.bin .mul (.lit (.int 2)) (.var 2))) .nil)))) (.cons (.ret (.ite (.cmp .lt (.var 3) (.var 1)) (.tup (.cons (.lit (.str "cup")) (.cons (.var 3) .nil))) (.tup (.cons (.lit (.str "switch")) (.cons (.bin .fdiv (.bin .sub (.var 3) (.var 1)) (.lit (.int 2))) .nil))))) .nil)
abbrev N_law_place : List PySem.Str := ["hand", "cups", "many", "at"]
def D_law_place : Den := runFn 3 4 b_law_place
def c_law_board_0 : Nw := .comp (.call "_law_place" D_law_place (.cons (.var 0) (.cons (.var 2) (.cons (.var 3) .nil)))) (.name 5) (.range1 (.bin .add (.lit (.int 1)) (.call "_law_draw" D_law_draw (.cons (.var 0) (.cons (.lit (.int 4)) .nil))))) .none [("e", 5)]
def lb_law_board_0 : Ss := .cons (.expr (.mth .append (.var 4) (.cons (.blt .tuple (.cons (.val c_law_board_0) .nil)) .nil))) .nil
def l_law_board_0 : S := .loop (.name 1) (.range1 (.var 3)) lb_law_board_0
def b_law_board : Ss := .cons (.unp [.name 2, .name 3, .name 4] (.tup (.cons (.bin .add (.lit (.int 1)) (.call "_law_draw" D_law_draw (.cons (.var 0) (.cons (.lit (.int 3)) .nil)))) (.cons (.bin .add (.lit (.int 1)) (.call "_law_draw" D_law_draw (.cons (.var 0) (.cons (.lit (.int 5)) .nil)))) (.cons (.cell (.lst (.nil))) (.nil)))))) (.cons (l_law_board_0) (.cons (.frz 4) (.cons (.ret (.tup (.cons (.var 2) (.cons (.blt .tuple (.cons (.var 4) .nil)) .nil)))) .nil)))
abbrev N_law_board : List PySem.Str := ["hand", "s", "cups", "many", "found", "e"]
def D_law_board : Den := runFn 1 6 b_law_board
def c_law_hands_0 : Nw := .comp (.call "_law_draw" D_law_draw (.cons (.var 0) (.cons (.blt .len (.cons (.var 2) .nil)) .nil))) (.name 2) (.seq (.idx (.var 1) (.lit (.int 1)))) .none [("exits", 2)]
def b_law_hands : Ss := .cons (.ret (.blt .tuple (.cons (.val c_law_hands_0) .nil))) .nil
abbrev N_law_hands : List PySem.Str := ["hand", "board", "exits"]
def D_law_hands : Den := runFn 2 3 b_law_hands
def wb_law_word (w : Val) (th : Store → Out Val) : Ss := .cons (.tryS (.cons (.thk 0 w th) .nil) (.cons "NoBoard" (mt_NoBoard) (.cons (.ret (.tup (.cons (.lit (.str "NoBoard")) (.cons (.lit .non) .nil)))) .nil) (.cons "NoHands" (mt_NoHands) (.cons (.ret (.tup (.cons (.lit (.str "NoHands")) (.cons (.lit .non) .nil)))) .nil) (.cons "NoHeap" (mt_NoHeap) (.cons (.ret (.tup (.cons (.lit (.str "NoHeap")) (.cons (.lit .non) .nil)))) .nil) (.cons "NoMoves" (mt_NoMoves) (.cons (.ret (.tup (.cons (.lit (.str "NoMoves")) (.cons (.lit .non) .nil)))) .nil) (.cons "BallError" (mt_BallError) (.cons (.ret (.tup (.cons (.lit (.str "other")) (.cons (.lit .non) .nil)))) .nil) (.nil))))))) (.cons (.ret (.tup (.cons (.lit (.str "")) (.cons (.lit .non) .nil)))) .nil)
abbrev N_law_word : List PySem.Str := ["call"]
def W_law_word (th : Store → Out Val) (st : Store) : Out Val := runFn 1 1 (wb_law_word w0 th) [w0] st
def b_law_no_board : Ss := .cons (.asg 1 (.val (.lst (.cons (.lit .non) (.cons (.tup (.nil)) (.cons (.lit (.str "?")) (.cons (.lit (.int 0)) (.cons (.tup (.cons (.lit (.int 1)) (.cons (.tup (.nil)) .nil))) (.cons (.tup (.cons (.lit (.int 0)) (.cons (.tup (.cons (.tup (.cons (.tup (.cons (.lit (.str "switch")) (.cons (.lit (.int 0)) .nil))) .nil)) .nil)) .nil))) (.cons (.tup (.cons (.lit (.int 5)) (.cons (.tup (.cons (.tup (.cons (.tup (.cons (.lit (.str "cup")) (.cons (.lit (.int 0)) .nil))) .nil)) .nil)) .nil))) (.cons (.tup (.cons (.lit (.int 1)) (.cons (.tup (.cons (.tup (.nil)) .nil)) .nil))) .nil))))))))))) (.cons (.asg 1 (.bin .add (.var 1) (.val (.lst (.cons (.val (.lst (.cons (.lit (.int 1)) (.cons (.tup (.cons (.tup (.cons (.tup (.cons (.lit (.str "cup")) (.cons (.lit (.int 0)) .nil))) .nil)) .nil)) .nil)))) (.cons (.tup (.cons (.lit (.int 1)) (.cons (.tup (.cons (.tup (.cons (.tup (.cons (.lit (.str "cup")) (.cons (.lit (.int 1)) .nil))) .nil)) .nil)) .nil))) (.cons (.tup (.cons (.lit (.int 1)) (.cons (.tup (.cons (.tup (.cons (.tup (.cons (.lit (.str "switch")) (.cons (.lit (.int 1)) .nil))) .nil)) .nil)) .nil))) .nil))))))) (.cons (.asg 1 (.bin .add (.var 1) (.val (.lst (.cons (.tup (.cons (.lit (.int 1)) (.cons (.tup (.cons (.bin .mul (.tup (.cons (.tup (.cons (.lit (.str "cup")) (.cons (.lit (.int 0)) .nil))) .nil)) (.lit (.int 5))) .nil)) .nil))) (.cons (.tup (.cons (.lit (.int 1)) (.cons (.bin .mul (.tup (.cons (.tup (.cons (.tup (.cons (.lit (.str "cup")) (.cons (.lit (.int 0)) .nil))) .nil)) .nil)) (.lit (.int 25))) .nil))) .nil)))))) (.cons (.ret (.call "_law_some" D_law_some (.cons (.var 0) (.cons (.bin .add (.var 1) (.val (.lst (.cons (.tup (.cons (.lit (.int 1)) (.cons (.val (.lst (.cons (.tup (.cons (.tup (.cons (.lit (.str "cup")) (.cons (.lit (.int 0)) .nil))) .nil)) .nil))) .nil))) (.cons (.tup (.cons (.lit (.bl true)) (.cons (.tup (.cons (.tup (.cons (.tup (.cons (.lit (.str "cup")) (.cons (.lit (.int 0)) .nil))) .nil)) .nil)) .nil))) (.cons (.tup (.cons (.lit (.int 1)) (.cons (.tup (.cons (.tup (.cons (.tup (.cons (.lit (.str "cups")) (.cons (.lit (.int 0)) .nil))) .nil)) .nil)) .nil))) (.cons (.val (.dct false)) .nil))))))) .nil)))) .nil)))
abbrev N_law_no_board : List PySem.Str := ["hand", "some"]
def D_law_no_board : Den := runFn 1 2 b_law_no_board
def b_law_number : Ss := .cons (.ret (.call "_law_some" D_law_some (.cons (.var 0) (.cons (.val (.lst (.cons (.lit (.int 0)) (.cons (.lit (.int 1)) (.cons (.lit (.int 2)) (.cons (.lit (.int 3)) (.cons (.lit (.int 5)) (.cons (.lit (.int 8)) (.cons (.bin .add (.bin .pow (.lit (.int 10)) (.lit (.int 25))) (.lit (.int 7))) (.cons (.bin .add (.bin .pow (.lit (.int 10)) (.lit (.int 29))) (.lit (.int 2))) .nil)))))))))) .nil)))) .nil
abbrev N_law_number : List PySem.Str := ["hand"]
def D_law_number : Den := runFn 1 1 b_law_number
def lb_law_outflow_0 : Ss := .cons (.asg 9 (.bin .mod (.blt .int (.cons (.bin .sub (.var 6) (.idx (.var 1) (.var 4))) .nil)) (.var 7))) (.cons (.expr (.mth .append (.var 8) (.cons (.bin .fdiv (.blt .max2 (.cons (.lit (.int 0)) (.cons (.bin .sub (.bin .add (.bin .sub (.idx (.var 2) (.var 4)) (.var 9)) (.var 7)) (.lit (.int 1))) .nil))) (.var 7)) .nil))) .nil)
def l_law_outflow_0 : S := .loop (.name 6) (.range1 (.var 7)) lb_law_outflow_0
def lb_law_outflow_1 : Ss := .cons (.par [7, 8] (.cons (.blt .len (.cons (.var 5) .nil)) (.cons (.cell (.lst (.nil))) (.nil)))) (.cons (l_law_outflow_0) (.cons (.frz 8) (.cons (.expr (.mth .append (.var 3) (.cons (.blt .tuple (.cons (.var 8) .nil)) .nil))) .nil)))
def l_law_outflow_1 : S := .loop (.tup [.name 4, .name 5]) (.enum (.idx (.var 0) (.lit (.int 1)))) lb_law_outflow_1
def b_law_outflow : Ss := .cons (.asg 3 (.cell (.lst (.nil)))) (.cons (l_law_outflow_1) (.cons (.frz 3) (.cons (.ret (.blt .tuple (.cons (.var 3) .nil))) .nil)))
abbrev N_law_outflow : List PySem.Str := ["board", "hands_here", "moves_here", "found", "s", "exits", "e", "size", "row", "ahead"]
def D_law_outflow : Den := runFn 3 10 b_law_outflow
def c_law_come_0 : Nw := .comp (.var 7) (.tup [.name 6, .name 7]) (.zip (.var 4) (.var 5)) (.some (.cmp .eq (.var 6) (.var 2))) [("one", 6), ("many", 7)]
def lb_law_come_0 : Ss := .cons (.asg 3 (.bin .add (.var 3) (.blt .sum (.cons (.val c_law_come_0) .nil)))) .nil
def l_law_come_0 : S := .loop (.tup [.name 4, .name 5]) (.zip (.idx (.var 0) (.lit (.int 1))) (.var 1)) lb_law_come_0
def b_law_come : Ss := .cons (.asg 3 (.lit (.int 0))) (.cons (l_law_come_0) (.cons (.ret (.var 3)) .nil))
abbrev N_law_come : List PySem.Str := ["board", "flow", "place", "found", "exits", "row", "one", "many"]
def D_law_come : Den := runFn 3 8 b_law_come
def c_law_right_0 : Nw := .comp (.call "_law_number" D_law_number (.cons (.var 0) .nil)) (.name 13) (.range1 (.var 11)) .none [("s", 13)]
def c_law_right_1 : Nw := .comp (.call "_law_number" D_law_number (.cons (.var 0) .nil)) (.name 13) (.range1 (.var 11)) .none [("s", 13)]
def c_law_right_2 : Nw := .comp (.bin .mod (.blt .int (.cons (.bin .add (.idx (.var 12) (.var 13)) (.idx (.var 3) (.var 13))) .nil)) (.blt .len (.cons (.idx (.idx (.var 1) (.lit (.int 1))) (.var 13)) .nil))) (.name 13) (.range1 (.var 11)) .none [("s", 13)]
def c_law_right_3 : Nw := .comp (.call "_law_come" D_law_come (.cons (.var 1) (.cons (.var 4) (.cons (.tup (.cons (.lit (.str "cup")) (.cons (.var 14) .nil))) .nil)))) (.name 14) (.range1 (.idx (.var 1) (.lit (.int 0)))) .none [("c", 14)]
def c_law_right_4 : Nw := .comp (.bin .sub (.bin .add (.idx (.var 2) (.var 13)) (.call "_law_come" D_law_come (.cons (.var 1) (.cons (.var 4) (.cons (.tup (.cons (.lit (.str "switch")) (.cons (.var 13) .nil))) .nil))))) (.idx (.var 3) (.var 13))) (.name 13) (.range1 (.var 11)) .none [("s", 13)]
def c_law_right_5 : Nw := .comp (.blt .sum (.cons (.var 15) .nil)) (.name 15) (.seq (.var 4)) .none [("row", 15)]
def lb_law_right_0 : Ss := .cons (.ite (.cmp .ne (.idx (.word "_law_word" W_law_word (.callv 10 [("outflow", D_outflow), ("hands_behind_moves", D_hands_behind_moves), ("cups_by", D_cups_by)] (.cons (.var 1) (.cons (.var 12) (.cons (.var 9) .nil))))) (.lit (.int 0))) (.lit (.str "NoMoves"))) (.cons (.ret (.lit (.bl false))) .nil) (.nil)) (.cons (.ite (.cmp .ne (.idx (.word "_law_word" W_law_word (.callv 10 [("outflow", D_outflow), ("hands_behind_moves", D_hands_behind_moves), ("cups_by", D_cups_by)] (.cons (.call "_law_no_board" D_law_no_board (.cons (.var 0) .nil)) (.cons (.lit (.str "?")) (.cons (.lit (.str "?")) .nil))))) (.lit (.int 0))) (.lit (.str "NoBoard"))) (.cons (.ret (.lit (.bl false))) .nil) (.nil)) (.cons (.ite (.cmp .ne (.idx (.word "_law_word" W_law_word (.callv 10 [("outflow", D_outflow), ("hands_behind_moves", D_hands_behind_moves), ("cups_by", D_cups_by)] (.cons (.var 1) (.cons (.bin .mul (.tup (.cons (.lit (.int 9)) .nil)) (.var 11)) (.cons (.var 9) .nil))))) (.lit (.int 0))) (.lit (.str "NoHands"))) (.cons (.ret (.lit (.bl false))) .nil) (.nil)) .nil))
def l_law_right_0 : S := .loop (.name 10) (.seq (.tup (.cons (.gfn "outflow") (.cons (.gfn "hands_behind_moves") (.cons (.gfn "cups_by") .nil))))) lb_law_right_0
def b_law_right : Ss := .cons (.asg 1 (.call "_law_board" D_law_board (.cons (.var 0) .nil))) (.cons (.unp [.name 11, .name 12] (.tup (.cons (.blt .len (.cons (.idx (.var 1) (.lit (.int 1))) .nil)) (.cons (.call "_law_hands" D_law_hands (.cons (.var 0) (.cons (.var 1) .nil))) (.nil))))) (.cons (.asg 2 (.blt .tuple (.cons (.val c_law_right_0) .nil))) (.cons (.asg 3 (.blt .tuple (.cons (.val c_law_right_1) .nil))) (.cons (.asg 4 (.call "_law_outflow" D_law_outflow (.cons (.var 1) (.cons (.var 12) (.cons (.var 3) .nil))))) (.cons (.asg 5 (.blt .tuple (.cons (.val c_law_right_2) .nil))) (.cons (.asg 6 (.blt .tuple (.cons (.val c_law_right_3) .nil))) (.cons (.asg 7 (.blt .tuple (.cons (.val c_law_right_4) .nil))) (.cons (.asg 8 (.val (.lst (.cons (.call "outflow" D_outflow (.cons (.var 1) (.cons (.var 12) (.cons (.var 3) .nil)))) (.cons (.call "hands_behind_moves" D_hands_behind_moves (.cons (.var 1) (.cons (.var 12) (.cons (.var 3) .nil)))) .nil))))) (.cons (.asg 8 (.bin .add (.var 8) (.val (.lst (.cons (.call "cups_by" D_cups_by (.cons (.var 1) (.cons (.var 12) (.cons (.var 3) .nil)))) (.cons (.call "waiting" D_waiting (.cons (.var 1) (.cons (.var 12) (.cons (.var 2) (.cons (.var 3) .nil))))) .nil)))))) (.cons (.ite (.or (.not (.call "_law_is" D_law_is (.cons (.var 8) (.cons (.val (.lst (.cons (.var 4) (.cons (.var 5) (.cons (.var 6) (.cons (.var 7) .nil)))))) .nil)))) (.cmp .ne (.blt .sum (.cons (.val c_law_right_5) .nil)) (.blt .sum (.cons (.var 3) .nil)))) (.cons (.ret (.lit (.bl false))) .nil) (.nil)) (.cons (.ite (.not (.call "_law_is" D_law_is (.cons (.val (.lst (.cons (.call "is_heap" D_is_heap (.cons (.var 1) (.cons (.var 2) .nil))) (.cons (.call "are_moves" D_are_moves (.cons (.var 1) (.cons (.var 3) .nil))) .nil)))) (.cons (.val (.lst (.cons (.lit (.bl true)) (.cons (.lit (.bl true)) .nil)))) .nil)))) (.cons (.ret (.lit (.bl false))) .nil) (.nil)) (.cons (.asg 9 (.call "_law_some" D_law_some (.cons (.var 0) (.cons (.val (.lst (.cons (.lit .non) (.cons (.tup (.nil)) (.cons (.lit (.str "?")) (.cons (.blt .list (.cons (.var 2) .nil)) (.cons (.bin .add (.var 2) (.tup (.cons (.lit (.int 0)) .nil))) (.cons (.bin .mul (.tup (.cons (.neg (.lit (.int 1))) .nil)) (.var 11)) (.cons (.bin .mul (.tup (.cons (.lit (.bl true)) .nil)) (.var 11)) (.cons (.bin .mul (.tup (.cons (.lit .non) .nil)) (.var 11)) (.cons (.val (.dct false)) .nil))))))))))) .nil)))) (.cons (.ite (.not (.call "_law_is" D_law_is (.cons (.val (.lst (.cons (.call "is_heap" D_is_heap (.cons (.var 1) (.cons (.var 9) .nil))) (.cons (.call "are_moves" D_are_moves (.cons (.var 1) (.cons (.var 9) .nil))) .nil)))) (.cons (.val (.lst (.cons (.lit (.bl false)) (.cons (.lit (.bl false)) .nil)))) .nil)))) (.cons (.ret (.lit (.bl false))) .nil) (.nil)) (.cons (.ite (.not (.call "_law_is" D_law_is (.cons (.val (.lst (.cons (.call "is_heap" D_is_heap (.cons (.var 1) (.cons (.bin .mul (.tup (.cons (.bin .add (.bin .pow (.lit (.int 10)) (.lit (.int 30))) (.lit (.int 1))) .nil)) (.var 11)) .nil))) (.cons (.call "is_heap" D_is_heap (.cons (.var 1) (.cons (.bin .mul (.tup (.cons (.bin .pow (.lit (.int 10)) (.lit (.int 30))) .nil)) (.var 11)) .nil))) .nil)))) (.cons (.val (.lst (.cons (.lit (.bl false)) (.cons (.lit (.bl true)) .nil)))) .nil)))) (.cons (.ret (.lit (.bl false))) .nil) (.nil)) (.cons (l_law_right_0) (.cons (.ite (.cmp .ne (.idx (.word "_law_word" W_law_word (.call "waiting" D_waiting (.cons (.var 1) (.cons (.var 12) (.cons (.var 9) (.cons (.lit (.str "?")) .nil)))))) (.lit (.int 0))) (.lit (.str "NoHeap"))) (.cons (.ret (.lit (.bl false))) .nil) (.nil)) (.cons (.ret (.cmp .eq (.idx (.word "_law_word" W_law_word (.call "waiting" D_waiting (.cons (.var 1) (.cons (.var 12) (.cons (.var 2) (.cons (.var 9) .nil)))))) (.lit (.int 0))) (.lit (.str "NoMoves")))) .nil)))))))))))))))))
abbrev N_law_right : List PySem.Str := ["hand", "board", "heap", "moves_here", "flow", "last", "cups", "left", "told", "bad", "call", "many", "hands_here", "s", "c", "row"]
def D_law_right : Den := runFn 1 16 b_law_right
def c_law_0 : Nw := .comp (.call "_law_right" D_law_right (.cons (.var 1) .nil)) (.name 2) (.range1 (.lit (.int 3))) .none [("turn", 2)]
def b_law : Ss := .cons (.asg 1 (.call "_law_hand" D_law_hand (.cons (.var 0) .nil))) (.cons (.ret (.blt .all (.cons (.val c_law_0) .nil))) .nil)
abbrev N_law : List PySem.Str := ["script", "hand", "turn"]
def D_law : Den := runFn 1 3 b_law
end
section
variable {T : Stat} {G : GX}
structure Pg (T : Stat) (G : GX) : Prop where
  tk : TOk T G
  c_CUP : GconOk T "CUP" (.str "cup")
  c_MOST_CUPS : GconOk T "MOST_CUPS" (.int 4)
  c_MOST_EXITS : GconOk T "MOST_EXITS" (.int 4)
  c_MOST_SWITCHES : GconOk T "MOST_SWITCHES" (.int 24)
  c_MOST_WAIT : GconOk T "MOST_WAIT" (.int 1000000000000000000000000000000)
  c_SWITCH : GconOk T "SWITCH" (.str "switch")
  g_cups_by : GfnOk T G "cups_by"
  g_hands_behind_moves : GfnOk T G "hands_behind_moves"
  g_outflow : GfnOk T G "outflow"
  r_NoBoard : RaiseOk T "NoBoard"
  r_NoHands : RaiseOk T "NoHands"
  r_NoHeap : RaiseOk T "NoHeap"
  r_NoMoves : RaiseOk T "NoMoves"
  h_BallError : ClsOk T "BallError" mt_BallError
  h_NoBoard : ClsOk T "NoBoard" mt_NoBoard
  h_NoHands : ClsOk T "NoHands" mt_NoHands
  h_NoHeap : ClsOk T "NoHeap" mt_NoHeap
  h_NoMoves : ClsOk T "NoMoves" mt_NoMoves
  f_is_integer : ∃ f fd, T.mg "is_integer" = some (.ref f) ∧ FunD T.K "is_integer" "is_integer" (defArgs (top 12)) (defBody (top 12)) (defScope (top 12)) [] [] f fd
  f_is_within : ∃ f fd, T.mg "is_within" = some (.ref f) ∧ FunD T.K "is_within" "is_within" (defArgs (top 13)) (defBody (top 13)) (defScope (top 13)) [] [] f fd
  f_is_tuple_of : ∃ f fd, T.mg "is_tuple_of" = some (.ref f) ∧ FunD T.K "is_tuple_of" "is_tuple_of" (defArgs (top 14)) (defBody (top 14)) (defScope (top 14)) [] [] f fd
  f_is_place_of : ∃ f fd, T.mg "is_place_of" = some (.ref f) ∧ FunD T.K "is_place_of" "is_place_of" (defArgs (top 15)) (defBody (top 15)) (defScope (top 15)) [] [] f fd
  f_is_board : ∃ f fd, T.mg "is_board" = some (.ref f) ∧ FunD T.K "is_board" "is_board" (defArgs (top 16)) (defBody (top 16)) (defScope (top 16)) [] [] f fd
  f_check_board : ∃ f fd, T.mg "check_board" = some (.ref f) ∧ FunD T.K "check_board" "check_board" (defArgs (top 17)) (defBody (top 17)) (defScope (top 17)) [] [] f fd
  f_raw_is_hands : ∃ f fd, T.mg "raw_is_hands" = some (.ref f) ∧ FunD T.K "raw_is_hands" "raw_is_hands" (defArgs (top 20)) (defBody (top 20)) (defScope (top 20)) [] [] f fd
  f_check_hands : ∃ f fd, T.mg "check_hands" = some (.ref f) ∧ FunD T.K "check_hands" "check_hands" (defArgs (top 21)) (defBody (top 21)) (defScope (top 21)) [] [] f fd
  f_is_number : ∃ f fd, T.mg "is_number" = some (.ref f) ∧ FunD T.K "is_number" "is_number" (defArgs (top 22)) (defBody (top 22)) (defScope (top 22)) [] [] f fd
  f_raw_is_heap : ∃ f fd, T.mg "raw_is_heap" = some (.ref f) ∧ FunD T.K "raw_is_heap" "raw_is_heap" (defArgs (top 24)) (defBody (top 24)) (defScope (top 24)) [] [] f fd
  f_is_heap : ∃ f fd, T.mg "is_heap" = some (.ref f) ∧ FunD T.K "is_heap" "is_heap" (defArgs (top 25)) (defBody (top 25)) (defScope (top 25)) [] [] f fd
  f_raw_are_moves : ∃ f fd, T.mg "raw_are_moves" = some (.ref f) ∧ FunD T.K "raw_are_moves" "raw_are_moves" (defArgs (top 26)) (defBody (top 26)) (defScope (top 26)) [] [] f fd
  f_are_moves : ∃ f fd, T.mg "are_moves" = some (.ref f) ∧ FunD T.K "are_moves" "are_moves" (defArgs (top 27)) (defBody (top 27)) (defScope (top 27)) [] [] f fd
  f_check_hand : ∃ f fd, T.mg "check_hand" = some (.ref f) ∧ FunD T.K "check_hand" "check_hand" (defArgs (top 28)) (defBody (top 28)) (defScope (top 28)) [] [] f fd
  f_check_moves : ∃ f fd, T.mg "check_moves" = some (.ref f) ∧ FunD T.K "check_moves" "check_moves" (defArgs (top 29)) (defBody (top 29)) (defScope (top 29)) [] [] f fd
  f_check_heap : ∃ f fd, T.mg "check_heap" = some (.ref f) ∧ FunD T.K "check_heap" "check_heap" (defArgs (top 30)) (defBody (top 30)) (defScope (top 30)) [] [] f fd
  f_along_exits : ∃ f fd, T.mg "along_exits" = some (.ref f) ∧ FunD T.K "along_exits" "along_exits" (defArgs (top 31)) (defBody (top 31)) (defScope (top 31)) [] [] f fd
  f_raw_outflow : ∃ f fd, T.mg "raw_outflow" = some (.ref f) ∧ FunD T.K "raw_outflow" "raw_outflow" (defArgs (top 32)) (defBody (top 32)) (defScope (top 32)) [] [] f fd
  f_outflow : ∃ f fd, T.mg "outflow" = some (.ref f) ∧ FunD T.K "outflow" "outflow" (defArgs (top 33)) (defBody (top 33)) (defScope (top 33)) [] [] f fd
  f_raw_hands_by : ∃ f fd, T.mg "raw_hands_by" = some (.ref f) ∧ FunD T.K "raw_hands_by" "raw_hands_by" (defArgs (top 34)) (defBody (top 34)) (defScope (top 34)) [] [] f fd
  f_hands_behind_moves : ∃ f fd, T.mg "hands_behind_moves" = some (.ref f) ∧ FunD T.K "hands_behind_moves" "hands_behind_moves" (defArgs (top 35)) (defBody (top 35)) (defScope (top 35)) [] [] f fd
  f_raw_inflow : ∃ f fd, T.mg "raw_inflow" = some (.ref f) ∧ FunD T.K "raw_inflow" "raw_inflow" (defArgs (top 36)) (defBody (top 36)) (defScope (top 36)) [] [] f fd
  f_cups_by : ∃ f fd, T.mg "cups_by" = some (.ref f) ∧ FunD T.K "cups_by" "cups_by" (defArgs (top 37)) (defBody (top 37)) (defScope (top 37)) [] [] f fd
  f_raw_waiting : ∃ f fd, T.mg "raw_waiting" = some (.ref f) ∧ FunD T.K "raw_waiting" "raw_waiting" (defArgs (top 38)) (defBody (top 38)) (defScope (top 38)) [] [] f fd
  f_waiting : ∃ f fd, T.mg "waiting" = some (.ref f) ∧ FunD T.K "waiting" "waiting" (defArgs (top 39)) (defBody (top 39)) (defScope (top 39)) [] [] f fd
  f_law_hand : ∃ f fd, T.mg "_law_hand" = some (.ref f) ∧ FunD T.K "_law_hand" "_law_hand" (defArgs (top 41)) (defBody (top 41)) (defScope (top 41)) [] [] f fd
  f_law_draw : ∃ f fd, T.mg "_law_draw" = some (.ref f) ∧ FunD T.K "_law_draw" "_law_draw" (defArgs (top 42)) (defBody (top 42)) (defScope (top 42)) [] [] f fd
  f_law_some : ∃ f fd, T.mg "_law_some" = some (.ref f) ∧ FunD T.K "_law_some" "_law_some" (defArgs (top 43)) (defBody (top 43)) (defScope (top 43)) [] [] f fd
  f_law_is : ∃ f fd, T.mg "_law_is" = some (.ref f) ∧ FunD T.K "_law_is" "_law_is" (defArgs (top 44)) (defBody (top 44)) (defScope (top 44)) [] [] f fd
  f_law_place : ∃ f fd, T.mg "_law_place" = some (.ref f) ∧ FunD T.K "_law_place" "_law_place" (defArgs (top 45)) (defBody (top 45)) (defScope (top 45)) [] [] f fd
  f_law_board : ∃ f fd, T.mg "_law_board" = some (.ref f) ∧ FunD T.K "_law_board" "_law_board" (defArgs (top 46)) (defBody (top 46)) (defScope (top 46)) [] [] f fd
  f_law_hands : ∃ f fd, T.mg "_law_hands" = some (.ref f) ∧ FunD T.K "_law_hands" "_law_hands" (defArgs (top 47)) (defBody (top 47)) (defScope (top 47)) [] [] f fd
  f_law_word : ∃ f fd, T.mg "_law_word" = some (.ref f) ∧ FunD T.K "_law_word" "_law_word" (defArgs (top 48)) (defBody (top 48)) (defScope (top 48)) [] [] f fd
  f_law_no_board : ∃ f fd, T.mg "_law_no_board" = some (.ref f) ∧ FunD T.K "_law_no_board" "_law_no_board" (defArgs (top 49)) (defBody (top 49)) (defScope (top 49)) [] [] f fd
  f_law_number : ∃ f fd, T.mg "_law_number" = some (.ref f) ∧ FunD T.K "_law_number" "_law_number" (defArgs (top 50)) (defBody (top 50)) (defScope (top 50)) [] [] f fd
  f_law_outflow : ∃ f fd, T.mg "_law_outflow" = some (.ref f) ∧ FunD T.K "_law_outflow" "_law_outflow" (defArgs (top 51)) (defBody (top 51)) (defScope (top 51)) [] [] f fd
  f_law_come : ∃ f fd, T.mg "_law_come" = some (.ref f) ∧ FunD T.K "_law_come" "_law_come" (defArgs (top 52)) (defBody (top 52)) (defScope (top 52)) [] [] f fd
  f_law_right : ∃ f fd, T.mg "_law_right" = some (.ref f) ∧ FunD T.K "_law_right" "_law_right" (defArgs (top 53)) (defBody (top 53)) (defScope (top 53)) [] [] f fd ∧ LamF T G "_law_right" fd
  f_law : ∃ f fd, T.mg "law" = some (.ref f) ∧ FunD T.K "law" "law" (defArgs (top 54)) (defBody (top 54)) (defScope (top 54)) [] [] f fd
theorem sc_is_integer : FnScope N_is_integer ["thing"] (defScope (top 12)) := ⟨rfl, rfl, rfl, by decide +kernel, rfl, by decide +kernel, by decide +kernel⟩
theorem m_is_integer : mSs N_is_integer (defScope (top 12)) b_is_integer (defBody (top 12)) = true := by decide +kernel
theorem sc_is_within : FnScope N_is_within ["thing", "low", "high"] (defScope (top 13)) := ⟨rfl, rfl, rfl, by decide +kernel, rfl, by decide +kernel, by decide +kernel⟩
theorem m_is_within : mSs N_is_within (defScope (top 13)) b_is_within (defBody (top 13)) = true := by decide +kernel
theorem sc_is_tuple_of : FnScope N_is_tuple_of ["thing", "size"] (defScope (top 14)) := ⟨rfl, rfl, rfl, by decide +kernel, rfl, by decide +kernel, by decide +kernel⟩
theorem m_is_tuple_of : mSs N_is_tuple_of (defScope (top 14)) b_is_tuple_of (defBody (top 14)) = true := by decide +kernel
theorem sc_is_place_of : FnScope N_is_place_of ["cups", "switches", "thing"] (defScope (top 15)) := ⟨rfl, rfl, rfl, by decide +kernel, rfl, by decide +kernel, by decide +kernel⟩
theorem m_is_place_of : mSs N_is_place_of (defScope (top 15)) b_is_place_of (defBody (top 15)) = true := by decide +kernel
theorem sc_is_board : FnScope N_is_board ["thing"] (defScope (top 16)) := ⟨rfl, rfl, rfl, by decide +kernel, rfl, by decide +kernel, by decide +kernel⟩
theorem m_is_board : mSs N_is_board (defScope (top 16)) b_is_board (defBody (top 16)) = true := by decide +kernel
theorem sc_check_board : FnScope N_check_board ["board"] (defScope (top 17)) := ⟨rfl, rfl, rfl, by decide +kernel, rfl, by decide +kernel, by decide +kernel⟩
theorem m_check_board : mSs N_check_board (defScope (top 17)) b_check_board (defBody (top 17)) = true := by decide +kernel
theorem sc_raw_is_hands : FnScope N_raw_is_hands ["board", "thing"] (defScope (top 20)) := ⟨rfl, rfl, rfl, by decide +kernel, rfl, by decide +kernel, by decide +kernel⟩
theorem m_raw_is_hands : mSs N_raw_is_hands (defScope (top 20)) b_raw_is_hands (defBody (top 20)) = true := by decide +kernel
theorem sc_check_hands : FnScope N_check_hands ["board", "hands"] (defScope (top 21)) := ⟨rfl, rfl, rfl, by decide +kernel, rfl, by decide +kernel, by decide +kernel⟩
theorem m_check_hands : mSs N_check_hands (defScope (top 21)) b_check_hands (defBody (top 21)) = true := by decide +kernel
theorem sc_is_number : FnScope N_is_number ["thing"] (defScope (top 22)) := ⟨rfl, rfl, rfl, by decide +kernel, rfl, by decide +kernel, by decide +kernel⟩
theorem m_is_number : mSs N_is_number (defScope (top 22)) b_is_number (defBody (top 22)) = true := by decide +kernel
theorem sc_raw_is_heap : FnScope N_raw_is_heap ["board", "thing"] (defScope (top 24)) := ⟨rfl, rfl, rfl, by decide +kernel, rfl, by decide +kernel, by decide +kernel⟩
theorem m_raw_is_heap : mSs N_raw_is_heap (defScope (top 24)) b_raw_is_heap (defBody (top 24)) = true := by decide +kernel
theorem sc_is_heap : FnScope N_is_heap ["board", "thing"] (defScope (top 25)) := ⟨rfl, rfl, rfl, by decide +kernel, rfl, by decide +kernel, by decide +kernel⟩
theorem m_is_heap : mSs N_is_heap (defScope (top 25)) b_is_heap (defBody (top 25)) = true := by decide +kernel
theorem sc_raw_are_moves : FnScope N_raw_are_moves ["board", "thing"] (defScope (top 26)) := ⟨rfl, rfl, rfl, by decide +kernel, rfl, by decide +kernel, by decide +kernel⟩
theorem m_raw_are_moves : mSs N_raw_are_moves (defScope (top 26)) b_raw_are_moves (defBody (top 26)) = true := by decide +kernel
theorem sc_are_moves : FnScope N_are_moves ["board", "thing"] (defScope (top 27)) := ⟨rfl, rfl, rfl, by decide +kernel, rfl, by decide +kernel, by decide +kernel⟩
theorem m_are_moves : mSs N_are_moves (defScope (top 27)) b_are_moves (defBody (top 27)) = true := by decide +kernel
theorem sc_check_hand : FnScope N_check_hand ["board", "hands"] (defScope (top 28)) := ⟨rfl, rfl, rfl, by decide +kernel, rfl, by decide +kernel, by decide +kernel⟩
theorem m_check_hand : mSs N_check_hand (defScope (top 28)) b_check_hand (defBody (top 28)) = true := by decide +kernel
theorem sc_check_moves : FnScope N_check_moves ["board", "moves"] (defScope (top 29)) := ⟨rfl, rfl, rfl, by decide +kernel, rfl, by decide +kernel, by decide +kernel⟩
theorem m_check_moves : mSs N_check_moves (defScope (top 29)) b_check_moves (defBody (top 29)) = true := by decide +kernel
theorem sc_check_heap : FnScope N_check_heap ["board", "hands", "heap"] (defScope (top 30)) := ⟨rfl, rfl, rfl, by decide +kernel, rfl, by decide +kernel, by decide +kernel⟩
theorem m_check_heap : mSs N_check_heap (defScope (top 30)) b_check_heap (defBody (top 30)) = true := by decide +kernel
theorem sc_along_exits : FnScope N_along_exits ["many", "hand", "moves"] (defScope (top 31)) := ⟨rfl, rfl, rfl, by decide +kernel, rfl, by decide +kernel, by decide +kernel⟩
theorem m_along_exits : mSs N_along_exits (defScope (top 31)) b_along_exits (defBody (top 31)) = true := by decide +kernel
theorem sc_raw_outflow : FnScope N_raw_outflow ["board", "hands", "moves"] (defScope (top 32)) := ⟨rfl, rfl, rfl, by decide +kernel, rfl, by decide +kernel, by decide +kernel⟩
theorem m_raw_outflow : mSs N_raw_outflow (defScope (top 32)) b_raw_outflow (defBody (top 32)) = true := by decide +kernel
theorem sc_outflow : FnScope N_outflow ["board", "hands", "moves"] (defScope (top 33)) := ⟨rfl, rfl, rfl, by decide +kernel, rfl, by decide +kernel, by decide +kernel⟩
theorem m_outflow : mSs N_outflow (defScope (top 33)) b_outflow (defBody (top 33)) = true := by decide +kernel
theorem sc_raw_hands_by : FnScope N_raw_hands_by ["board", "hands", "moves"] (defScope (top 34)) := ⟨rfl, rfl, rfl, by decide +kernel, rfl, by decide +kernel, by decide +kernel⟩
theorem m_raw_hands_by : mSs N_raw_hands_by (defScope (top 34)) b_raw_hands_by (defBody (top 34)) = true := by decide +kernel
theorem sc_hands_behind_moves : FnScope N_hands_behind_moves ["board", "hands", "moves"] (defScope (top 35)) := ⟨rfl, rfl, rfl, by decide +kernel, rfl, by decide +kernel, by decide +kernel⟩
theorem m_hands_behind_moves : mSs N_hands_behind_moves (defScope (top 35)) b_hands_behind_moves (defBody (top 35)) = true := by decide +kernel
theorem sc_raw_inflow : FnScope N_raw_inflow ["board", "hands", "moves"] (defScope (top 36)) := ⟨rfl, rfl, rfl, by decide +kernel, rfl, by decide +kernel, by decide +kernel⟩
theorem m_raw_inflow : mSs N_raw_inflow (defScope (top 36)) b_raw_inflow (defBody (top 36)) = true := by decide +kernel
theorem sc_cups_by : FnScope N_cups_by ["board", "hands", "moves"] (defScope (top 37)) := ⟨rfl, rfl, rfl, by decide +kernel, rfl, by decide +kernel, by decide +kernel⟩
theorem m_cups_by : mSs N_cups_by (defScope (top 37)) b_cups_by (defBody (top 37)) = true := by decide +kernel
theorem sc_raw_waiting : FnScope N_raw_waiting ["board", "hands", "heap", "moves"] (defScope (top 38)) := ⟨rfl, rfl, rfl, by decide +kernel, rfl, by decide +kernel, by decide +kernel⟩
theorem m_raw_waiting : mSs N_raw_waiting (defScope (top 38)) b_raw_waiting (defBody (top 38)) = true := by decide +kernel
theorem sc_waiting : FnScope N_waiting ["board", "hands", "heap", "moves"] (defScope (top 39)) := ⟨rfl, rfl, rfl, by decide +kernel, rfl, by decide +kernel, by decide +kernel⟩
theorem m_waiting : mSs N_waiting (defScope (top 39)) b_waiting (defBody (top 39)) = true := by decide +kernel
theorem sc_law_hand : FnScope N_law_hand ["script"] (defScope (top 41)) := ⟨rfl, rfl, rfl, by decide +kernel, rfl, by decide +kernel, by decide +kernel⟩
theorem m_law_hand : mSs N_law_hand (defScope (top 41)) b_law_hand (defBody (top 41)) = true := by decide +kernel
theorem sc_law_draw : FnScope N_law_draw ["hand", "many"] (defScope (top 42)) := ⟨rfl, rfl, rfl, by decide +kernel, rfl, by decide +kernel, by decide +kernel⟩
theorem m_law_draw : mSs N_law_draw (defScope (top 42)) b_law_draw (defBody (top 42)) = true := by decide +kernel
theorem sc_law_some : FnScope N_law_some ["hand", "things"] (defScope (top 43)) := ⟨rfl, rfl, rfl, by decide +kernel, rfl, by decide +kernel, by decide +kernel⟩
theorem m_law_some : mSs N_law_some (defScope (top 43)) b_law_some (defBody (top 43)) = true := by decide +kernel
theorem sc_law_is : FnScope N_law_is ["mine", "yours"] (defScope (top 44)) := ⟨rfl, rfl, rfl, by decide +kernel, rfl, by decide +kernel, by decide +kernel⟩
theorem m_law_is : mSs N_law_is (defScope (top 44)) b_law_is (defBody (top 44)) = true := by decide +kernel
theorem sc_law_place : FnScope N_law_place ["hand", "cups", "many"] (defScope (top 45)) := ⟨rfl, rfl, rfl, by decide +kernel, rfl, by decide +kernel, by decide +kernel⟩
theorem m_law_place : mSs N_law_place (defScope (top 45)) b_law_place (defBody (top 45)) = true := by decide +kernel
theorem sc_law_board : FnScope N_law_board ["hand"] (defScope (top 46)) := ⟨rfl, rfl, rfl, by decide +kernel, rfl, by decide +kernel, by decide +kernel⟩
theorem m_law_board : mSs N_law_board (defScope (top 46)) b_law_board (defBody (top 46)) = true := by decide +kernel
theorem sc_law_hands : FnScope N_law_hands ["hand", "board"] (defScope (top 47)) := ⟨rfl, rfl, rfl, by decide +kernel, rfl, by decide +kernel, by decide +kernel⟩
theorem m_law_hands : mSs N_law_hands (defScope (top 47)) b_law_hands (defBody (top 47)) = true := by decide +kernel
theorem sc_law_word : FnScope N_law_word ["call"] (defScope (top 48)) := ⟨rfl, rfl, rfl, by decide +kernel, rfl, by decide +kernel, by decide +kernel⟩
theorem m_law_word (w : Val) (th : Store → Out Val) : mSs N_law_word (defScope (top 48)) (wb_law_word w th) (defBody (top 48)) = true := by kernel_rfl
theorem sc_law_no_board : FnScope N_law_no_board ["hand"] (defScope (top 49)) := ⟨rfl, rfl, rfl, by decide +kernel, rfl, by decide +kernel, by decide +kernel⟩
theorem m_law_no_board : mSs N_law_no_board (defScope (top 49)) b_law_no_board (defBody (top 49)) = true := by decide +kernel
theorem sc_law_number : FnScope N_law_number ["hand"] (defScope (top 50)) := ⟨rfl, rfl, rfl, by decide +kernel, rfl, by decide +kernel, by decide +kernel⟩
theorem m_law_number : mSs N_law_number (defScope (top 50)) b_law_number (defBody (top 50)) = true := by decide +kernel
theorem sc_law_outflow : FnScope N_law_outflow ["board", "hands_here", "moves_here"] (defScope (top 51)) := ⟨rfl, rfl, rfl, by decide +kernel, rfl, by decide +kernel, by decide +kernel⟩
theorem m_law_outflow : mSs N_law_outflow (defScope (top 51)) b_law_outflow (defBody (top 51)) = true := by decide +kernel
theorem sc_law_come : FnScope N_law_come ["board", "flow", "place"] (defScope (top 52)) := ⟨rfl, rfl, rfl, by decide +kernel, rfl, by decide +kernel, by decide +kernel⟩
theorem m_law_come : mSs N_law_come (defScope (top 52)) b_law_come (defBody (top 52)) = true := by decide +kernel
theorem sc_law_right : FnScope N_law_right ["hand"] (defScope (top 53)) := ⟨rfl, rfl, rfl, by decide +kernel, rfl, by decide +kernel, by decide +kernel⟩
theorem m_law_right : mSs N_law_right (defScope (top 53)) b_law_right (defBody (top 53)) = true := by decide +kernel
theorem sc_law : FnScope N_law ["script"] (defScope (top 54)) := ⟨rfl, rfl, rfl, by decide +kernel, rfl, by decide +kernel, by decide +kernel⟩
theorem m_law : mSs N_law (defScope (top 54)) b_law (defBody (top 54)) = true := by decide +kernel
theorem ok_is_integer (P : Pg T G) : okSs T G ⟨0, false, false, true, none, none⟩ b_is_integer := by
  unfold b_is_integer
  simp only [okSs, okS, okE, okEs, okN, okIt, okEo, okHs, and_true, true_and]
  repeat' apply And.intro
  all_goals first | trivial | rfl | decide | (intro z; first | rfl | cases z)
theorem call_is_integer (P : Pg T G) (v : Lv) (hk : 1 ≤ v.k) (hg : false = true → v.g = true) : CallOk T G v "is_integer" D_is_integer := by
  obtain ⟨f, fd, h1, h2⟩ := P.f_is_integer
  exact call_ok P.tk (v := ⟨0, false, false, true, none, none⟩) (ps := ["thing"]) (N := N_is_integer) b_is_integer ⟨f, fd, h1, h2, (fun z => by cases z)⟩ sc_is_integer m_is_integer (ok_is_integer P) rfl ⟨rfl, rfl⟩ (fun _ _ _ _ _ _ us hl => match us, hl with | [_], _ => rfl) hk hg
theorem ok_is_within (P : Pg T G) : okSs T G ⟨1, false, false, true, none, none⟩ b_is_within := by
  unfold b_is_within
  simp only [okSs, okS, okE, okEs, okN, okIt, okEo, okHs, and_true, true_and]
  repeat' apply And.intro
  all_goals first | trivial | rfl | exact call_is_integer P _ (by decide) (by decide) | decide | (intro z; first | rfl | cases z)
theorem call_is_within (P : Pg T G) (v : Lv) (hk : 2 ≤ v.k) (hg : false = true → v.g = true) : CallOk T G v "is_within" D_is_within := by
  obtain ⟨f, fd, h1, h2⟩ := P.f_is_within
  exact call_ok P.tk (v := ⟨1, false, false, true, none, none⟩) (ps := ["thing", "low", "high"]) (N := N_is_within) b_is_within ⟨f, fd, h1, h2, (fun z => by cases z)⟩ sc_is_within m_is_within (ok_is_within P) rfl ⟨rfl, rfl⟩ (fun _ _ _ _ _ _ us hl => match us, hl with | [_, _, _], _ => rfl) hk hg
theorem ok_is_tuple_of (P : Pg T G) : okSs T G ⟨0, false, false, true, none, none⟩ b_is_tuple_of := by
  unfold b_is_tuple_of
  simp only [okSs, okS, okE, okEs, okN, okIt, okEo, okHs, and_true, true_and]
  repeat' apply And.intro
  all_goals first | trivial | rfl | decide | (intro z; first | rfl | cases z)
theorem call_is_tuple_of (P : Pg T G) (v : Lv) (hk : 1 ≤ v.k) (hg : false = true → v.g = true) : CallOk T G v "is_tuple_of" D_is_tuple_of := by
  obtain ⟨f, fd, h1, h2⟩ := P.f_is_tuple_of
  exact call_ok P.tk (v := ⟨0, false, false, true, none, none⟩) (ps := ["thing", "size"]) (N := N_is_tuple_of) b_is_tuple_of ⟨f, fd, h1, h2, (fun z => by cases z)⟩ sc_is_tuple_of m_is_tuple_of (ok_is_tuple_of P) rfl ⟨rfl, rfl⟩ (fun _ _ _ _ _ _ us hl => match us, hl with | [_, _], _ => rfl) hk hg
theorem ok_is_place_of (P : Pg T G) : okSs T G ⟨2, false, false, true, none, none⟩ b_is_place_of := by
  unfold b_is_place_of
  simp only [okSs, okS, okE, okEs, okN, okIt, okEo, okHs, and_true, true_and]
  repeat' apply And.intro
  all_goals first | trivial | rfl | exact call_is_tuple_of P _ (by decide) (by decide) | exact call_is_within P _ (by decide) (by decide) | exact P.c_CUP | exact P.c_SWITCH | decide | (intro z; first | rfl | cases z)
theorem call_is_place_of (P : Pg T G) (v : Lv) (hk : 3 ≤ v.k) (hg : false = true → v.g = true) : CallOk T G v "is_place_of" D_is_place_of := by
  obtain ⟨f, fd, h1, h2⟩ := P.f_is_place_of
  exact call_ok P.tk (v := ⟨2, false, false, true, none, none⟩) (ps := ["cups", "switches", "thing"]) (N := N_is_place_of) b_is_place_of ⟨f, fd, h1, h2, (fun z => by cases z)⟩ sc_is_place_of m_is_place_of (ok_is_place_of P) rfl ⟨rfl, rfl⟩ (fun _ _ _ _ _ _ us hl => match us, hl with | [_, _, _], _ => rfl) hk hg
theorem ok_is_board (P : Pg T G) : okSs T G ⟨3, false, false, true, none, none⟩ b_is_board := by
  unfold b_is_board
  simp only [c_is_board_0, lb_is_board_0, l_is_board_0, okSs, okS, okE, okEs, okN, okIt, okEo, okHs, and_true, true_and]
  repeat' apply And.intro
  all_goals first | trivial | rfl | exact call_is_within P _ (by decide) (by decide) | exact call_is_tuple_of P _ (by decide) (by decide) | exact call_is_place_of P _ (by decide) (by decide) | exact P.c_MOST_CUPS | exact P.c_MOST_EXITS | exact P.c_MOST_SWITCHES | decide | (intro z; first | rfl | cases z)
theorem call_is_board (P : Pg T G) (v : Lv) (hk : 4 ≤ v.k) (hg : false = true → v.g = true) : CallOk T G v "is_board" D_is_board := by
  obtain ⟨f, fd, h1, h2⟩ := P.f_is_board
  exact call_ok P.tk (v := ⟨3, false, false, true, none, none⟩) (ps := ["thing"]) (N := N_is_board) b_is_board ⟨f, fd, h1, h2, (fun z => by cases z)⟩ sc_is_board m_is_board (ok_is_board P) rfl ⟨rfl, rfl⟩ (fun _ _ _ _ _ _ us hl => match us, hl with | [_], _ => rfl) hk hg
theorem ok_check_board (P : Pg T G) : okSs T G ⟨4, false, false, true, none, none⟩ b_check_board := by
  unfold b_check_board
  simp only [okSs, okS, okE, okEs, okN, okIt, okEo, okHs, and_true, true_and]
  repeat' apply And.intro
  all_goals first | trivial | rfl | exact call_is_board P _ (by decide) (by decide) | exact P.r_NoBoard | decide | (intro z; first | rfl | cases z)
theorem call_check_board (P : Pg T G) (v : Lv) (hk : 5 ≤ v.k) (hg : false = true → v.g = true) : CallOk T G v "check_board" D_check_board := by
  obtain ⟨f, fd, h1, h2⟩ := P.f_check_board
  exact call_ok P.tk (v := ⟨4, false, false, true, none, none⟩) (ps := ["board"]) (N := N_check_board) b_check_board ⟨f, fd, h1, h2, (fun z => by cases z)⟩ sc_check_board m_check_board (ok_check_board P) rfl ⟨rfl, rfl⟩ (fun _ _ _ _ _ _ us hl => match us, hl with | [_], _ => rfl) hk hg
theorem ok_raw_is_hands (P : Pg T G) : okSs T G ⟨2, false, false, true, none, none⟩ b_raw_is_hands := by
  unfold b_raw_is_hands
  simp only [c_raw_is_hands_0, okSs, okS, okE, okEs, okN, okIt, okEo, okHs, and_true, true_and]
  repeat' apply And.intro
  all_goals first | trivial | rfl | exact call_is_tuple_of P _ (by decide) (by decide) | exact call_is_within P _ (by decide) (by decide) | decide | (intro z; first | rfl | cases z)
theorem call_raw_is_hands (P : Pg T G) (v : Lv) (hk : 3 ≤ v.k) (hg : false = true → v.g = true) : CallOk T G v "raw_is_hands" D_raw_is_hands := by
  obtain ⟨f, fd, h1, h2⟩ := P.f_raw_is_hands
  exact call_ok P.tk (v := ⟨2, false, false, true, none, none⟩) (ps := ["board", "thing"]) (N := N_raw_is_hands) b_raw_is_hands ⟨f, fd, h1, h2, (fun z => by cases z)⟩ sc_raw_is_hands m_raw_is_hands (ok_raw_is_hands P) rfl ⟨rfl, rfl⟩ (fun _ _ _ _ _ _ us hl => match us, hl with | [_, _], _ => rfl) hk hg
theorem ok_check_hands (P : Pg T G) : okSs T G ⟨5, false, false, true, none, none⟩ b_check_hands := by
  unfold b_check_hands
  simp only [okSs, okS, okE, okEs, okN, okIt, okEo, okHs, and_true, true_and]
  repeat' apply And.intro
  all_goals first | trivial | rfl | exact call_check_board P _ (by decide) (by decide) | exact call_raw_is_hands P _ (by decide) (by decide) | exact P.r_NoHands | decide | (intro z; first | rfl | cases z)
theorem call_check_hands (P : Pg T G) (v : Lv) (hk : 6 ≤ v.k) (hg : false = true → v.g = true) : CallOk T G v "check_hands" D_check_hands := by
  obtain ⟨f, fd, h1, h2⟩ := P.f_check_hands
  exact call_ok P.tk (v := ⟨5, false, false, true, none, none⟩) (ps := ["board", "hands"]) (N := N_check_hands) b_check_hands ⟨f, fd, h1, h2, (fun z => by cases z)⟩ sc_check_hands m_check_hands (ok_check_hands P) rfl ⟨rfl, rfl⟩ (fun _ _ _ _ _ _ us hl => match us, hl with | [_, _], _ => rfl) hk hg
theorem ok_is_number (P : Pg T G) : okSs T G ⟨1, false, false, true, none, none⟩ b_is_number := by
  unfold b_is_number
  simp only [okSs, okS, okE, okEs, okN, okIt, okEo, okHs, and_true, true_and]
  repeat' apply And.intro
  all_goals first | trivial | rfl | exact call_is_integer P _ (by decide) (by decide) | decide | (intro z; first | rfl | cases z)
theorem call_is_number (P : Pg T G) (v : Lv) (hk : 2 ≤ v.k) (hg : false = true → v.g = true) : CallOk T G v "is_number" D_is_number := by
  obtain ⟨f, fd, h1, h2⟩ := P.f_is_number
  exact call_ok P.tk (v := ⟨1, false, false, true, none, none⟩) (ps := ["thing"]) (N := N_is_number) b_is_number ⟨f, fd, h1, h2, (fun z => by cases z)⟩ sc_is_number m_is_number (ok_is_number P) rfl ⟨rfl, rfl⟩ (fun _ _ _ _ _ _ us hl => match us, hl with | [_], _ => rfl) hk hg
theorem ok_raw_is_heap (P : Pg T G) : okSs T G ⟨2, false, false, true, none, none⟩ b_raw_is_heap := by
  unfold b_raw_is_heap
  simp only [c_raw_is_heap_0, okSs, okS, okE, okEs, okN, okIt, okEo, okHs, and_true, true_and]
  repeat' apply And.intro
  all_goals first | trivial | rfl | exact call_is_within P _ (by decide) (by decide) | exact call_is_tuple_of P _ (by decide) (by decide) | exact P.c_MOST_WAIT | decide | (intro z; first | rfl | cases z)
theorem call_raw_is_heap (P : Pg T G) (v : Lv) (hk : 3 ≤ v.k) (hg : false = true → v.g = true) : CallOk T G v "raw_is_heap" D_raw_is_heap := by
  obtain ⟨f, fd, h1, h2⟩ := P.f_raw_is_heap
  exact call_ok P.tk (v := ⟨2, false, false, true, none, none⟩) (ps := ["board", "thing"]) (N := N_raw_is_heap) b_raw_is_heap ⟨f, fd, h1, h2, (fun z => by cases z)⟩ sc_raw_is_heap m_raw_is_heap (ok_raw_is_heap P) rfl ⟨rfl, rfl⟩ (fun _ _ _ _ _ _ us hl => match us, hl with | [_, _], _ => rfl) hk hg
theorem ok_is_heap (P : Pg T G) : okSs T G ⟨5, false, false, true, none, none⟩ b_is_heap := by
  unfold b_is_heap
  simp only [okSs, okS, okE, okEs, okN, okIt, okEo, okHs, and_true, true_and]
  repeat' apply And.intro
  all_goals first | trivial | rfl | exact call_check_board P _ (by decide) (by decide) | exact call_raw_is_heap P _ (by decide) (by decide) | decide | (intro z; first | rfl | cases z)
theorem call_is_heap (P : Pg T G) (v : Lv) (hk : 6 ≤ v.k) (hg : false = true → v.g = true) : CallOk T G v "is_heap" D_is_heap := by
  obtain ⟨f, fd, h1, h2⟩ := P.f_is_heap
  exact call_ok P.tk (v := ⟨5, false, false, true, none, none⟩) (ps := ["board", "thing"]) (N := N_is_heap) b_is_heap ⟨f, fd, h1, h2, (fun z => by cases z)⟩ sc_is_heap m_is_heap (ok_is_heap P) rfl ⟨rfl, rfl⟩ (fun _ _ _ _ _ _ us hl => match us, hl with | [_, _], _ => rfl) hk hg
theorem ok_raw_are_moves (P : Pg T G) : okSs T G ⟨2, false, false, true, none, none⟩ b_raw_are_moves := by
  unfold b_raw_are_moves
  simp only [c_raw_are_moves_0, okSs, okS, okE, okEs, okN, okIt, okEo, okHs, and_true, true_and]
  repeat' apply And.intro
  all_goals first | trivial | rfl | exact call_is_number P _ (by decide) (by decide) | exact call_is_tuple_of P _ (by decide) (by decide) | decide | (intro z; first | rfl | cases z)
theorem call_raw_are_moves (P : Pg T G) (v : Lv) (hk : 3 ≤ v.k) (hg : false = true → v.g = true) : CallOk T G v "raw_are_moves" D_raw_are_moves := by
  obtain ⟨f, fd, h1, h2⟩ := P.f_raw_are_moves
  exact call_ok P.tk (v := ⟨2, false, false, true, none, none⟩) (ps := ["board", "thing"]) (N := N_raw_are_moves) b_raw_are_moves ⟨f, fd, h1, h2, (fun z => by cases z)⟩ sc_raw_are_moves m_raw_are_moves (ok_raw_are_moves P) rfl ⟨rfl, rfl⟩ (fun _ _ _ _ _ _ us hl => match us, hl with | [_, _], _ => rfl) hk hg
theorem ok_are_moves (P : Pg T G) : okSs T G ⟨5, false, false, true, none, none⟩ b_are_moves := by
  unfold b_are_moves
  simp only [okSs, okS, okE, okEs, okN, okIt, okEo, okHs, and_true, true_and]
  repeat' apply And.intro
  all_goals first | trivial | rfl | exact call_check_board P _ (by decide) (by decide) | exact call_raw_are_moves P _ (by decide) (by decide) | decide | (intro z; first | rfl | cases z)
theorem call_are_moves (P : Pg T G) (v : Lv) (hk : 6 ≤ v.k) (hg : false = true → v.g = true) : CallOk T G v "are_moves" D_are_moves := by
  obtain ⟨f, fd, h1, h2⟩ := P.f_are_moves
  exact call_ok P.tk (v := ⟨5, false, false, true, none, none⟩) (ps := ["board", "thing"]) (N := N_are_moves) b_are_moves ⟨f, fd, h1, h2, (fun z => by cases z)⟩ sc_are_moves m_are_moves (ok_are_moves P) rfl ⟨rfl, rfl⟩ (fun _ _ _ _ _ _ us hl => match us, hl with | [_, _], _ => rfl) hk hg
theorem ok_check_hand (P : Pg T G) : okSs T G ⟨6, false, false, true, none, none⟩ b_check_hand := by
  unfold b_check_hand
  simp only [okSs, okS, okE, okEs, okN, okIt, okEo, okHs, and_true, true_and]
  repeat' apply And.intro
  all_goals first | trivial | rfl | exact call_check_board P _ (by decide) (by decide) | exact call_check_hands P _ (by decide) (by decide) | decide | (intro z; first | rfl | cases z)
theorem call_check_hand (P : Pg T G) (v : Lv) (hk : 7 ≤ v.k) (hg : false = true → v.g = true) : CallOk T G v "check_hand" D_check_hand := by
  obtain ⟨f, fd, h1, h2⟩ := P.f_check_hand
  exact call_ok P.tk (v := ⟨6, false, false, true, none, none⟩) (ps := ["board", "hands"]) (N := N_check_hand) b_check_hand ⟨f, fd, h1, h2, (fun z => by cases z)⟩ sc_check_hand m_check_hand (ok_check_hand P) rfl ⟨rfl, rfl⟩ (fun _ _ _ _ _ _ us hl => match us, hl with | [_, _], _ => rfl) hk hg
theorem ok_check_moves (P : Pg T G) : okSs T G ⟨3, false, false, true, none, none⟩ b_check_moves := by
  unfold b_check_moves
  simp only [okSs, okS, okE, okEs, okN, okIt, okEo, okHs, and_true, true_and]
  repeat' apply And.intro
  all_goals first | trivial | rfl | exact call_raw_are_moves P _ (by decide) (by decide) | exact P.r_NoMoves | decide | (intro z; first | rfl | cases z)
theorem call_check_moves (P : Pg T G) (v : Lv) (hk : 4 ≤ v.k) (hg : false = true → v.g = true) : CallOk T G v "check_moves" D_check_moves := by
  obtain ⟨f, fd, h1, h2⟩ := P.f_check_moves
  exact call_ok P.tk (v := ⟨3, false, false, true, none, none⟩) (ps := ["board", "moves"]) (N := N_check_moves) b_check_moves ⟨f, fd, h1, h2, (fun z => by cases z)⟩ sc_check_moves m_check_moves (ok_check_moves P) rfl ⟨rfl, rfl⟩ (fun _ _ _ _ _ _ us hl => match us, hl with | [_, _], _ => rfl) hk hg
theorem ok_check_heap (P : Pg T G) : okSs T G ⟨7, false, false, true, none, none⟩ b_check_heap := by
  unfold b_check_heap
  simp only [okSs, okS, okE, okEs, okN, okIt, okEo, okHs, and_true, true_and]
  repeat' apply And.intro
  all_goals first | trivial | rfl | exact call_check_hand P _ (by decide) (by decide) | exact call_raw_is_heap P _ (by decide) (by decide) | exact P.r_NoHeap | decide | (intro z; first | rfl | cases z)
theorem call_check_heap (P : Pg T G) (v : Lv) (hk : 8 ≤ v.k) (hg : false = true → v.g = true) : CallOk T G v "check_heap" D_check_heap := by
  obtain ⟨f, fd, h1, h2⟩ := P.f_check_heap
  exact call_ok P.tk (v := ⟨7, false, false, true, none, none⟩) (ps := ["board", "hands", "heap"]) (N := N_check_heap) b_check_heap ⟨f, fd, h1, h2, (fun z => by cases z)⟩ sc_check_heap m_check_heap (ok_check_heap P) rfl ⟨rfl, rfl⟩ (fun _ _ _ _ _ _ us hl => match us, hl with | [_, _, _], _ => rfl) hk hg
theorem ok_along_exits (P : Pg T G) : okSs T G ⟨0, false, false, true, none, none⟩ b_along_exits := by
  unfold b_along_exits
  simp only [c_along_exits_0, c_along_exits_1, okSs, okS, okE, okEs, okN, okIt, okEo, okHs, and_true, true_and]
  repeat' apply And.intro
  all_goals first | trivial | rfl | decide | (intro z; first | rfl | cases z)
theorem call_along_exits (P : Pg T G) (v : Lv) (hk : 1 ≤ v.k) (hg : false = true → v.g = true) : CallOk T G v "along_exits" D_along_exits := by
  obtain ⟨f, fd, h1, h2⟩ := P.f_along_exits
  exact call_ok P.tk (v := ⟨0, false, false, true, none, none⟩) (ps := ["many", "hand", "moves"]) (N := N_along_exits) b_along_exits ⟨f, fd, h1, h2, (fun z => by cases z)⟩ sc_along_exits m_along_exits (ok_along_exits P) rfl ⟨rfl, rfl⟩ (fun _ _ _ _ _ _ us hl => match us, hl with | [_, _, _], _ => rfl) hk hg
theorem ok_raw_outflow (P : Pg T G) : okSs T G ⟨1, false, false, true, none, none⟩ b_raw_outflow := by
  unfold b_raw_outflow
  simp only [c_raw_outflow_0, okSs, okS, okE, okEs, okN, okIt, okEo, okHs, and_true, true_and]
  repeat' apply And.intro
  all_goals first | trivial | rfl | exact call_along_exits P _ (by decide) (by decide) | decide | (intro z; first | rfl | cases z)
theorem call_raw_outflow (P : Pg T G) (v : Lv) (hk : 2 ≤ v.k) (hg : false = true → v.g = true) : CallOk T G v "raw_outflow" D_raw_outflow := by
  obtain ⟨f, fd, h1, h2⟩ := P.f_raw_outflow
  exact call_ok P.tk (v := ⟨1, false, false, true, none, none⟩) (ps := ["board", "hands", "moves"]) (N := N_raw_outflow) b_raw_outflow ⟨f, fd, h1, h2, (fun z => by cases z)⟩ sc_raw_outflow m_raw_outflow (ok_raw_outflow P) rfl ⟨rfl, rfl⟩ (fun _ _ _ _ _ _ us hl => match us, hl with | [_, _, _], _ => rfl) hk hg
theorem ok_outflow (P : Pg T G) : okSs T G ⟨7, false, false, true, none, none⟩ b_outflow := by
  unfold b_outflow
  simp only [okSs, okS, okE, okEs, okN, okIt, okEo, okHs, and_true, true_and]
  repeat' apply And.intro
  all_goals first | trivial | rfl | exact call_check_hand P _ (by decide) (by decide) | exact call_check_moves P _ (by decide) (by decide) | exact call_raw_outflow P _ (by decide) (by decide) | decide | (intro z; first | rfl | cases z)
theorem call_outflow (P : Pg T G) (v : Lv) (hk : 8 ≤ v.k) (hg : false = true → v.g = true) : CallOk T G v "outflow" D_outflow := by
  obtain ⟨f, fd, h1, h2⟩ := P.f_outflow
  exact call_ok P.tk (v := ⟨7, false, false, true, none, none⟩) (ps := ["board", "hands", "moves"]) (N := N_outflow) b_outflow ⟨f, fd, h1, h2, (fun z => by cases z)⟩ sc_outflow m_outflow (ok_outflow P) rfl ⟨rfl, rfl⟩ (fun _ _ _ _ _ _ us hl => match us, hl with | [_, _, _], _ => rfl) hk hg
theorem ok_raw_hands_by (P : Pg T G) : okSs T G ⟨0, false, false, true, none, none⟩ b_raw_hands_by := by
  unfold b_raw_hands_by
  simp only [lb_raw_hands_by_0, l_raw_hands_by_0, okSs, okS, okE, okEs, okN, okIt, okEo, okHs, and_true, true_and]
  repeat' apply And.intro
  all_goals first | trivial | rfl | decide | (intro z; first | rfl | cases z)
theorem call_raw_hands_by (P : Pg T G) (v : Lv) (hk : 1 ≤ v.k) (hg : false = true → v.g = true) : CallOk T G v "raw_hands_by" D_raw_hands_by := by
  obtain ⟨f, fd, h1, h2⟩ := P.f_raw_hands_by
  exact call_ok P.tk (v := ⟨0, false, false, true, none, none⟩) (ps := ["board", "hands", "moves"]) (N := N_raw_hands_by) b_raw_hands_by ⟨f, fd, h1, h2, (fun z => by cases z)⟩ sc_raw_hands_by m_raw_hands_by (ok_raw_hands_by P) rfl ⟨rfl, rfl⟩ (fun _ _ _ _ _ _ us hl => match us, hl with | [_, _, _], _ => rfl) hk hg
theorem ok_hands_behind_moves (P : Pg T G) : okSs T G ⟨7, false, false, true, none, none⟩ b_hands_behind_moves := by
  unfold b_hands_behind_moves
  simp only [okSs, okS, okE, okEs, okN, okIt, okEo, okHs, and_true, true_and]
  repeat' apply And.intro
  all_goals first | trivial | rfl | exact call_check_hand P _ (by decide) (by decide) | exact call_check_moves P _ (by decide) (by decide) | exact call_raw_hands_by P _ (by decide) (by decide) | decide | (intro z; first | rfl | cases z)
theorem call_hands_behind_moves (P : Pg T G) (v : Lv) (hk : 8 ≤ v.k) (hg : false = true → v.g = true) : CallOk T G v "hands_behind_moves" D_hands_behind_moves := by
  obtain ⟨f, fd, h1, h2⟩ := P.f_hands_behind_moves
  exact call_ok P.tk (v := ⟨7, false, false, true, none, none⟩) (ps := ["board", "hands", "moves"]) (N := N_hands_behind_moves) b_hands_behind_moves ⟨f, fd, h1, h2, (fun z => by cases z)⟩ sc_hands_behind_moves m_hands_behind_moves (ok_hands_behind_moves P) rfl ⟨rfl, rfl⟩ (fun _ _ _ _ _ _ us hl => match us, hl with | [_, _, _], _ => rfl) hk hg
theorem ok_raw_inflow (P : Pg T G) : okSs T G ⟨2, false, false, true, none, none⟩ b_raw_inflow := by
  unfold b_raw_inflow
  simp only [lb_raw_inflow_0, l_raw_inflow_0, lb_raw_inflow_1, l_raw_inflow_1, okSs, okS, okE, okEs, okN, okIt, okEo, okHs, and_true, true_and]
  repeat' apply And.intro
  all_goals first | trivial | rfl | exact call_raw_outflow P _ (by decide) (by decide) | exact P.c_CUP | decide | (intro z; first | rfl | cases z)
theorem call_raw_inflow (P : Pg T G) (v : Lv) (hk : 3 ≤ v.k) (hg : false = true → v.g = true) : CallOk T G v "raw_inflow" D_raw_inflow := by
  obtain ⟨f, fd, h1, h2⟩ := P.f_raw_inflow
  exact call_ok P.tk (v := ⟨2, false, false, true, none, none⟩) (ps := ["board", "hands", "moves"]) (N := N_raw_inflow) b_raw_inflow ⟨f, fd, h1, h2, (fun z => by cases z)⟩ sc_raw_inflow m_raw_inflow (ok_raw_inflow P) rfl ⟨rfl, rfl⟩ (fun _ _ _ _ _ _ us hl => match us, hl with | [_, _, _], _ => rfl) hk hg
theorem ok_cups_by (P : Pg T G) : okSs T G ⟨7, false, false, true, none, none⟩ b_cups_by := by
  unfold b_cups_by
  simp only [okSs, okS, okE, okEs, okN, okIt, okEo, okHs, and_true, true_and]
  repeat' apply And.intro
  all_goals first | trivial | rfl | exact call_check_hand P _ (by decide) (by decide) | exact call_check_moves P _ (by decide) (by decide) | exact call_raw_inflow P _ (by decide) (by decide) | decide | (intro z; first | rfl | cases z)
theorem call_cups_by (P : Pg T G) (v : Lv) (hk : 8 ≤ v.k) (hg : false = true → v.g = true) : CallOk T G v "cups_by" D_cups_by := by
  obtain ⟨f, fd, h1, h2⟩ := P.f_cups_by
  exact call_ok P.tk (v := ⟨7, false, false, true, none, none⟩) (ps := ["board", "hands", "moves"]) (N := N_cups_by) b_cups_by ⟨f, fd, h1, h2, (fun z => by cases z)⟩ sc_cups_by m_cups_by (ok_cups_by P) rfl ⟨rfl, rfl⟩ (fun _ _ _ _ _ _ us hl => match us, hl with | [_, _, _], _ => rfl) hk hg
theorem ok_raw_waiting (P : Pg T G) : okSs T G ⟨3, false, false, true, none, none⟩ b_raw_waiting := by
  unfold b_raw_waiting
  simp only [c_raw_waiting_0, okSs, okS, okE, okEs, okN, okIt, okEo, okHs, and_true, true_and]
  repeat' apply And.intro
  all_goals first | trivial | rfl | exact call_raw_inflow P _ (by decide) (by decide) | decide | (intro z; first | rfl | cases z)
theorem call_raw_waiting (P : Pg T G) (v : Lv) (hk : 4 ≤ v.k) (hg : false = true → v.g = true) : CallOk T G v "raw_waiting" D_raw_waiting := by
  obtain ⟨f, fd, h1, h2⟩ := P.f_raw_waiting
  exact call_ok P.tk (v := ⟨3, false, false, true, none, none⟩) (ps := ["board", "hands", "heap", "moves"]) (N := N_raw_waiting) b_raw_waiting ⟨f, fd, h1, h2, (fun z => by cases z)⟩ sc_raw_waiting m_raw_waiting (ok_raw_waiting P) rfl ⟨rfl, rfl⟩ (fun _ _ _ _ _ _ us hl => match us, hl with | [_, _, _, _], _ => rfl) hk hg
theorem ok_waiting (P : Pg T G) : okSs T G ⟨8, false, false, true, none, none⟩ b_waiting := by
  unfold b_waiting
  simp only [okSs, okS, okE, okEs, okN, okIt, okEo, okHs, and_true, true_and]
  repeat' apply And.intro
  all_goals first | trivial | rfl | exact call_check_heap P _ (by decide) (by decide) | exact call_check_moves P _ (by decide) (by decide) | exact call_raw_waiting P _ (by decide) (by decide) | decide | (intro z; first | rfl | cases z)
theorem call_waiting (P : Pg T G) (v : Lv) (hk : 9 ≤ v.k) (hg : false = true → v.g = true) : CallOk T G v "waiting" D_waiting := by
  obtain ⟨f, fd, h1, h2⟩ := P.f_waiting
  exact call_ok P.tk (v := ⟨8, false, false, true, none, none⟩) (ps := ["board", "hands", "heap", "moves"]) (N := N_waiting) b_waiting ⟨f, fd, h1, h2, (fun z => by cases z)⟩ sc_waiting m_waiting (ok_waiting P) rfl ⟨rfl, rfl⟩ (fun _ _ _ _ _ _ us hl => match us, hl with | [_, _, _, _], _ => rfl) hk hg
theorem ok_law_hand (P : Pg T G) : okSs T G ⟨0, false, false, true, none, none⟩ b_law_hand := by
  unfold b_law_hand
  simp only [c_law_hand_0, okSs, okS, okE, okEs, okN, okIt, okEo, okHs, and_true, true_and]
  repeat' apply And.intro
  all_goals first | trivial | rfl | decide | (intro z; first | rfl | cases z)
theorem call_law_hand (P : Pg T G) (v : Lv) (hk : 1 ≤ v.k) (hg : false = true → v.g = true) : CallOk T G v "_law_hand" D_law_hand := by
  obtain ⟨f, fd, h1, h2⟩ := P.f_law_hand
  exact call_ok P.tk (v := ⟨0, false, false, true, none, none⟩) (ps := ["script"]) (N := N_law_hand) b_law_hand ⟨f, fd, h1, h2, (fun z => by cases z)⟩ sc_law_hand m_law_hand (ok_law_hand P) rfl ⟨rfl, rfl⟩ (fun _ _ _ _ _ _ us hl => match us, hl with | [_], _ => rfl) hk hg
theorem ok_law_draw (P : Pg T G) : okSs T G ⟨0, false, false, true, none, none⟩ b_law_draw := by
  unfold b_law_draw
  simp only [okSs, okS, okE, okEs, okN, okIt, okEo, okHs, and_true, true_and]
  repeat' apply And.intro
  all_goals first | trivial | rfl | decide | (intro z; first | rfl | cases z)
theorem call_law_draw (P : Pg T G) (v : Lv) (hk : 1 ≤ v.k) (hg : false = true → v.g = true) : CallOk T G v "_law_draw" D_law_draw := by
  obtain ⟨f, fd, h1, h2⟩ := P.f_law_draw
  exact call_ok P.tk (v := ⟨0, false, false, true, none, none⟩) (ps := ["hand", "many"]) (N := N_law_draw) b_law_draw ⟨f, fd, h1, h2, (fun z => by cases z)⟩ sc_law_draw m_law_draw (ok_law_draw P) rfl ⟨rfl, rfl⟩ (fun _ _ _ _ _ _ us hl => match us, hl with | [_, _], _ => rfl) hk hg
theorem ok_law_some (P : Pg T G) : okSs T G ⟨1, false, false, true, none, none⟩ b_law_some := by
  unfold b_law_some
  simp only [okSs, okS, okE, okEs, okN, okIt, okEo, okHs, and_true, true_and]
  repeat' apply And.intro
  all_goals first | trivial | rfl | exact call_law_draw P _ (by decide) (by decide) | decide | (intro z; first | rfl | cases z)
theorem call_law_some (P : Pg T G) (v : Lv) (hk : 2 ≤ v.k) (hg : false = true → v.g = true) : CallOk T G v "_law_some" D_law_some := by
  obtain ⟨f, fd, h1, h2⟩ := P.f_law_some
  exact call_ok P.tk (v := ⟨1, false, false, true, none, none⟩) (ps := ["hand", "things"]) (N := N_law_some) b_law_some ⟨f, fd, h1, h2, (fun z => by cases z)⟩ sc_law_some m_law_some (ok_law_some P) rfl ⟨rfl, rfl⟩ (fun _ _ _ _ _ _ us hl => match us, hl with | [_, _], _ => rfl) hk hg
theorem ok_law_is (P : Pg T G) : okSs T G ⟨0, true, false, true, none, none⟩ b_law_is := by
  unfold b_law_is
  simp only [okSs, okS, okE, okEs, okN, okIt, okEo, okHs, and_true, true_and]
  repeat' apply And.intro
  all_goals first | trivial | rfl | decide | (intro z; first | rfl | cases z)
theorem call_law_is (P : Pg T G) (v : Lv) (hk : 1 ≤ v.k) (hg : true = true → v.g = true) : CallOk T G v "_law_is" D_law_is := by
  obtain ⟨f, fd, h1, h2⟩ := P.f_law_is
  exact call_ok P.tk (v := ⟨0, true, false, true, none, none⟩) (ps := ["mine", "yours"]) (N := N_law_is) b_law_is ⟨f, fd, h1, h2, (fun z => by cases z)⟩ sc_law_is m_law_is (ok_law_is P) rfl ⟨rfl, rfl⟩ (fun _ _ _ _ _ _ us hl => match us, hl with | [_, _], _ => rfl) hk hg
theorem ok_law_place (P : Pg T G) : okSs T G ⟨1, false, false, true, none, none⟩ b_law_place := by
  unfold b_law_place
  simp only [okSs, okS, okE, okEs, okN, okIt, okEo, okHs, and_true, true_and]
  repeat' apply And.intro
  all_goals first | trivial | rfl | exact call_law_draw P _ (by decide) (by decide) | decide | (intro z; first | rfl | cases z)
theorem call_law_place (P : Pg T G) (v : Lv) (hk : 2 ≤ v.k) (hg : false = true → v.g = true) : CallOk T G v "_law_place" D_law_place := by
  obtain ⟨f, fd, h1, h2⟩ := P.f_law_place
  exact call_ok P.tk (v := ⟨1, false, false, true, none, none⟩) (ps := ["hand", "cups", "many"]) (N := N_law_place) b_law_place ⟨f, fd, h1, h2, (fun z => by cases z)⟩ sc_law_place m_law_place (ok_law_place P) rfl ⟨rfl, rfl⟩ (fun _ _ _ _ _ _ us hl => match us, hl with | [_, _, _], _ => rfl) hk hg
theorem ok_law_board (P : Pg T G) : okSs T G ⟨2, false, false, true, none, none⟩ b_law_board := by
  unfold b_law_board
  simp only [c_law_board_0, lb_law_board_0, l_law_board_0, okSs, okS, okE, okEs, okN, okIt, okEo, okHs, and_true, true_and]
  repeat' apply And.intro
  all_goals first | trivial | rfl | exact call_law_draw P _ (by decide) (by decide) | exact call_law_place P _ (by decide) (by decide) | decide | (intro z; first | rfl | cases z)
theorem call_law_board (P : Pg T G) (v : Lv) (hk : 3 ≤ v.k) (hg : false = true → v.g = true) : CallOk T G v "_law_board" D_law_board := by
  obtain ⟨f, fd, h1, h2⟩ := P.f_law_board
  exact call_ok P.tk (v := ⟨2, false, false, true, none, none⟩) (ps := ["hand"]) (N := N_law_board) b_law_board ⟨f, fd, h1, h2, (fun z => by cases z)⟩ sc_law_board m_law_board (ok_law_board P) rfl ⟨rfl, rfl⟩ (fun _ _ _ _ _ _ us hl => match us, hl with | [_], _ => rfl) hk hg
theorem ok_law_hands (P : Pg T G) : okSs T G ⟨1, false, false, true, none, none⟩ b_law_hands := by
  unfold b_law_hands
  simp only [c_law_hands_0, okSs, okS, okE, okEs, okN, okIt, okEo, okHs, and_true, true_and]
  repeat' apply And.intro
  all_goals first | trivial | rfl | exact call_law_draw P _ (by decide) (by decide) | decide | (intro z; first | rfl | cases z)
theorem call_law_hands (P : Pg T G) (v : Lv) (hk : 2 ≤ v.k) (hg : false = true → v.g = true) : CallOk T G v "_law_hands" D_law_hands := by
  obtain ⟨f, fd, h1, h2⟩ := P.f_law_hands
  exact call_ok P.tk (v := ⟨1, false, false, true, none, none⟩) (ps := ["hand", "board"]) (N := N_law_hands) b_law_hands ⟨f, fd, h1, h2, (fun z => by cases z)⟩ sc_law_hands m_law_hands (ok_law_hands P) rfl ⟨rfl, rfl⟩ (fun _ _ _ _ _ _ us hl => match us, hl with | [_, _], _ => rfl) hk hg
theorem word_law_word (P : Pg T G) (v : Lv) : WordOk T G v "_law_word" W_law_word := by
  obtain ⟨f, fd, gm, F⟩ := P.f_law_word
  refine word_ok P.tk F gm sc_law_word rfl (by first | exact .inl rfl | exact .inr (.inl rfl)) (by decide) (F.bindsN fun _ _ _ _ _ _ us hl => match us, hl with | [_], _ => rfl) wb_law_word W_law_word m_law_word (fun w th => ?_) (fun w th st hw => ?_)
  · unfold wb_law_word
    simp only [okSs, okS, okE, okEs, okN, okIt, okEo, okHs, and_true, true_and]
    repeat' apply And.intro
    all_goals first | trivial | rfl | exact P.tk.elim | (first | exact P.h_BallError | exact P.h_NoMoves | exact P.h_NoHeap | exact P.h_NoHands | exact P.h_NoBoard)
  · have e1 : ∀ u : Val, (([u].map some ++ List.replicate (1 - 1) none) : Env).getD 0 none = some u := fun _ => rfl
    simp only [W_law_word, wb_law_word, runFn, List.length_cons, List.length_nil, execs, exec, e1, if_true]
    cases th st <;> rfl
theorem ok_law_no_board (P : Pg T G) : okSs T G ⟨2, false, false, true, none, none⟩ b_law_no_board := by
  unfold b_law_no_board
  simp only [okSs, okS, okE, okEs, okN, okIt, okEo, okHs, and_true, true_and]
  repeat' apply And.intro
  all_goals first | trivial | rfl | exact call_law_some P _ (by decide) (by decide) | decide | (intro z; first | rfl | cases z)
theorem call_law_no_board (P : Pg T G) (v : Lv) (hk : 3 ≤ v.k) (hg : false = true → v.g = true) : CallOk T G v "_law_no_board" D_law_no_board := by
  obtain ⟨f, fd, h1, h2⟩ := P.f_law_no_board
  exact call_ok P.tk (v := ⟨2, false, false, true, none, none⟩) (ps := ["hand"]) (N := N_law_no_board) b_law_no_board ⟨f, fd, h1, h2, (fun z => by cases z)⟩ sc_law_no_board m_law_no_board (ok_law_no_board P) rfl ⟨rfl, rfl⟩ (fun _ _ _ _ _ _ us hl => match us, hl with | [_], _ => rfl) hk hg
theorem ok_law_number (P : Pg T G) : okSs T G ⟨2, false, false, true, none, none⟩ b_law_number := by
  unfold b_law_number
  simp only [okSs, okS, okE, okEs, okN, okIt, okEo, okHs, and_true, true_and]
  repeat' apply And.intro
  all_goals first | trivial | rfl | exact call_law_some P _ (by decide) (by decide) | decide | (intro z; first | rfl | cases z)
theorem call_law_number (P : Pg T G) (v : Lv) (hk : 3 ≤ v.k) (hg : false = true → v.g = true) : CallOk T G v "_law_number" D_law_number := by
  obtain ⟨f, fd, h1, h2⟩ := P.f_law_number
  exact call_ok P.tk (v := ⟨2, false, false, true, none, none⟩) (ps := ["hand"]) (N := N_law_number) b_law_number ⟨f, fd, h1, h2, (fun z => by cases z)⟩ sc_law_number m_law_number (ok_law_number P) rfl ⟨rfl, rfl⟩ (fun _ _ _ _ _ _ us hl => match us, hl with | [_], _ => rfl) hk hg
theorem ok_law_outflow (P : Pg T G) : okSs T G ⟨0, false, false, true, none, none⟩ b_law_outflow := by
  unfold b_law_outflow
  simp only [lb_law_outflow_0, l_law_outflow_0, lb_law_outflow_1, l_law_outflow_1, okSs, okS, okE, okEs, okN, okIt, okEo, okHs, and_true, true_and]
  repeat' apply And.intro
  all_goals first | trivial | rfl | decide | (intro z; first | rfl | cases z)
theorem call_law_outflow (P : Pg T G) (v : Lv) (hk : 1 ≤ v.k) (hg : false = true → v.g = true) : CallOk T G v "_law_outflow" D_law_outflow := by
  obtain ⟨f, fd, h1, h2⟩ := P.f_law_outflow
  exact call_ok P.tk (v := ⟨0, false, false, true, none, none⟩) (ps := ["board", "hands_here", "moves_here"]) (N := N_law_outflow) b_law_outflow ⟨f, fd, h1, h2, (fun z => by cases z)⟩ sc_law_outflow m_law_outflow (ok_law_outflow P) rfl ⟨rfl, rfl⟩ (fun _ _ _ _ _ _ us hl => match us, hl with | [_, _, _], _ => rfl) hk hg
theorem ok_law_come (P : Pg T G) : okSs T G ⟨0, false, false, true, none, none⟩ b_law_come := by
  unfold b_law_come
  simp only [c_law_come_0, lb_law_come_0, l_law_come_0, okSs, okS, okE, okEs, okN, okIt, okEo, okHs, and_true, true_and]
  repeat' apply And.intro
  all_goals first | trivial | rfl | decide | (intro z; first | rfl | cases z)
theorem call_law_come (P : Pg T G) (v : Lv) (hk : 1 ≤ v.k) (hg : false = true → v.g = true) : CallOk T G v "_law_come" D_law_come := by
  obtain ⟨f, fd, h1, h2⟩ := P.f_law_come
  exact call_ok P.tk (v := ⟨0, false, false, true, none, none⟩) (ps := ["board", "flow", "place"]) (N := N_law_come) b_law_come ⟨f, fd, h1, h2, (fun z => by cases z)⟩ sc_law_come m_law_come (ok_law_come P) rfl ⟨rfl, rfl⟩ (fun _ _ _ _ _ _ us hl => match us, hl with | [_, _, _], _ => rfl) hk hg
theorem ok_law_right (P : Pg T G) : okSs T G ⟨11, true, true, true, none, none⟩ b_law_right := by
  unfold b_law_right
  simp only [c_law_right_0, c_law_right_1, c_law_right_2, c_law_right_3, c_law_right_4, c_law_right_5, lb_law_right_0, l_law_right_0, okSs, okS, okE, okEs, okN, okIt, okEo, okHs, and_true, true_and]
  repeat' apply And.intro
  all_goals first | trivial | rfl | exact call_law_board P _ (by decide) (by decide) | exact call_law_hands P _ (by decide) (by decide) | exact call_law_number P _ (by decide) (by decide) | exact call_law_outflow P _ (by decide) (by decide) | exact call_law_come P _ (by decide) (by decide) | exact call_hands_behind_moves P _ (by decide) (by decide) | exact call_outflow P _ (by decide) (by decide) | exact call_waiting P _ (by decide) (by decide) | exact call_cups_by P _ (by decide) (by decide) | exact call_law_is P _ (by decide) (by decide) | exact call_are_moves P _ (by decide) (by decide) | exact call_is_heap P _ (by decide) (by decide) | exact call_law_some P _ (by decide) (by decide) | exact call_law_no_board P _ (by decide) (by decide) | exact (List.forall_mem_cons.mpr ⟨⟨call_outflow P _ (by decide) (by decide), P.g_outflow⟩, (List.forall_mem_cons.mpr ⟨⟨call_hands_behind_moves P _ (by decide) (by decide), P.g_hands_behind_moves⟩, (List.forall_mem_cons.mpr ⟨⟨call_cups_by P _ (by decide) (by decide), P.g_cups_by⟩, (fun p h => by cases h)⟩)⟩)⟩) | exact word_law_word P _ | exact P.g_cups_by | exact P.g_hands_behind_moves | exact P.g_outflow | decide | (intro z; first | rfl | cases z)
theorem call_law_right (P : Pg T G) (v : Lv) (hk : 12 ≤ v.k) (hg : true = true → v.g = true) : CallOk T G v "_law_right" D_law_right := by
  obtain ⟨f, fd, h1, h2, h3⟩ := P.f_law_right
  exact call_ok P.tk (v := ⟨11, true, true, true, none, none⟩) (ps := ["hand"]) (N := N_law_right) b_law_right ⟨f, fd, h1, h2, (fun _ => h3)⟩ sc_law_right m_law_right (ok_law_right P) rfl ⟨rfl, rfl⟩ (fun _ _ _ _ _ _ us hl => match us, hl with | [_], _ => rfl) hk hg
theorem ok_law (P : Pg T G) : okSs T G ⟨12, true, false, true, none, none⟩ b_law := by
  unfold b_law
  simp only [c_law_0, okSs, okS, okE, okEs, okN, okIt, okEo, okHs, and_true, true_and]
  repeat' apply And.intro
  all_goals first | trivial | rfl | exact call_law_hand P _ (by decide) (by decide) | exact call_law_right P _ (by decide) (by decide) | decide | (intro z; first | rfl | cases z)
theorem call_law (P : Pg T G) (v : Lv) (hk : 13 ≤ v.k) (hg : true = true → v.g = true) : CallOk T G v "law" D_law := by
  obtain ⟨f, fd, h1, h2⟩ := P.f_law
  exact call_ok P.tk (v := ⟨12, true, false, true, none, none⟩) (ps := ["script"]) (N := N_law) b_law ⟨f, fd, h1, h2, (fun z => by cases z)⟩ sc_law m_law (ok_law P) rfl ⟨rfl, rfl⟩ (fun _ _ _ _ _ _ us hl => match us, hl with | [_], _ => rfl) hk hg
end
end MP.Pk31
set_option maxHeartbeats 4000000
/-! law k31: what its defs compute -/
namespace MP.Pk31
open PySem L2 MP
theorem cup_ne : (PySem.Str.ofString "cup" = PySem.Str.ofString "switch") = False := by simp only [eq_iff_iff, iff_false]; decide
def plainV : Val → Bool
  | .non | .bl _ | .int _ | .str _ | .tup _ | .lst _ | .dK _ => true
  | _ => false
def isIntV : Val → Bool
  | .int _ => true
  | _ => false
def within (v : Val) (lo hi : Int) : Bool := match v with
  | .int i => decide (lo ≤ i) && decide (i ≤ hi)
  | _ => false
theorem is_integer_s (v : Val) (st : Store) (h : plainV v = true) : D_is_integer [v] st = .ok (.bl (isIntV v)) st := by
  cases v <;> simp [plainV] at h <;> simp [D_is_integer, b_is_integer, runFn, execs, exec, evalEs, evalEo, evalN_lst, evalN_dct, evalIt, popTo_self, e_var, e_lit, e_gcon, e_gfn, e_bin, e_neg, e_cmp, e_isn, e_isb, e_and, e_or, e_not, e_ite, e_tup, e_val, e_cell, e_idx, e_slc, e_blt, e_isi, e_call, e_word, e_mth, e_rev, e_lenset, e_callv, isInst, truth, isIntV]
theorem is_within_s (v : Val) (lo hi : Int) (st : Store) (h : plainV v = true) : D_is_within [v, .int lo, .int hi] st = .ok (.bl (within v lo hi)) st := by
  have e := is_integer_s v st h
  cases v <;> simp [plainV] at h <;> simp [D_is_within, b_is_within, runFn, execs, exec, evalEs, evalEo, evalN_lst, evalN_dct, evalIt, popTo_self, e_var, e_lit, e_gcon, e_gfn, e_bin, e_neg, e_cmp, e_isn, e_isb, e_and, e_or, e_not, e_ite, e_tup, e_val, e_cell, e_idx, e_slc, e_blt, e_isi, e_call, e_word, e_mth, e_rev, e_lenset, e_callv, e_chain, isInst, truth, isIntV, e, within, cop]
  rename_i i
  by_cases h1 : lo ≤ i <;> by_cases h2 : i ≤ hi <;> simp [h1, h2, popTo_self]
def tupLen (v : Val) (n : Int) : Bool := match v with
  | .tup xs => decide ((xs.length : Int) = n)
  | _ => false
theorem is_tuple_of_s (v : Val) (n : Int) (st : Store) (h : plainV v = true) : D_is_tuple_of [v, .int n] st = .ok (.bl (tupLen v n)) st := by
  cases v <;> simp [plainV] at h <;> simp [D_is_tuple_of, b_is_tuple_of, runFn, execs, exec, evalEs, evalEo, evalN_lst, evalN_dct, evalIt, popTo_self, e_var, e_lit, e_gcon, e_gfn, e_bin, e_neg, e_cmp, e_isn, e_isb, e_and, e_or, e_not, e_ite, e_tup, e_val, e_cell, e_idx, e_slc, e_blt, e_isi, e_call, e_word, e_mth, e_rev, e_lenset, e_callv, isInst, truth, tupLen, cop, blt, lenOf, eqV]
/-- a thing whose parts are plain -/
def plain2 : Val → Bool
  | .tup xs => xs.all plainV
  | v => plainV v
def isPlace (cups sw : Int) (v : Val) : Bool := match v with
  | .tup [.str w, x] => if w = "switch" then within x 0 (sw - 1) else decide (w = "cup") && within x 0 (cups - 1)
  | _ => false
theorem plain2_1 {v : Val} (h : plain2 v = true) : plainV v = true := by
  cases v <;> simp_all [plain2, plainV]
theorem is_place_of_s (cups sw : Int) (v : Val) (st : Store) (h : plain2 v = true) : D_is_place_of [.int cups, .int sw, v] st = .ok (.bl (isPlace cups sw v)) st := by
  have e := is_tuple_of_s v 2 st (plain2_1 h)
  cases ht : tupLen v 2 with
  | false =>
    rw [ht] at e
    have hp : isPlace cups sw v = false := by
      unfold isPlace
      split
      · simp [tupLen] at ht
      · rfl
    simp [D_is_place_of, b_is_place_of, runFn, execs, exec, evalEs, evalEo, evalN_lst, evalN_dct, evalIt, popTo_self, e_var, e_lit, e_gcon, e_gfn, e_bin, e_neg, e_cmp, e_isn, e_isb, e_and, e_or, e_not, e_ite, e_tup, e_val, e_cell, e_idx, e_slc, e_blt, e_isi, e_call, e_word, e_mth, e_rev, e_lenset, e_callv, truth, e, hp]
  | true =>
    rw [ht] at e
    obtain ⟨a, b, rfl⟩ : ∃ a b, v = .tup [a, b] := by
      unfold tupLen at ht
      split at ht
      · rename_i xs
        have := of_decide_eq_true ht
        match xs, this with
        | [a, b], _ => exact ⟨a, b, rfl⟩
        | [], h => simp at h
        | [_], h => simp at h
        | _ :: _ :: _ :: _, h => simp at h; omega
      · cases ht
    simp only [plain2, List.all_cons, List.all_nil, Bool.and_true, Bool.and_eq_true] at h
    have w1 := is_within_s b 0 (sw - 1) st h.2
    have w2 := is_within_s b 0 (cups - 1) st h.2
    have ha := h.1
    cases a <;> simp [plainV] at ha <;> simp [D_is_place_of, b_is_place_of, runFn, execs, exec, evalEs, evalEo, evalN_lst, evalN_dct, evalIt, popTo_self, e_var, e_lit, e_gcon, e_gfn, e_bin, e_neg, e_cmp, e_isn, e_isb, e_and, e_or, e_not, e_ite, e_tup, e_val, e_cell, e_idx, e_slc, e_blt, e_isi, e_call, e_word, e_mth, e_rev, e_lenset, e_callv, truth, e, isInst, idxV, seqOf, atI, ixN, isPlace, cop, eqV, bop]
    rename_i w
    by_cases c1 : w = "switch"
    · subst c1; simp [w1, popTo_self]
    · by_cases c2 : w = "cup"
      · subst c2; simp [w2, popTo_self, cup_ne]
      · simp [c1, c2, popTo_self]
end MP.Pk31
set_option maxHeartbeats 4000000
/-! law k31: boards -/
namespace MP.Pk31
open PySem L2 MP
def lenIn (n lo hi : Nat) : Bool := decide (lo ≤ n) && decide (n ≤ hi)
def isExits (cups : Int) (m : Nat) (v : Val) : Bool := match v with
  | .tup xs => lenIn xs.length 1 4 && xs.all (isPlace cups m)
  | _ => false
def isBoard (v : Val) : Bool := match v with
  | .tup [c, .tup sw] => within c 1 4 && (lenIn sw.length 1 24 && match c with
    | .int cups => sw.all (isExits cups sw.length)
    | _ => false)
  | _ => false
def plainX (v : Val) : Bool := plainV v && match v with
  | .tup xs => xs.all plain2
  | _ => true
def plain3 (v : Val) : Bool := plainV v && match v with
  | .tup xs => xs.all plainV && match xs with
    | [_, .tup sw] => sw.all plainX
    | _ => true
  | _ => true
theorem chain_le (lo hi : Nat) (n : Nat) : (if (lo : Int) ≤ (n : Int) then decide ((n : Int) ≤ (hi : Int)) else false) = lenIn n lo hi := by
  unfold lenIn
  by_cases h : lo ≤ n
  · rw [if_pos (by omega)]; simp [h]
  · rw [if_neg (by omega)]; simp [h]
theorem isTup_s (v : Val) (st : Store) (h : plainV v = true) : isInst v .tuple st = some (match v with | .tup _ => true | _ => false) := by
  cases v <;> simp [plainV] at h <;> simp [isInst]
theorem lenIn_s (e elo ehi : E) (lo hi n : Nat) (env : Env) (st : Store) (h0 : evalE elo env st = .ok (.int lo) st) (h1 : evalE e env st = .ok (.int n) st) (h2 : evalE ehi env st = .ok (.int hi) st) : evalE (.chain .le .le elo e ehi) env st = .ok (.bl (lenIn n lo hi)) st := by
  simp only [e_chain, h0, h1, h2, Out.bind_ok, cop]
  unfold lenIn
  by_cases h : lo ≤ n
  · simp [h, h2, cop]
  · simp [h]
theorem comp_place (cups : Int) (o0 o4 : Option Val) (sw xs : List Val) (st : Store) (h : xs.all plain2 = true) (hl : xs.length ≤ sizeLine) :
    evalN c_is_board_0 [o0, some (.tup xs), some (.int cups), some (.tup sw), o4] st = .ok (.lst (xs.map fun p => .bl (isPlace cups sw.length p))) st := by
  unfold c_is_board_0
  refine comp_map (items := xs) (by simp [evalIt, evalE, walkSeq]) (fun p hp => ⟨_, rfl, ?_⟩) hl
  simp [runFn, execs, exec, evalEs, evalEo, evalN_lst, evalN_dct, evalIt, popTo_self, e_var, e_lit, e_gcon, e_gfn, e_bin, e_neg, e_cmp, e_isn, e_isb, e_and, e_or, e_not, e_ite, e_tup, e_val, e_cell, e_idx, e_slc, e_blt, e_isi, e_call, e_word, e_mth, e_rev, e_lenset, e_callv, wipeE, blt, lenOf, is_place_of_s _ _ _ _ (List.all_eq_true.mp h p hp)]
/-- one turn of is_board's walk -/
theorem board_turn (cups : Int) (sw : List Val) (x : Val) (o0 o4 : Option Val) (st : Store) (h : plainX x = true) :
    execs lb_is_board_0 [o0, some x, some (.int cups), some (.tup sw), o4] st = if isExits cups sw.length x = true then .nx [o0, some x, some (.int cups), some (.tup sw), o4] st else .rt (.bl false) st := by
  simp only [plainX, Bool.and_eq_true] at h
  have hi := isTup_s x st h.1
  unfold lb_is_board_0
  cases x with
  | tup xs =>
    have h2 : xs.all plain2 = true := h.2
    have hc := lenIn_s (.blt .len (.cons (.var 1) .nil)) (.lit (.int 1)) (.gcon "MOST_EXITS" (.int 4)) 1 4 xs.length [o0, some (.tup xs), some (.int cups), some (.tup sw), o4] st (by simp [runFn, execs, exec, evalEs, evalEo, evalN_lst, evalN_dct, evalIt, popTo_self, e_var, e_lit, e_gcon, e_gfn, e_bin, e_neg, e_cmp, e_isn, e_isb, e_and, e_or, e_not, e_ite, e_tup, e_val, e_cell, e_idx, e_slc, e_blt, e_isi, e_call, e_word, e_mth, e_rev, e_lenset, e_callv]) (by simp [runFn, execs, exec, evalEs, evalEo, evalN_lst, evalN_dct, evalIt, popTo_self, e_var, e_lit, e_gcon, e_gfn, e_bin, e_neg, e_cmp, e_isn, e_isb, e_and, e_or, e_not, e_ite, e_tup, e_val, e_cell, e_idx, e_slc, e_blt, e_isi, e_call, e_word, e_mth, e_rev, e_lenset, e_callv, blt, lenOf]) (by simp [runFn, execs, exec, evalEs, evalEo, evalN_lst, evalN_dct, evalIt, popTo_self, e_var, e_lit, e_gcon, e_gfn, e_bin, e_neg, e_cmp, e_isn, e_isb, e_and, e_or, e_not, e_ite, e_tup, e_val, e_cell, e_idx, e_slc, e_blt, e_isi, e_call, e_word, e_mth, e_rev, e_lenset, e_callv])
    cases hl : lenIn xs.length 1 4 with
    | false =>
      rw [hl] at hc
      simp [runFn, execs, exec, evalEs, evalEo, evalN_lst, evalN_dct, evalIt, popTo_self, e_var, e_lit, e_gcon, e_gfn, e_bin, e_neg, e_cmp, e_isn, e_isb, e_and, e_or, e_not, e_ite, e_tup, e_val, e_cell, e_idx, e_slc, e_blt, e_isi, e_call, e_word, e_mth, e_rev, e_lenset, e_callv, isInst, truth, isExits, hl, hc]
    | true =>
      have hz : xs.length ≤ sizeLine := by unfold lenIn at hl; simp at hl; unfold sizeLine; omega
      have hcp := comp_place cups o0 o4 sw xs st h2 hz
      have al : (xs.map fun p => isPlace cups sw.length p).all id = xs.all (isPlace cups sw.length) := by
        rw [List.all_map]; rfl
      rw [hl] at hc
      simp only [runFn, execs, exec, evalEs, evalEo, evalN_lst, evalN_dct, evalIt, popTo_self, e_var, e_lit, e_gcon, e_gfn, e_bin, e_neg, e_cmp, e_isn, e_isb, e_and, e_or, e_not, e_ite, e_tup, e_val, e_cell, e_idx, e_slc, e_blt, e_isi, e_call, e_word, e_mth, e_rev, e_lenset, e_callv, isInst, truth, isExits, hl, hc, hcp, blt, bools_map, al, Out.bind_ok, Out.of_some, List.getD_cons_succ, List.getD_cons_zero, Option.map_some, Bool.not_true, Bool.not_false, Bool.false_eq_true, if_false, if_true, Out.res_ok, Res.seq_nx, Bool.true_and]
      cases hb : xs.all (isPlace cups sw.length) <;> simp [hb]
  | _ => first
      | (simp [plainV] at h; done)
      | simp [runFn, execs, exec, evalEs, evalEo, evalN_lst, evalN_dct, evalIt, popTo_self, e_var, e_lit, e_gcon, e_gfn, e_bin, e_neg, e_cmp, e_isn, e_isb, e_and, e_or, e_not, e_ite, e_tup, e_val, e_cell, e_idx, e_slc, e_blt, e_isi, e_call, e_word, e_mth, e_rev, e_lenset, e_callv, isInst, truth, isExits]
theorem board_walk (cups : Int) (sw : List Val) (o0 o1 o4 : Option Val) (st : Store) (h : sw.all plainX = true) :
    (sw.all (isExits cups sw.length) = true → ∃ p q, exec l_is_board_0 [o0, o1, some (.int cups), some (.tup sw), o4] st = .nx [o0, p, some (.int cups), some (.tup sw), q] st) ∧
    (sw.all (isExits cups sw.length) = false → exec l_is_board_0 [o0, o1, some (.int cups), some (.tup sw), o4] st = .rt (.bl false) st) := by
  have key := forL_all (f := turnL (.name 1) lb_is_board_0) (p := isExits cups sw.length) (st := st) (v := .bl false) (xs := sw) (P := fun env => ∃ p q, env = [o0, p, some (.int cups), some (.tup sw), q]) (env := [o0, o1, some (.int cups), some (.tup sw), o4]) (fun x hx env he => ?_) ⟨_, _, rfl⟩
  · have e : exec l_is_board_0 [o0, o1, some (.int cups), some (.tup sw), o4] st = forL (turnL (.name 1) lb_is_board_0) sw [o0, o1, some (.int cups), some (.tup sw), o4] st := by
      unfold l_is_board_0
      rw [exec_loop]
      simp [runFn, execs, exec, evalEs, evalEo, evalN_lst, evalN_dct, evalIt, popTo_self, e_var, e_lit, e_gcon, e_gfn, e_bin, e_neg, e_cmp, e_isn, e_isb, e_and, e_or, e_not, e_ite, e_tup, e_val, e_cell, e_idx, e_slc, e_blt, e_isi, e_call, e_word, e_mth, e_rev, e_lenset, e_callv, walkSeq]
    rw [e]
    refine ⟨fun z => ?_, key.2⟩
    obtain ⟨env', h1, p, q, h2⟩ := key.1 z
    exact ⟨p, q, by rw [h1, h2]⟩
  · obtain ⟨p, q, rfl⟩ := he
    have t := board_turn cups sw x o0 q st (List.all_eq_true.mp h x hx)
    have eb : bindT (.name 1) x [o0, p, some (.int cups), some (.tup sw), q] = some [o0, some x, some (.int cups), some (.tup sw), q] := rfl
    rw [turnL_eq eb, t]
    refine ⟨fun z => ⟨[o0, some x, some (.int cups), some (.tup sw), q], by simp only [z, if_true], some x, q, rfl⟩, fun z => by simp only [z]; rfl⟩
theorem is_board_s (v : Val) (st : Store) (h : plain3 v = true) : D_is_board [v] st = .ok (.bl (isBoard v)) st := by
  simp only [plain3, Bool.and_eq_true] at h
  have e := is_tuple_of_s v 2 st h.1
  cases ht : tupLen v 2 with
  | false =>
    rw [ht] at e
    have hp : isBoard v = false := by
      unfold isBoard
      split
      · simp [tupLen] at ht
      · rfl
    simp [D_is_board, b_is_board, runFn, execs, exec, evalEs, evalEo, evalN_lst, evalN_dct, evalIt, popTo_self, e_var, e_lit, e_gcon, e_gfn, e_bin, e_neg, e_cmp, e_isn, e_isb, e_and, e_or, e_not, e_ite, e_tup, e_val, e_cell, e_idx, e_slc, e_blt, e_isi, e_call, e_word, e_mth, e_rev, e_lenset, e_callv, truth, e, hp]
  | true =>
    rw [ht] at e
    obtain ⟨a, b, rfl⟩ : ∃ a b, v = .tup [a, b] := by
      unfold tupLen at ht
      split at ht
      · rename_i xs
        have := of_decide_eq_true ht
        match xs, this with
        | [a, b], _ => exact ⟨a, b, rfl⟩
        | [], h => simp at h
        | [_], h => simp at h
        | _ :: _ :: _ :: _, h => simp at h; omega
      · cases ht
    have h22 : ([a, b].all plainV && match [a, b] with
      | [_, .tup sw] => sw.all plainX
      | _ => true) = true := h.2
    simp only [Bool.and_eq_true] at h22
    have h2 : plainV a = true ∧ plainV b = true := by
      have := h22.1
      simpa using this
    have w := is_within_s a 1 4 st h2.1
    have hb := isTup_s b st h2.2
    cases hw : within a 1 4 with
    | false =>
      rw [hw] at w
      have hp : isBoard (.tup [a, b]) = false := by
        cases b <;> simp [isBoard, hw]
      simp [D_is_board, b_is_board, runFn, execs, exec, evalEs, evalEo, evalN_lst, evalN_dct, evalIt, popTo_self, e_var, e_lit, e_gcon, e_gfn, e_bin, e_neg, e_cmp, e_isn, e_isb, e_and, e_or, e_not, e_ite, e_tup, e_val, e_cell, e_idx, e_slc, e_blt, e_isi, e_call, e_word, e_mth, e_rev, e_lenset, e_callv, truth, e, hp, idxV, seqOf, atI, ixN, w]
    | true =>
      rw [hw] at w
      obtain ⟨cups, rfl⟩ : ∃ i, a = .int i := by
        cases a <;> simp [within] at hw
        exact ⟨_, rfl⟩
      cases b with
      | tup sw =>
        have hc := fun env (h3 : env.getD 3 none = some (Val.tup sw)) => lenIn_s (.blt .len (.cons (.var 3) .nil)) (.lit (.int 1)) (.gcon "MOST_SWITCHES" (.int 24)) 1 24 sw.length env st (by simp [runFn, execs, exec, evalEs, evalEo, evalN_lst, evalN_dct, evalIt, popTo_self, e_var, e_lit, e_gcon, e_gfn, e_bin, e_neg, e_cmp, e_isn, e_isb, e_and, e_or, e_not, e_ite, e_tup, e_val, e_cell, e_idx, e_slc, e_blt, e_isi, e_call, e_word, e_mth, e_rev, e_lenset, e_callv]) (by simp only [e_blt, evalEs, e_var, h3, Out.of_some, Out.bind_ok, blt, lenOf, Option.map_some]) (by simp [runFn, execs, exec, evalEs, evalEo, evalN_lst, evalN_dct, evalIt, popTo_self, e_var, e_lit, e_gcon, e_gfn, e_bin, e_neg, e_cmp, e_isn, e_isb, e_and, e_or, e_not, e_ite, e_tup, e_val, e_cell, e_idx, e_slc, e_blt, e_isi, e_call, e_word, e_mth, e_rev, e_lenset, e_callv])
        have hc := hc [some (.tup [.int cups, .tup sw]), none, some (.int cups), some (.tup sw), none] rfl
        have hs : sw.all plainX = true := h22.2
        have wk := board_walk cups sw (some (.tup [.int cups, .tup sw])) none none st hs
        cases hl : lenIn sw.length 1 24 with
        | false =>
          rw [hl] at hc
          simp [D_is_board, b_is_board, runFn, execs, exec, evalEs, evalEo, evalN_lst, evalN_dct, evalIt, popTo_self, e_var, e_lit, e_gcon, e_gfn, e_bin, e_neg, e_cmp, e_isn, e_isb, e_and, e_or, e_not, e_ite, e_tup, e_val, e_cell, e_idx, e_slc, e_blt, e_isi, e_call, e_word, e_mth, e_rev, e_lenset, e_callv, truth, e, isBoard, idxV, seqOf, atI, ixN, w, isInst, bindTs, bindT, hc, hl, hw]
        | true =>
          rw [hl] at hc
          cases hx : sw.all (isExits cups sw.length) with
          | true =>
            obtain ⟨p, q, hn⟩ := wk.1 hx
            have hx' : ∀ x ∈ sw, isExits cups sw.length x = true := fun x hx2 => List.all_eq_true.mp hx x hx2
            have hi : isBoard (.tup [.int cups, .tup sw]) = true := by simp only [isBoard, hw, hl, hx, Bool.and_self]
            rw [hi]
            simp only [D_is_board, b_is_board, runFn, List.length_cons, List.length_nil, if_true, execs, List.map_cons, List.map_nil, List.replicate, Nat.reduceSub, Nat.reduceAdd, List.cons_append, List.nil_append]
            simp [exec, runFn, execs, exec, evalEs, evalEo, evalN_lst, evalN_dct, evalIt, popTo_self, e_var, e_lit, e_gcon, e_gfn, e_bin, e_neg, e_cmp, e_isn, e_isb, e_and, e_or, e_not, e_ite, e_tup, e_val, e_cell, e_idx, e_slc, e_blt, e_isi, e_call, e_word, e_mth, e_rev, e_lenset, e_callv, truth, e, idxV, seqOf, atI, ixN, w, isInst, bindTs, bindT, hc, hn]
          | false =>
            have hn := wk.2 hx
            have hi : isBoard (.tup [.int cups, .tup sw]) = false := by simp only [isBoard, hw, hl, hx, Bool.and_false]
            rw [hi]
            simp [D_is_board, b_is_board, runFn, execs, exec, evalEs, evalEo, evalN_lst, evalN_dct, evalIt, popTo_self, e_var, e_lit, e_gcon, e_gfn, e_bin, e_neg, e_cmp, e_isn, e_isb, e_and, e_or, e_not, e_ite, e_tup, e_val, e_cell, e_idx, e_slc, e_blt, e_isi, e_call, e_word, e_mth, e_rev, e_lenset, e_callv, truth, e, idxV, seqOf, atI, ixN, w, isInst, bindTs, bindT, hc, hn]
      | _ => first
          | (simp [plainV] at h2; done)
          | simp [D_is_board, b_is_board, runFn, execs, exec, evalEs, evalEo, evalN_lst, evalN_dct, evalIt, popTo_self, e_var, e_lit, e_gcon, e_gfn, e_bin, e_neg, e_cmp, e_isn, e_isb, e_and, e_or, e_not, e_ite, e_tup, e_val, e_cell, e_idx, e_slc, e_blt, e_isi, e_call, e_word, e_mth, e_rev, e_lenset, e_callv, truth, e, isBoard, idxV, seqOf, atI, ixN, w, isInst]
end MP.Pk31
set_option maxHeartbeats 4000000
/-! law k31: what is asked of boards -/
namespace MP.Pk31
open PySem L2 MP
theorem check_board_s (v : Val) (st : Store) (h : plain3 v = true) : D_check_board [v] st = if isBoard v = true then .ok .non st else .exc "NoBoard" [] st := by
  have e := is_board_s v st h
  cases hb : isBoard v <;> rw [hb] at e <;> simp [D_check_board, b_check_board, runFn, execs, exec, evalEs, evalEo, evalN_lst, evalN_dct, evalIt, popTo_self, e_var, e_lit, e_gcon, e_gfn, e_bin, e_neg, e_cmp, e_isn, e_isb, e_and, e_or, e_not, e_ite, e_tup, e_val, e_cell, e_idx, e_slc, e_blt, e_isi, e_call, e_word, e_mth, e_rev, e_lenset, e_callv, truth, e]
abbrev bd (cups : Int) (sw : List Val) : Val := .tup [.int cups, .tup sw]
theorem within_nat {n m : Nat} (h : n < m) : within (.int n) 0 (m - 1) = true := by
  simp [within]; omega
end MP.Pk31
set_option maxHeartbeats 4000000
/-! law k31: the exits told -/
namespace MP.Pk31
open PySem L2 MP
theorem smallI_nat {n : Nat} (h : n ≤ 1000) : smallI (n : Int) := by unfold smallI; omega
theorem noRefs_append : ∀ {xs ys : List Val}, noRefs (xs ++ ys) = (noRefs xs && noRefs ys)
  | [], ys => by simp [noRefs]
  | x :: xs, ys => by simp [noRefs, noRefs_append, Bool.and_assoc]
theorem enum_mem {sw : List Val} {v : Val} (h : v ∈ enumUp sw) : ∃ (s : Nat) (x : Val), v = .tup [.int s, x] ∧ sw[s]? = some x := by
  unfold enumUp at h
  obtain ⟨p, hp, rfl⟩ := List.mem_map.mp h
  exact ⟨p.2, p.1, rfl, by simpa using (List.mem_zipIdx_iff_getElem?.mp hp)⟩
end MP.Pk31
set_option maxHeartbeats 4000000
/-! law k31: places, entries -/
namespace MP.Pk31
open PySem L2 MP
theorem strOk_w {w : PySem.Str} (h : w = "switch" ∨ w = "cup") : PyData.strOk w = true := by
  rcases h with rfl | rfl <;> decide +kernel
theorem place_inv {cups sw : Int} {v : Val} (h : isPlace cups sw v = true) : ∃ (w : PySem.Str) (i : Int), v = .tup [.str w, .int i] ∧ (w = "switch" ∨ w = "cup") := by
  unfold isPlace at h
  split at h
  · rename_i w x
    split at h
    · rename_i hw
      cases x <;> simp [within] at h
      exact ⟨w, _, rfl, .inl hw⟩
    · simp only [Bool.and_eq_true, decide_eq_true_eq] at h
      obtain ⟨h1, h2⟩ := h
      cases x <;> simp [within] at h2
      exact ⟨w, _, rfl, .inr h1⟩
  · cases h
theorem place_dat {w : PySem.Str} {i : Int} (h : w = "switch" ∨ w = "cup") : SeqAt.shaped (.tuple [.str w, .int i]) = true := by
  have := strOk_w h
  simp [SeqAt.shaped, PyData.canLay0, PyData.canLayAll0, PyData.depth, PyData.depthAll, this]
theorem eqV_places {c1 s1 c2 s2 : Int} {v u : Val} (h1 : isPlace c1 s1 v = true) (h2 : isPlace c2 s2 u = true) : ∃ b, eqV v u = some b := by
  obtain ⟨w, i, rfl, hw⟩ := place_inv h1
  obtain ⟨x, j, rfl, hx⟩ := place_inv h2
  refine ⟨PyData.eqv (.tuple [.str w, .int i]) (.tuple [.str x, .int j]), ?_⟩
  simp only [eqV, eqD, dataOf, dataOfs, Option.map_some, Option.bind_some]
  rw [if_pos ⟨place_dat hw, place_dat hx⟩]
theorem place_plain {cups sw : Int} {v : Val} (h : isPlace cups sw v = true) : plain2 v = true := by
  obtain ⟨w, i, rfl, _⟩ := place_inv h
  rfl
structure GB (cups : Int) (sw : List Val) : Prop where
  pl : plain3 (bd cups sw) = true
  ib : isBoard (bd cups sw) = true
theorem GB.parts {cups : Int} {sw : List Val} (g : GB cups sw) : within (.int cups) 1 4 = true ∧ lenIn sw.length 1 24 = true ∧ sw.all (isExits cups sw.length) = true := by
  have h := g.ib
  simp only [isBoard, Bool.and_eq_true] at h
  exact ⟨h.1, h.2.1, h.2.2⟩
theorem GB.len {cups : Int} {sw : List Val} (g : GB cups sw) : 1 ≤ sw.length ∧ sw.length ≤ 24 := by
  have h := g.parts.2.1
  unfold lenIn at h; simpa using h
theorem exits_inv {cups : Int} {m : Nat} {x : Val} (h : isExits cups m x = true) : ∃ xs, x = .tup xs ∧ 1 ≤ xs.length ∧ xs.length ≤ 4 ∧ xs.all (isPlace cups m) = true := by
  cases x <;> simp [isExits] at h
  rename_i xs
  have h1 : lenIn xs.length 1 4 = true := h.1
  unfold lenIn at h1
  simp at h1
  exact ⟨xs, rfl, h1.1, h1.2, by simpa using h.2⟩
theorem GB.at_ {cups : Int} {sw : List Val} (g : GB cups sw) {s : Nat} {x : Val} (h : sw[s]? = some x) : ∃ xs, x = .tup xs ∧ 1 ≤ xs.length ∧ xs.length ≤ 4 ∧ xs.all (isPlace cups sw.length) = true :=
  exits_inv (List.all_eq_true.mp g.parts.2.2 x (List.mem_of_getElem? h))
end MP.Pk31
set_option maxHeartbeats 4000000
/-! law k31: draws -/
namespace MP.Pk31
open PySem L2 MP
abbrev hcell (cs : List Int) (i : Nat) (b s c : Int) : Cell := .lst [.lst (cs.map .int), .int i, .int b, .int s, .int c]
structure HOk (cs : List Int) (i : Nat) (b s c : Int) (n : Nat) : Prop where
  cp : ∀ z ∈ cs, 0 ≤ z
  b0 : 0 ≤ b
  s0 : 0 ≤ s
  s1 : s < 2147483629
  c0 : 0 ≤ c
  c1 : c ≤ n
/-- the hand, n draws at most behind it -/
def IsH (n : Nat) (hc : Cell) : Prop := ∃ cs i b s c, hc = hcell cs i b s c ∧ HOk cs i b s c n
theorem IsH.mono {n m : Nat} {hc : Cell} (h : IsH n hc) (l : n ≤ m) : IsH m hc := by
  obtain ⟨cs, i, b, s, c, e, q⟩ := h
  exact ⟨cs, i, b, s, c, e, q.cp, q.b0, q.s0, q.s1, q.c0, by have := q.c1; omega⟩
def drawTail : Ss := match b_law_draw with
  | .cons _ ss => ss
  | _ => .nil
def drawHead : S := match b_law_draw with
  | .cons s _ => s
  | _ => .pass
theorem draw_eq : b_law_draw = .cons drawHead drawTail := rfl
theorem h_get {v0 v1 v2 v3 v4 : Val} {st : Store} {k : Int} : idxV (.ref 0) (.int k) (.lst [v0, v1, v2, v3, v4] :: st) = atI [v0, v1, v2, v3, v4] k := by
  simp only [idxV, seqOf, List.getElem?_cons_zero]
theorem a0 {v0 v1 v2 v3 v4 : Val} : atI [v0, v1, v2, v3, v4] 0 = some v0 := rfl
theorem a1 {v0 v1 v2 v3 v4 : Val} : atI [v0, v1, v2, v3, v4] 1 = some v1 := rfl
theorem a2 {v0 v1 v2 v3 v4 : Val} : atI [v0, v1, v2, v3, v4] 2 = some v2 := rfl
theorem a3 {v0 v1 v2 v3 v4 : Val} : atI [v0, v1, v2, v3, v4] 3 = some v3 := rfl
theorem a4 {v0 v1 v2 v3 v4 : Val} : atI [v0, v1, v2, v3, v4] 4 = some v4 := rfl
theorem w1 {v0 v1 v2 v3 v4 w : Val} {st : Store} : setIx (.ref 0) (.int 1) w (.lst [v0, v1, v2, v3, v4] :: st) = some (.lst [v0, w, v2, v3, v4] :: st) := rfl
theorem w2 {v0 v1 v2 v3 v4 w : Val} {st : Store} : setIx (.ref 0) (.int 2) w (.lst [v0, v1, v2, v3, v4] :: st) = some (.lst [v0, v1, w, v3, v4] :: st) := rfl
theorem w3 {v0 v1 v2 v3 v4 w : Val} {st : Store} : setIx (.ref 0) (.int 3) w (.lst [v0, v1, v2, v3, v4] :: st) = some (.lst [v0, v1, v2, w, v4] :: st) := rfl
theorem w4 {v0 v1 v2 v3 v4 w : Val} {st : Store} : setIx (.ref 0) (.int 4) w (.lst [v0, v1, v2, v3, v4] :: st) = some (.lst [v0, v1, v2, v3, w] :: st) := rfl
theorem blt_int {i : Int} {st : Store} : blt .int [.int i] st = some (.int i) := rfl
theorem mM {x j : Int} : bop .mul (.int (x % 2147483647)) (.int j) = some (.int (x % 2147483647 * j)) := bop_mulL (by omega) (by omega)
theorem tail_s {cs : List Int} {i : Nat} {b s c : Int} {n : Nat} (h : HOk cs i b s c n) (hn : n < 1000000000000) (many : Int) (h1 : 0 < many) (h2 : many < 1000000000) (o2 o3 o4 : Option Val) (st : Store) :
    ∃ (d : Int) (b' c' : Int), execs drawTail [some (.ref 0), some (.int many), o2, o3, o4] (hcell cs i b s c :: st) = .rt (.int d) (hcell cs i b' s c' :: st) ∧ 0 ≤ d ∧ d < many ∧ HOk cs i b' s c' (n + 1) := by
  have q0 := h.b0; have q1 := h.s0; have q2 := h.s1; have q3 := h.c0; have q4 := h.c1
  have fm := @bop_fdiv
  by_cases hb : 0 < b
  · refine ⟨b % many, b / many, c, ?_, Int.emod_nonneg _ (by omega), Int.emod_lt_of_pos _ h1, ⟨h.cp, Int.ediv_nonneg q0 (by omega), q1, q2, q3, by omega⟩⟩
    simp [drawTail, b_law_draw, runFn, execs, exec, evalEs, evalEo, evalN_lst, evalN_dct, evalIt, popTo_self, e_var, e_lit, e_gcon, e_gfn, e_bin, e_neg, e_cmp, e_isn, e_isb, e_and, e_or, e_not, e_ite, e_tup, e_val, e_cell, e_idx, e_slc, e_blt, e_isi, e_call, e_word, e_mth, e_rev, e_lenset, e_callv, h_get, a0, a1, a2, a3, a4, w1, w2, w3, w4, blt_int, bop_mod h1, bop_fdiv h1 (by omega), cop, hb, truth]
  · have hb0 : b = 0 := by omega
    subst hb0
    have key : ∃ e : Int, execs drawTail [some (.ref 0), some (.int many), o2, o3, o4] (hcell cs i 0 s c :: st) = .rt (.int (e % many)) (hcell cs i 0 s (c + 1) :: st) := by
      refine ⟨(((s + 7919 * (c + 1)) * 40692 % 2147483647 * ((s + 7919 * (c + 1)) * 40692 % 2147483647 / 1009 + 69621) % 2147483647) * (((s + 7919 * (c + 1)) * 40692 % 2147483647 * ((s + 7919 * (c + 1)) * 40692 % 2147483647 / 1009 + 69621) % 2147483647) / 2003 + 40014) % 2147483563) / 16, ?_⟩
      simp [drawTail, b_law_draw, runFn, execs, exec, evalEs, evalEo, evalN_lst, evalN_dct, evalIt, popTo_self, e_var, e_lit, e_gcon, e_gfn, e_bin, e_neg, e_cmp, e_isn, e_isb, e_and, e_or, e_not, e_ite, e_tup, e_val, e_cell, e_idx, e_slc, e_blt, e_isi, e_call, e_word, e_mth, e_rev, e_lenset, e_callv, h_get, a0, a1, a2, a3, a4, w1, w2, w3, w4, blt_int, bop_add, bop_sub, bop_mod h1, bop_mod (j := 2147483647) (by decide), bop_mod (j := 2147483563) (by decide), bop_fdiv (j := 1009) (by decide) (by decide), bop_fdiv (j := 2003) (by decide) (by decide), bop_fdiv (j := 16) (by decide) (by decide), bop_mulL (i := 7919) (by decide) (by decide), bop_mulR (j := 40692) (by decide) (by decide), mM, cop, truth]
    obtain ⟨e, he⟩ := key
    exact ⟨e % many, 0, c + 1, he, Int.emod_nonneg _ (Int.ne_of_gt h1), Int.emod_lt_of_pos _ h1, ⟨h.cp, by omega, q1, q2, by omega, by omega⟩⟩
theorem len_cells {cs : List Int} {st : Store} : lenOf (.lst (cs.map .int)) st = some (cs.length : Int) := by simp [lenOf]
theorem idx_cells {cs : List Int} {i : Nat} {z : Int} {st : Store} (h : cs[i]? = some z) : idxV (.lst (cs.map .int)) (.int i) st = some (.int z) := idx_lst (by rw [List.getElem?_map, h]; rfl)
theorem head_s {cs : List Int} {i : Nat} {b s c : Int} {n : Nat} (h : HOk cs i b s c n) (many : Int) (st : Store) :
    ∃ (o3 : Option Val) (i' : Nat) (b' s' : Int), exec drawHead [some (.ref 0), some (.int many), none, none, none] (hcell cs i b s c :: st) = .nx [some (.ref 0), some (.int many), none, o3, none] (hcell cs i' b' s' c :: st) ∧ HOk cs i' b' s' c n := by
  have q0 := h.b0; have q1 := h.s0; have q2 := h.s1; have q3 := h.c0; have q4 := h.c1
  by_cases hb : b = 0
  · by_cases hi : i < cs.length
    · subst hb
      have hz : cs[i]? = some cs[i] := List.getElem?_eq_getElem hi
      have hz0 : 0 ≤ cs[i] := h.cp _ (List.getElem_mem hi)
      have hc := @idx_cells cs i cs[i]
      generalize cs[i] = z at hz hz0 hc
      have hc2 := fun st => hc (st := st) hz
      have p18 : bop .pow (.int 10) (.int 18) = some (.int 1000000000000000000) := by rw [bop_pow (by decide) (by decide) (by decide)]; rfl
      have sb : 0 ≤ (s * 69621 + z * 48271 + 17) % 2147483629 ∧ (s * 69621 + z * 48271 + 17) % 2147483629 < 2147483629 := ⟨by omega, by omega⟩
      by_cases hg : 1000000000000000000 ≤ z
      · refine ⟨some (.int z), i + 1, z, (s * 69621 + z * 48271 + 17) % 2147483629, ?_, ⟨h.cp, hz0, sb.1, sb.2, q3, q4⟩⟩
        simp [drawHead, b_law_draw, runFn, execs, exec, evalEs, evalEo, evalN_lst, evalN_dct, evalIt, popTo_self, e_var, e_lit, e_gcon, e_gfn, e_bin, e_neg, e_cmp, e_isn, e_isb, e_and, e_or, e_not, e_ite, e_tup, e_val, e_cell, e_idx, e_slc, e_blt, e_isi, e_call, e_word, e_mth, e_rev, e_lenset, e_callv, h_get, a0, a1, a2, a3, a4, w1, w2, w3, w4, blt_int, blt, len_cells, eqV, bop_add, bop_mod (j := 2147483629) (by decide), bop_mulR (j := 69621) (by decide) (by decide), bop_mulR (j := 48271) (by decide) (by decide), cop, truth, hi, hc2, p18, hg]
      · refine ⟨some (.int z), i + 1, 0, (s * 69621 + z * 48271 + 17) % 2147483629, ?_, ⟨h.cp, by omega, sb.1, sb.2, q3, q4⟩⟩
        simp [drawHead, b_law_draw, runFn, execs, exec, evalEs, evalEo, evalN_lst, evalN_dct, evalIt, popTo_self, e_var, e_lit, e_gcon, e_gfn, e_bin, e_neg, e_cmp, e_isn, e_isb, e_and, e_or, e_not, e_ite, e_tup, e_val, e_cell, e_idx, e_slc, e_blt, e_isi, e_call, e_word, e_mth, e_rev, e_lenset, e_callv, h_get, a0, a1, a2, a3, a4, w1, w2, w3, w4, blt_int, blt, len_cells, eqV, bop_add, bop_mod (j := 2147483629) (by decide), bop_mulR (j := 69621) (by decide) (by decide), bop_mulR (j := 48271) (by decide) (by decide), cop, truth, hi, hc2, p18, hg]
    · refine ⟨none, i, b, s, ?_, h⟩
      subst hb
      simp [drawHead, b_law_draw, runFn, execs, exec, evalEs, evalEo, evalN_lst, evalN_dct, evalIt, popTo_self, e_var, e_lit, e_gcon, e_gfn, e_bin, e_neg, e_cmp, e_isn, e_isb, e_and, e_or, e_not, e_ite, e_tup, e_val, e_cell, e_idx, e_slc, e_blt, e_isi, e_call, e_word, e_mth, e_rev, e_lenset, e_callv, h_get, a0, a1, a2, a3, a4, blt, len_cells, eqV, cop, truth, hi]
  · refine ⟨none, i, b, s, ?_, h⟩
    simp [drawHead, b_law_draw, runFn, execs, exec, evalEs, evalEo, evalN_lst, evalN_dct, evalIt, popTo_self, e_var, e_lit, e_gcon, e_gfn, e_bin, e_neg, e_cmp, e_isn, e_isb, e_and, e_or, e_not, e_ite, e_tup, e_val, e_cell, e_idx, e_slc, e_blt, e_isi, e_call, e_word, e_mth, e_rev, e_lenset, e_callv, h_get, a0, a1, a2, a3, a4, blt, len_cells, eqV, cop, truth, hb]
theorem noRefs_ints : ∀ cs : List Int, noRefs (cs.map Val.int) = true
  | [] => rfl
  | _ :: cs => by simp only [List.map_cons, noRefs, noRef, noRefs_ints cs]; rfl
theorem hcell_noRef {cs : List Int} {i : Nat} {b s c : Int} : cellNoRef (hcell cs i b s c) = true := by simp [cellNoRef, noRefs, noRef, noRefs_ints]
theorem IsH.noRef {n : Nat} {hc : Cell} (h : IsH n hc) : cellNoRef hc = true := by
  obtain ⟨cs, i, b, s, c, rfl, _⟩ := h
  exact hcell_noRef
/-- only the hand changes: nothing is dropped -/
theorem pop_hand {n : Nat} {hc hc' : Cell} {st : Store} {v : Val} (h : IsH n hc') (hv : MP.noRef v = true) : popTo (hc :: st) (hc' :: st) (some v) = hc' :: st := by
  rw [popTo_pre (fun x hx => by cases hx; exact hv) (fun k c hk hc2 => ?_)]
  · simp
  · cases k with
    | zero => simp at hc2; subst hc2; exact .inr h.noRef
    | succ k => exact .inl (by simpa using hc2)
theorem draw_s {n : Nat} {hc : Cell} (h : IsH n hc) (hn : n < 1000000000000) (many : Int) (h1 : 0 < many) (h2 : many < 1000000000) (st : Store) :
    ∃ (d : Int) (hc' : Cell), D_law_draw [.ref 0, .int many] (hc :: st) = .ok (.int d) (hc' :: st) ∧ 0 ≤ d ∧ d < many ∧ IsH (n + 1) hc' := by
  obtain ⟨cs, i, b, s, c, rfl, q⟩ := h
  obtain ⟨o3, i', b', s', e1, q1⟩ := head_s q many st
  obtain ⟨d, b2, c2, e2, p1, p2, q2⟩ := tail_s q1 hn many h1 h2 none o3 none st
  have ih : IsH (n + 1) (hcell cs i' b2 s' c2) := ⟨cs, i', b2, s', c2, rfl, q2⟩
  refine ⟨d, _, ?_, p1, p2, ih⟩
  simp only [D_law_draw, runFn, draw_eq, List.length_cons, List.length_nil, if_true, execs, List.map_cons, List.map_nil, List.replicate, Nat.reduceSub, Nat.reduceAdd, List.cons_append, List.nil_append, e1, Res.seq_nx, e2, pop_hand ih (show MP.noRef (.int d) = true from rfl)]
end MP.Pk31
set_option maxHeartbeats 4000000
/-! law k31: boards drawn -/
namespace MP.Pk31
open PySem L2 MP
theorem law_some_s {n : Nat} {hc : Cell} (h : IsH n hc) (hn : n < 1000000000000) (things : List Val) (h1 : things ≠ []) (h2 : things.length < 1000) (h3 : noRefs things = true) (st : Store) :
    ∃ (v : Val) (hc' : Cell), D_law_some [.ref 0, .lst things] (hc :: st) = .ok v (hc' :: st) ∧ v ∈ things ∧ IsH (n + 1) hc' := by
  have hl : 0 < things.length := List.length_pos_iff.mpr h1
  obtain ⟨d, hc', e, p1, p2, ih⟩ := draw_s h hn things.length (by omega) (by omega) st
  obtain ⟨k, rfl⟩ := Int.eq_ofNat_of_zero_le p1
  have hk : k < things.length := by omega
  have hv : things[k]? = some things[k] := List.getElem?_eq_getElem hk
  have hm : things[k] ∈ things := List.getElem_mem hk
  have nr : ∀ (xs : List Val) (v : Val), noRefs xs = true → v ∈ xs → noRef v = true := by
    intro xs
    induction xs with
    | nil => intro v _ hv; cases hv
    | cons x xs ih =>
      intro v hx hv
      simp only [noRefs, Bool.and_eq_true] at hx
      rcases List.mem_cons.mp hv with e | e
      · rw [e]; exact hx.1
      · exact ih v hx.2 e
  refine ⟨things[k], hc', ?_, hm, ih⟩
  have pp := pop_hand (hc := hc) (st := st) ih (nr _ _ h3 hm)
  generalize things[k] = v at hv pp
  simp [D_law_some, b_law_some, runFn, execs, exec, evalEs, evalEo, evalN_lst, evalN_dct, evalIt, popTo_self, e_var, e_lit, e_gcon, e_gfn, e_bin, e_neg, e_cmp, e_isn, e_isb, e_and, e_or, e_not, e_ite, e_tup, e_val, e_cell, e_idx, e_slc, e_blt, e_isi, e_call, e_word, e_mth, e_rev, e_lenset, e_callv, blt, lenOf, e, idx_lst hv, pp]
theorem law_place_s {n : Nat} {hc : Cell} (h : IsH n hc) (hn : n < 1000000000000) (cups many : Nat) (c0 : 0 < cups) (c1 : cups < 1000) (m0 : 0 < many) (m1 : many < 1000) (st : Store) :
    ∃ (v : Val) (hc' : Cell), D_law_place [.ref 0, .int cups, .int many] (hc :: st) = .ok v (hc' :: st) ∧ isPlace cups many v = true ∧ IsH (n + 1) hc' := by
  obtain ⟨d, hc', e, p1, p2, ih⟩ := draw_s h hn (cups + 2 * many) (by omega) (by omega) st
  by_cases hd : d < cups
  · refine ⟨.tup [.str "cup", .int d], hc', ?_, ?_, ih⟩
    · have pp := pop_hand (hc := hc) (st := st) ih (v := .tup [.str "cup", .int d]) rfl
      simp [D_law_place, b_law_place, runFn, execs, exec, evalEs, evalEo, evalN_lst, evalN_dct, evalIt, popTo_self, e_var, e_lit, e_gcon, e_gfn, e_bin, e_neg, e_cmp, e_isn, e_isb, e_and, e_or, e_not, e_ite, e_tup, e_val, e_cell, e_idx, e_slc, e_blt, e_isi, e_call, e_word, e_mth, e_rev, e_lenset, e_callv, bop_add, bop_mulL (i := 2) (by decide) (by decide), e, cop, truth, hd, sizeLine, pp]
    · simp [isPlace, cup_ne, within, p1]; omega
  · refine ⟨.tup [.str "switch", .int ((d - cups) / 2)], hc', ?_, ?_, ih⟩
    · have pp := pop_hand (hc := hc) (st := st) ih (v := .tup [.str "switch", .int ((d - cups) / 2)]) rfl
      simp [D_law_place, b_law_place, runFn, execs, exec, evalEs, evalEo, evalN_lst, evalN_dct, evalIt, popTo_self, e_var, e_lit, e_gcon, e_gfn, e_bin, e_neg, e_cmp, e_isn, e_isb, e_and, e_or, e_not, e_ite, e_tup, e_val, e_cell, e_idx, e_slc, e_blt, e_isi, e_call, e_word, e_mth, e_rev, e_lenset, e_callv, bop_add, bop_sub, bop_fdiv (j := 2) (by decide) (by decide), bop_mulL (i := 2) (by decide) (by decide), e, cop, truth, hd, sizeLine, pp]
    · simp only [isPlace, if_true, within, Bool.and_eq_true, decide_eq_true_eq]; omega
theorem noRefs_all : ∀ {xs : List Val}, (∀ x ∈ xs, noRef x = true) → noRefs xs = true
  | [], _ => rfl
  | x :: xs, h => by
    simp only [noRefs, h x List.mem_cons_self, noRefs_all (fun y hy => h y (List.mem_cons_of_mem _ hy)), Bool.and_self]
theorem place_noRef {c s : Int} {v : Val} (h : isPlace c s v = true) : noRef v = true := by
  obtain ⟨w, i, rfl, _⟩ := place_inv h
  rfl
theorem exits_noRef {c : Int} {m : Nat} {v : Val} (h : isExits c m v = true) : noRef v = true := by
  obtain ⟨xs, rfl, _, _, hx⟩ := exits_inv h
  simp only [noRef]
  exact noRefs_all fun x hx2 => place_noRef (List.all_eq_true.mp hx x hx2)
theorem comp_row {n : Nat} {hc : Cell} (h : IsH n hc) (hn : n < 100000000000) (cups many : Nat) (c0 : 0 < cups) (c1 : cups < 1000) (m0 : 0 < many) (m1 : many < 1000) (o1 o4 o5 : Option Val) (st : Store) :
    ∃ (ys : List Val) (hc' : Cell), evalN c_law_board_0 [some (.ref 0), o1, some (.int cups), some (.int many), o4, o5] (hc :: st) = .ok (.lst ys) (hc' :: st) ∧ IsH (n + 5) hc' ∧ isExits cups many (.tup ys) = true := by
  obtain ⟨d, hc1, e, p1, p2, ih⟩ := draw_s h (by omega) 4 (by decide) (by decide) st
  obtain ⟨k, rfl⟩ := Int.eq_ofNat_of_zero_le p1
  have hi : evalIt (.range1 (.bin .add (.lit (.int 1)) (.call "_law_draw" D_law_draw (.cons (.var 0) (.cons (.lit (.int 4)) .nil))))) [some (.ref 0), o1, some (.int cups), some (.int many), o4, o5] (hc :: st) = .ok (rangeVs 0 (1 + (k : Int)).toNat) (hc1 :: st) := by
    have sm : smallI (1 + (k : Int)) := by unfold smallI; omega
    simp [runFn, execs, exec, evalEs, evalEo, evalN_lst, evalN_dct, evalIt, popTo_self, e_var, e_lit, e_gcon, e_gfn, e_bin, e_neg, e_cmp, e_isn, e_isb, e_and, e_or, e_not, e_ite, e_tup, e_val, e_cell, e_idx, e_slc, e_blt, e_isi, e_call, e_word, e_mth, e_rev, e_lenset, e_callv, e, bop_add, sm]
  have lr : (rangeVs 0 (1 + (k : Int)).toNat).length = 1 + k := by simp [rangeVs]; omega
  obtain ⟨ys, st', e1, ⟨hc2, rfl, ih2⟩, l2, q2⟩ := comp_st (e := .call "_law_place" D_law_place (.cons (.var 0) (.cons (.var 2) (.cons (.var 3) .nil)))) (t := .name 5) (own := [("e", 5)]) (I := fun j s => ∃ c, s = c :: st ∧ IsH (n + 1 + j) c) (Q := fun v => isPlace cups many v = true) (n := 0) hi (fun x hx j s hj ⟨c, ec, hcj⟩ => by
    subst ec
    rw [lr] at hj
    obtain ⟨v, c2, a1, a2, a3⟩ := law_place_s hcj (by omega) cups many c0 c1 m0 m1 st
    exact ⟨_, v, c2 :: st, rfl, by simp [runFn, execs, exec, evalEs, evalEo, evalN_lst, evalN_dct, evalIt, popTo_self, e_var, e_lit, e_gcon, e_gfn, e_bin, e_neg, e_cmp, e_isn, e_isb, e_and, e_or, e_not, e_ite, e_tup, e_val, e_cell, e_idx, e_slc, e_blt, e_isi, e_call, e_word, e_mth, e_rev, e_lenset, e_callv, wipeE, a1], ⟨c2, rfl, a3⟩, a2⟩) (by rw [lr]; unfold sizeLine; omega) ⟨hc1, rfl, ih⟩
  refine ⟨ys, hc2, e1, ih2.mono (by rw [lr]; omega), ?_⟩
  simp only [isExits, lenIn, Bool.and_eq_true, decide_eq_true_eq, List.all_eq_true]
  rw [l2, lr]
  exact ⟨⟨by omega, by omega⟩, q2⟩
end MP.Pk31
set_option maxHeartbeats 4000000
/-! law k31: boards drawn, places told -/
namespace MP.Pk31
open PySem L2 MP
theorem gb_of {cups : Int} {sw : List Val} (h1 : within (.int cups) 1 4 = true) (h2 : lenIn sw.length 1 24 = true) (h3 : sw.all (isExits cups sw.length) = true) : GB cups sw := by
  refine ⟨?_, by simp only [isBoard, h1, h2, h3, Bool.and_self]⟩
  have px : sw.all plainX = true := List.all_eq_true.mpr fun x hx => by
    obtain ⟨xs, rfl, _, _, h⟩ := exits_inv (List.all_eq_true.mp h3 x hx)
    simp only [plainX, plainV, Bool.true_and]
    exact List.all_eq_true.mpr fun p hp => place_plain (List.all_eq_true.mp h p hp)
  simp only [plain3, plainV, List.all_cons, List.all_nil, px, Bool.and_self]
theorem gb_noRef {cups : Int} {sw : List Val} (g : GB cups sw) : noRef (bd cups sw) = true := by
  simp only [noRef, noRefs, Bool.true_and, Bool.and_true]
  exact noRefs_all fun x hx => exits_noRef (List.all_eq_true.mp g.parts.2.2 x hx)
theorem law_board_s {n : Nat} {hc : Cell} (h : IsH n hc) (hn : n < 1000000000) (st : Store) :
    ∃ (cups : Nat) (sw : List Val) (hc' : Cell), D_law_board [.ref 0] (hc :: st) = .ok (bd cups sw) (hc' :: st) ∧ GB cups sw ∧ cups ≤ 3 ∧ sw.length ≤ 5 ∧ IsH (n + 30) hc' := by
  obtain ⟨d1, hc1, e1, p1, p2, ih1⟩ := draw_s h (by omega) 3 (by decide) (by decide) st
  obtain ⟨d2, hc2, e2, p3, p4, ih2⟩ := draw_s ih1 (by omega) 5 (by decide) (by decide) st
  obtain ⟨c, rfl⟩ := Int.eq_ofNat_of_zero_le p1
  obtain ⟨m, rfl⟩ := Int.eq_ofNat_of_zero_le p3
  obtain ⟨C, hC⟩ : ∃ C : Nat, C = c + 1 := ⟨_, rfl⟩
  obtain ⟨M, hM⟩ : ∃ M : Nat, M = m + 1 := ⟨_, rfl⟩
  have key := forL_pre (f := turnL (.name 1) lb_law_board_0) (all := rangeVs 0 M) (env := [some (.ref 0), none, some (.int C), some (.int M), some (.ref (st.length + 1)), none]) (st := hc2 :: (st ++ [.lst []]))
    (P := fun ys env st' => ∃ hc acc, st' = hc :: (st ++ [.lst acc]) ∧ IsH (n + 2 + 5 * ys.length) hc ∧ acc.length = ys.length ∧ (∀ x ∈ acc, isExits C M x = true) ∧ ∃ a b, env = [some (.ref 0), a, some (.int C), some (.int M), some (.ref (st.length + 1)), b])
    ⟨hc2, [], rfl, ih2, rfl, (fun x hx => by cases hx), none, none, rfl⟩ (fun ys x zs env st' e hp => ?_)
  · obtain ⟨env', st', f1, hc3, acc, rfl, ih3, l3, q3, a, b, rfl⟩ := key
    have lr : (rangeVs 0 M).length = M := by simp [rangeVs]
    rw [lr] at ih3 l3
    have sm : smallI (M : Int) := by unfold smallI; omega
    have el : exec l_law_board_0 [some (.ref 0), none, some (.int C), some (.int M), some (.ref (st.length + 1)), none] (hc2 :: (st ++ [.lst []])) = .nx [some (.ref 0), a, some (.int C), some (.int M), some (.ref (st.length + 1)), b] (hc3 :: (st ++ [.lst acc])) := by
      unfold l_law_board_0
      rw [exec_loop]
      have ei : evalIt (.range1 (.var 3)) [some (.ref 0), none, some (.int C), some (.int M), some (.ref (st.length + 1)), none] (hc2 :: (st ++ [.lst []])) = .ok (rangeVs 0 M) (hc2 :: (st ++ [.lst []])) := by
        simp only [evalIt, e_var, List.getD_cons_succ, List.getD_cons_zero, Out.of_some, Out.bind_ok, if_pos sm, Int.toNat_natCast]
      rw [ei, Out.res_ok]
      exact f1
    have g : GB C acc := gb_of (by simp [within]; omega) (by rw [l3]; simp [lenIn]; omega) (List.all_eq_true.mpr fun x hx => by rw [l3]; exact q3 x hx)
    have fz : frzE 4 [some (.ref 0), a, some (.int C), some (.int M), some (.ref (st.length + 1)), b] (hc3 :: (st ++ [.lst acc])) = .nx [some (.ref 0), a, some (.int C), some (.int M), some (.lst acc), b] (hc3 :: (st ++ [.dead])) := by
      simp [frzE]
    have pp : popTo (hc :: st) (hc3 :: (st ++ [Cell.dead])) (some (bd C acc)) = hc3 :: st := by
      rw [popTo_pre (fun x hx => by cases hx; exact gb_noRef g) (fun k cc hk hc4 => ?_)]
      · simp
      · cases k with
        | zero => simp at hc4; subst hc4; exact .inr ih3.noRef
        | succ k =>
          simp at hk
          rw [List.getElem?_cons_succ, List.getElem?_append_left hk] at hc4
          exact .inl (by rw [List.getElem?_cons_succ]; exact hc4)
    refine ⟨C, acc, hc3, ?_, g, by omega, by omega, ih3.mono (by omega)⟩
    have t1 : (1 : Int) + (c : Int) = (C : Int) := by omega
    have t2 : (1 : Int) + (m : Int) = (M : Int) := by omega
    simp only [D_law_board, b_law_board, runFn, List.length_cons, List.length_nil, if_true, execs, List.map_cons, List.map_nil, List.replicate, Nat.reduceSub, Nat.reduceAdd, List.cons_append, List.nil_append]
    simp only [exec, e_tup, evalEs, e_bin, e_lit, e_call, e_var, List.getD_cons_zero, Out.of_some, Out.bind_ok, e1, e2, bop_add, t1, t2, e_cell, evalN_lst, List.length_nil, Nat.zero_le, if_true, List.cons_append, List.length_cons, sizeLine]
    simp [bindTs, bindT, el, fz, exec, e_tup, evalEs, e_var, e_blt, blt, seqOf, pp, sizeLine]
  · obtain ⟨hc3, acc, rfl, ih3, l3, q3, a, b, rfl⟩ := hp
    have lr : (rangeVs 0 M).length = M := by simp [rangeVs]
    have ly : ys.length < M := by
      have := congrArg List.length e
      rw [lr] at this; simp at this; omega
    obtain ⟨row, hc4, r1, r2, r3⟩ := comp_row ih3 (by omega) C M (by omega) (by omega) (by omega) (by omega) (some x) (some (.ref (st.length + 1))) b (st ++ [.lst acc])
    have e2 : bindT (.name 1) x [some (.ref 0), a, some (.int C), some (.int M), some (.ref (st.length + 1)), b] = some [some (.ref 0), some x, some (.int C), some (.int M), some (.ref (st.length + 1)), b] := rfl
    have hz : acc.length < sizeLine := by unfold sizeLine; omega
    refine ⟨_, _, (turnL_eq e2).trans ?_, hc4, acc ++ [.tup row], rfl, r2.mono (by simp; omega), by simp [l3], fun y hy => ?_, some x, b, rfl⟩
    · unfold lb_law_board_0
      simp [runFn, execs, exec, evalEs, evalEo, evalN_lst, evalN_dct, evalIt, popTo_self, e_var, e_lit, e_gcon, e_gfn, e_bin, e_neg, e_cmp, e_isn, e_isb, e_and, e_or, e_not, e_ite, e_tup, e_val, e_cell, e_idx, e_slc, e_blt, e_isi, e_call, e_word, e_mth, e_rev, e_lenset, e_callv, mthPre, r1, mth, hz, setCell, blt, seqOf]
    · rcases List.mem_append.mp hy with z | z
      · exact q3 y z
      · simp at z; subst z; exact r3
def cupsV (n : Nat) : List Val := (rangeVs 0 n).map fun c => .tup [.str "cup", c]
def swsV (n : Nat) : List Val := (rangeVs 0 n).map fun c => .tup [.str "switch", c]
end MP.Pk31
set_option maxHeartbeats 400000
/-! MPGraph: whiles by a measure; places that are reached, lost switches. -/
namespace MP
open PySem L2
open Classical
theorem whlN_mono {c : Env → Store → Out Bool} {b : Env → Store → Res} : ∀ (n : Nat) (env : Env) (st : Store), whlN c b n env st ≠ .bad → whlN c b (n + 1) env st = whlN c b n env st
  | 0, _, _, h => absurd rfl h
  | n + 1, env, st, h => by
    rw [whlN]
    conv => rhs; rw [whlN]
    rw [whlN] at h
    cases hc : c env st with
    | bad => rfl
    | exc _ _ _ => rfl
    | ok t st1 =>
      rw [hc] at h
      simp only [Out.res_ok] at h ⊢
      cases t with
      | false => rfl
      | true =>
        simp only [if_true] at h ⊢
        cases hb : b env st1 with
        | nx env' st' => rw [hb] at h; exact whlN_mono n env' st' h
        | ct env' st' => rw [hb] at h; exact whlN_mono n env' st' h
        | bk _ _ => rfl
        | rt _ _ => rfl
        | ex _ _ _ _ => rfl
        | bad => rfl
theorem whlN_le {c : Env → Store → Out Bool} {b : Env → Store → Res} {n : Nat} {env : Env} {st : Store} (h : whlN c b n env st ≠ .bad) : ∀ k, whlN c b (n + k) env st = whlN c b n env st
  | 0 => rfl
  | k + 1 => by
    have ih := whlN_le h k
    rw [← Nat.add_assoc, whlN_mono _ _ _ (by rw [ih]; exact h), ih]
theorem whl_of {c : Env → Store → Out Bool} {b : Env → Store → Res} {n : Nat} {env : Env} {st : Store} {r : Res} (h : whlN c b n env st = r) (hr : r ≠ .bad) : whl c b env st = r := by
  have ex : ∃ n, whlN c b n env st ≠ .bad := ⟨n, by rw [h]; exact hr⟩
  unfold whl
  rw [dif_pos ex]
  have h1 := Classical.choose_spec ex
  have e1 := whlN_le h1 n
  have e2 := whlN_le (n := n) (by rw [h]; exact hr) (Classical.choose ex)
  rw [Nat.add_comm] at e2
  rw [← e1, e2, h]
/-- a while by a measure -/
theorem whl_rule {c : Env → Store → Out Bool} {b : Env → Store → Res} {I : Nat → Env → Store → Prop} {Q : Env → Store → Prop}
    (h : ∀ n env st, I n env st → (∃ st1, c env st = .ok false st1 ∧ Q env st1) ∨ ∃ st1 env' st' m, c env st = .ok true st1 ∧ b env st1 = .nx env' st' ∧ m < n ∧ I m env' st') {n : Nat} {env : Env} {st : Store} (h0 : I n env st) :
    ∃ env' st', whl c b env st = .nx env' st' ∧ Q env' st' := by
  have key : ∀ n env st, I n env st → ∃ k env' st', whlN c b k env st = .nx env' st' ∧ Q env' st' := by
    intro n
    induction n using Nat.strongRecOn with
    | ind n ih =>
      intro env st hi
      rcases h n env st hi with ⟨st1, e1, q⟩ | ⟨st1, env', st', m, e1, e2, hm, hi'⟩
      · exact ⟨1, env, st1, by rw [whlN, e1]; simp, q⟩
      · obtain ⟨k, env2, st2, e3, q⟩ := ih m hm env' st' hi'
        exact ⟨k + 1, env2, st2, by rw [whlN, e1]; simp [e2, e3], q⟩
  obtain ⟨k, env', st', e, q⟩ := key n env st h0
  exact ⟨env', st', whl_of e (by simp), q⟩
theorem exec_whl (c : E) (body : Ss) (env : Env) (st : Store) : exec (.whl c body) env st = whl (fun env' st' => (evalE c env' st').bind fun x st1 => Out.of (truth x st1) st1) (fun env' st' => execs body env' st') env st := by simp only [exec]
theorem nodup_le {α : Type} : ∀ {A G : List α}, G.Nodup → (∀ x ∈ G, x ∈ A) → G.length ≤ A.length
  | [], [], _, _ => Nat.le_refl _
  | [], g :: _, _, h => absurd (h g (.head _)) (by simp)
  | a :: A, G, hn, h => by
    by_cases ha : a ∈ G
    · obtain ⟨l1, l2, rfl⟩ := List.append_of_mem ha
      have hn2 : (l1 ++ l2).Nodup := hn.sublist (List.Sublist.append (List.Sublist.refl _) (List.sublist_cons_self _ _))
      have := nodup_le (A := A) hn2 fun x hx => by
        have hx2 : x ∈ l1 ++ a :: l2 := by
          rcases List.mem_append.mp hx with z | z
          · exact List.mem_append_left _ z
          · exact List.mem_append_right _ (.tail _ z)
        refine (List.mem_cons.mp (h x hx2)).resolve_left fun e => ?_
        subst e
        have := List.nodup_append.mp hn
        rcases List.mem_append.mp hx with z | z
        · exact this.2.2 x z x (.head _) rfl
        · exact (List.nodup_cons.mp this.2.1).1 z
      simp only [List.length_append, List.length_cons] at this ⊢
      omega
    · have := nodup_le (A := A) hn fun x hx => (List.mem_cons.mp (h x hx)).resolve_left fun e => ha (e ▸ hx)
      simp only [List.length_cons]; omega
/-! ### places -/
abbrev swp (t : Nat) : Val := .tup [.str "switch", .int (t : Int)]
abbrev cpp (c : Nat) : Val := .tup [.str "cup", .int (c : Int)]
theorem sw_ne_cup : (PySem.Str.ofString "switch" = PySem.Str.ofString "cup") = False := by simp only [eq_iff_iff, iff_false]; decide
theorem swp_ne (t c : Nat) : swp t ≠ cpp c := by
  intro h
  simp only [swp, cpp, Val.tup.injEq, List.cons.injEq, Val.str.injEq] at h
  exact (sw_ne_cup ▸ h.1)
theorem swp_inj {t u : Nat} (h : swp t = swp u) : t = u := by
  simp only [swp, Val.tup.injEq, List.cons.injEq, Val.int.injEq] at h
  omega
def succs (sw : List Val) (t : Nat) : List Val := match sw[t]? with
  | some (.tup xs) => xs
  | _ => []
/-- the exits lead to switches there are, to cups -/
structure OkB (sw : List Val) : Prop where
  ex : ∀ (s : Nat) (x : Val), sw[s]? = some x → ∃ xs, x = .tup xs
  pl : ∀ (s : Nat) (v : Val), v ∈ succs sw s → (∃ t, t < sw.length ∧ v = swp t) ∨ ∃ c, v = cpp c
inductive Reach (sw : List Val) (a : Val) : Val → Prop
  | refl : Reach sw a a
  | step {t : Nat} {v : Val} : Reach sw a (swp t) → v ∈ succs sw t → Reach sw a v
theorem reach_lt {sw : List Val} (B : OkB sw) {s : Nat} (hs : s < sw.length) {v : Val} (h : Reach sw (swp s) v) : (∃ t, t < sw.length ∧ v = swp t) ∨ ∃ c, v = cpp c := by
  cases h with
  | refl => exact .inl ⟨s, hs, rfl⟩
  | step _ h => exact B.pl _ _ h
/-- from it no cup is reached -/
def LostN (sw : List Val) (s : Nat) : Prop := ∀ v, Reach sw (swp s) v → ∃ t, v = swp t
noncomputable def lostL (sw : List Val) : List Nat := (List.range sw.length).filter fun s => decide (LostN sw s)
theorem reach_trans {sw : List Val} {a b c : Val} (h1 : Reach sw a b) (h2 : Reach sw b c) : Reach sw a c := by
  induction h2 with
  | refl => exact h1
  | step _ h ih => exact .step ih h
/-- the good ones, closed: just those from which a cup is reached -/
theorem good_iff {sw : List Val} (B : OkB sw) {P : Nat → Prop} (h1 : ∀ s, P s → ¬ LostN sw s) (h2 : ∀ s, s < sw.length → (∃ v ∈ succs sw s, (∃ c, v = cpp c) ∨ ∃ t, v = swp t ∧ P t) → P s) {s : Nat} (hs : s < sw.length) : P s ↔ ¬ LostN sw s := by
  refine ⟨h1 s, fun h => ?_⟩
  have key : ∀ v, Reach sw (swp s) v → ((∃ c, v = cpp c) ∨ ∃ t, v = swp t ∧ P t) → P s := by
    intro v hv
    induction hv with
    | refl =>
      rintro (⟨c, e⟩ | ⟨t, e, p⟩)
      · exact absurd e (swp_ne _ _)
      · rw [swp_inj e]; exact p
    | step hr hm ih =>
      intro g
      rename_i t v
      have ht : t < sw.length := by
        rcases reach_lt B hs hr with ⟨t', l, e⟩ | ⟨c, e⟩
        · rw [swp_inj e]; exact l
        · exact absurd e (swp_ne _ _)
      exact ih (.inr ⟨t, rfl, h2 t ht ⟨v, hm, g⟩⟩)
  unfold LostN at h
  have ⟨v, hv⟩ := Classical.not_forall.mp h
  have ⟨hr, hn⟩ := Classical.not_imp.mp hv
  refine key v hr (.inl ?_)
  rcases reach_lt B hs hr with ⟨t, _, e⟩ | z
  · exact absurd ⟨t, e⟩ hn
  · exact z
theorem not_lost {sw : List Val} {s : Nat} {v : Val} (hv : v ∈ succs sw s) (h : (∃ c, v = cpp c) ∨ ∃ t, v = swp t ∧ ¬ LostN sw t) : ¬ LostN sw s := by
  intro hl
  rcases h with ⟨c, e⟩ | ⟨t, e, h⟩
  · obtain ⟨t, e2⟩ := hl v (.step .refl hv)
    exact swp_ne t c (e2.symm.trans e)
  · exact h fun w hw => hl w (reach_trans (.step .refl (e ▸ hv)) hw)
/-! ### going on -/
/-- a found place more -/
noncomputable def addO (p : List Val × List Val) (o : Val) : List Val × List Val := if o ∈ p.1 then p else (p.1 ++ [o], p.2 ++ [o])
def outs (sw : List Val) (v : Val) : List Val := match v with
  | .tup [.str w, .int t] => if w = "switch" ∧ 0 ≤ t then succs sw t.toNat else []
  | _ => []
theorem outs_swp (sw : List Val) (t : Nat) : outs sw (swp t) = succs sw t := by simp [outs, swp]
theorem outs_cpp (sw : List Val) (c : Nat) : outs sw (cpp c) = [] := by
  have : ¬ (PySem.Str.ofString "cup" = PySem.Str.ofString "switch") := by decide
  simp [outs, cpp, this]
noncomputable def expand (sw : List Val) (p : List Val × List Val) (v : Val) : List Val × List Val := (outs sw v).foldl addO p
noncomputable def roundF (sw : List Val) (F W : List Val) : List Val × List Val := W.foldl (expand sw) (F, [])
structure Rd1 (F0 : List Val) (p : List Val × List Val) (A : Val → Prop) : Prop where
  eq : p.1 = F0 ++ p.2
  nd : p.1.Nodup
  al : ∀ v ∈ p.1, A v
theorem addO_ok {F0 : List Val} {p : List Val × List Val} {A : Val → Prop} (h : Rd1 F0 p A) {o : Val} (ha : A o) : Rd1 F0 (addO p o) A ∧ o ∈ (addO p o).1 ∧ ∀ v ∈ p.1, v ∈ (addO p o).1 := by
  unfold addO
  by_cases ho : o ∈ p.1
  · rw [if_pos ho]; exact ⟨h, ho, fun _ z => z⟩
  · rw [if_neg ho]
    refine ⟨⟨by rw [h.eq, List.append_assoc], ?_, fun v hv => ?_⟩, by simp, fun v hv => by simp [hv]⟩
    · rw [List.nodup_append]
      refine ⟨h.nd, by simp, fun a ha' b hb e => ?_⟩
      simp at hb
      subst hb e
      exact ho ha'
    · rcases List.mem_append.mp hv with z | z
      · exact h.al v z
      · simp at z; rw [z]; exact ha
theorem adds_ok {F0 : List Val} {A : Val → Prop} : ∀ (os : List Val) {p : List Val × List Val}, Rd1 F0 p A → (∀ o ∈ os, A o) → Rd1 F0 (os.foldl addO p) A ∧ (∀ o ∈ os, o ∈ (os.foldl addO p).1) ∧ ∀ v ∈ p.1, v ∈ (os.foldl addO p).1
  | [], p, h, _ => ⟨h, (fun _ z => nomatch z), fun _ z => z⟩
  | o :: os, p, h, ha => by
    obtain ⟨h1, h2, h3⟩ := addO_ok h (ha o (.head _))
    obtain ⟨h4, h5, h6⟩ := adds_ok os h1 fun x hx => ha x (.tail _ hx)
    refine ⟨h4, fun x hx => ?_, fun v hv => h6 v (h3 v hv)⟩
    rcases List.mem_cons.mp hx with e | hx
    · rw [e]; exact h6 o h2
    · exact h5 x hx
theorem expands_ok {sw : List Val} {F0 : List Val} {A : Val → Prop} (hA : ∀ v, A v → ∀ o ∈ outs sw v, A o) : ∀ (W : List Val) {p : List Val × List Val}, Rd1 F0 p A → (∀ v ∈ W, A v) → Rd1 F0 (W.foldl (expand sw) p) A ∧ (∀ v ∈ W, ∀ o ∈ outs sw v, o ∈ (W.foldl (expand sw) p).1) ∧ ∀ v ∈ p.1, v ∈ (W.foldl (expand sw) p).1
  | [], p, h, _ => ⟨h, (fun _ z => nomatch z), fun _ z => z⟩
  | w :: W, p, h, ha => by
    obtain ⟨h1, h2, h3⟩ := adds_ok (outs sw w) h (hA w (ha w (.head _)))
    obtain ⟨h4, h5, h6⟩ := expands_ok hA W h1 fun x hx => ha x (.tail _ hx)
    refine ⟨h4, fun x hx o ho => ?_, fun v hv => h6 v (h3 v hv)⟩
    rcases List.mem_cons.mp hx with e | hx
    · subst e; exact h6 o (h2 o ho)
    · exact h5 x hx o ho
/-- what stands while going on from a place: found F, waiting W -/
structure Far (sw : List Val) (a : Val) (F W : List Val) : Prop where
  st : a ∈ F
  nd : F.Nodup
  rc : ∀ v ∈ F, Reach sw a v
  sub : ∀ v ∈ W, v ∈ F
  cl : ∀ v ∈ F, v ∉ W → ∀ o ∈ outs sw v, o ∈ F
theorem far0 (sw : List Val) (a : Val) : Far sw a [a] [a] :=
  ⟨by simp, by simp, fun v hv => by simp at hv; rw [hv]; exact .refl, fun _ h => h, fun v hv hn => absurd hv hn⟩
theorem outs_reach {sw : List Val} {a v o : Val} (h : Reach sw a v) (ho : o ∈ outs sw v) : Reach sw a o := by
  unfold outs at ho
  split at ho
  · rename_i w t
    split at ho
    · rename_i hw
      obtain ⟨hw, ht⟩ := hw
      subst hw
      obtain ⟨n, rfl⟩ := Int.eq_ofNat_of_zero_le ht
      exact .step h ho
    · cases ho
  · cases ho
theorem far_round {sw : List Val} {a : Val} {F W : List Val} (h : Far sw a F W) : Far sw a (roundF sw F W).1 (roundF sw F W).2 ∧ (roundF sw F W).1 = F ++ (roundF sw F W).2 := by
  obtain ⟨h1, h2, h3⟩ := expands_ok (sw := sw) (F0 := F) (A := Reach sw a) (fun v hv o ho => outs_reach hv ho) W (p := (F, [])) ⟨by simp, h.nd, h.rc⟩ fun v hv => h.rc v (h.sub v hv)
  refine ⟨⟨h3 _ h.st, h1.nd, h1.al, fun v hv => by
    have e : (roundF sw F W).1 = F ++ (roundF sw F W).2 := h1.eq
    rw [e]; exact List.mem_append_right _ hv, fun v hv hn o ho => ?_⟩, h1.eq⟩
  have hF : v ∈ F := by
    have e : (roundF sw F W).1 = F ++ (roundF sw F W).2 := h1.eq
    rw [e] at hv
    exact (List.mem_append.mp hv).resolve_right hn
  by_cases hw : v ∈ W
  · exact h2 v hw o ho
  · exact h3 o (h.cl v hF hw o ho)
theorem far_all {sw : List Val} {a : Val} {F : List Val} (h : Far sw a F []) (v : Val) : v ∈ F ↔ Reach sw a v := by
  refine ⟨h.rc v, fun hr => ?_⟩
  induction hr with
  | refl => exact h.st
  | step _ hv ih => exact h.cl _ ih (by simp) _ (by rw [outs_swp]; exact hv)
end MP
set_option maxHeartbeats 400000
/-! law k31: what are hands -/
namespace MP.Pk31
open PySem L2 MP
def exLen (v : Val) : Nat := match v with
  | .tup xs => xs.length
  | _ => 0
def sizes (sw : List Val) : List Nat := sw.map exLen
def inHand (v : Val) : Bool := match v with
  | .tup [h, .tup xs] => within h 0 (xs.length - 1)
  | _ => false
def isHands (sw : List Val) (v : Val) : Bool := match v with
  | .tup hs => decide ((hs.length : Int) = sw.length) && (pairUp hs sw).all inHand
  | _ => false
theorem comp_hands {cups : Int} {sw : List Val} (g : GB cups sw) (hs : List Val) (hp : hs.all plainV = true) (o2 o3 : Option Val) (st : Store) :
    evalN c_raw_is_hands_0 [some (bd cups sw), some (.tup hs), o2, o3] st = .ok (.lst ((pairUp hs sw).map fun p => .bl (inHand p))) st := by
  unfold c_raw_is_hands_0
  refine comp_map (items := pairUp hs sw) (by simp [evalIt, runFn, execs, exec, evalEs, evalEo, evalN_lst, evalN_dct, evalIt, popTo_self, e_var, e_lit, e_gcon, e_gfn, e_bin, e_neg, e_cmp, e_isn, e_isb, e_and, e_or, e_not, e_ite, e_tup, e_val, e_cell, e_idx, e_slc, e_blt, e_isi, e_call, e_word, e_mth, e_rev, e_lenset, e_callv, idx1]) (fun p hm => ?_) ?_
  · obtain ⟨q, hq, rfl⟩ := List.mem_map.mp hm
    have h1 := List.of_mem_zip hq
    obtain ⟨xs, hx, _, _, _⟩ := exits_inv (List.all_eq_true.mp g.parts.2.2 _ h1.2)
    have hw := is_within_s q.1 0 (xs.length - 1) st (List.all_eq_true.mp hp _ h1.1)
    obtain ⟨a, b⟩ := q
    subst hx
    refine ⟨_, rfl, ?_⟩
    dsimp only at hw
    simp [runFn, execs, exec, evalEs, evalEo, evalN_lst, evalN_dct, evalIt, popTo_self, e_var, e_lit, e_gcon, e_gfn, e_bin, e_neg, e_cmp, e_isn, e_isb, e_and, e_or, e_not, e_ite, e_tup, e_val, e_cell, e_idx, e_slc, e_blt, e_isi, e_call, e_word, e_mth, e_rev, e_lenset, e_callv, wipeE, blt, lenOf, bop, hw, inHand]
  · have := g.len.2
    simp only [pairUp, List.length_map, List.length_zip]
    unfold sizeLine; omega
theorem raw_is_hands_s {cups : Int} {sw : List Val} (g : GB cups sw) (v : Val) (hp : plain2 v = true) (st : Store) : D_raw_is_hands [bd cups sw, v] st = .ok (.bl (isHands sw v)) st := by
  have e := is_tuple_of_s v sw.length st (plain2_1 hp)
  cases ht : tupLen v sw.length with
  | false =>
    rw [ht] at e
    have hq : isHands sw v = false := by
      unfold isHands
      split
      · simp only [tupLen] at ht
        rw [ht]; rfl
      · rfl
    simp [D_raw_is_hands, b_raw_is_hands, runFn, execs, exec, evalEs, evalEo, evalN_lst, evalN_dct, evalIt, popTo_self, e_var, e_lit, e_gcon, e_gfn, e_bin, e_neg, e_cmp, e_isn, e_isb, e_and, e_or, e_not, e_ite, e_tup, e_val, e_cell, e_idx, e_slc, e_blt, e_isi, e_call, e_word, e_mth, e_rev, e_lenset, e_callv, truth, e, hq, idx1, blt, lenOf]
  | true =>
    rw [ht] at e
    cases v <;> simp [tupLen] at ht
    rename_i hs
    have c := comp_hands g hs hp none none st
    have al : ((pairUp hs sw).map inHand).all id = (pairUp hs sw).all inHand := by
      rw [List.all_map]; rfl
    simp [D_raw_is_hands, b_raw_is_hands, runFn, execs, exec, evalEs, evalEo, evalN_lst, evalN_dct, evalIt, popTo_self, e_var, e_lit, e_gcon, e_gfn, e_bin, e_neg, e_cmp, e_isn, e_isb, e_and, e_or, e_not, e_ite, e_tup, e_val, e_cell, e_idx, e_slc, e_blt, e_isi, e_call, e_word, e_mth, e_rev, e_lenset, e_callv, truth, e, idx1, blt, lenOf, c, bools_map, isHands, ht, al]
theorem check_ok {cups : Int} {sw : List Val} (g : GB cups sw) (st : Store) : D_check_board [bd cups sw] st = .ok .non st := by
  have c := check_board_s (bd cups sw) st g.pl
  rw [if_pos g.ib] at c
  exact c
theorem check_hands_s {cups : Int} {sw : List Val} (g : GB cups sw) (v : Val) (hp : plain2 v = true) (st : Store) : D_check_hands [bd cups sw, v] st = if isHands sw v = true then .ok .non st else .exc "NoHands" [] st := by
  have e := raw_is_hands_s g v hp st
  cases h : isHands sw v <;> rw [h] at e <;> simp [D_check_hands, b_check_hands, runFn, execs, exec, evalEs, evalEo, evalN_lst, evalN_dct, evalIt, popTo_self, e_var, e_lit, e_gcon, e_gfn, e_bin, e_neg, e_cmp, e_isn, e_isb, e_and, e_or, e_not, e_ite, e_tup, e_val, e_cell, e_idx, e_slc, e_blt, e_isi, e_call, e_word, e_mth, e_rev, e_lenset, e_callv, check_ok g, e, truth]
/-- the hands hs, as a value -/
abbrev hv (hs : List Nat) : Val := .tup (hs.map fun (h : Nat) => Val.int (h : Int))
structure HS (sw : List Val) (hs : List Nat) : Prop where
  len : hs.length = sw.length
  lt : ∀ (i : Nat) (x : Val) (h : Nat), sw[i]? = some x → hs[i]? = some h → h < exLen x
theorem hv_plain (hs : List Nat) : plain2 (hv hs) = true := by
  simp only [plain2, List.all_map]
  exact List.all_eq_true.mpr fun _ _ => rfl
theorem HS.is {cups : Int} {sw : List Val} {hs : List Nat} (H : HS sw hs) (g : GB cups sw) : isHands sw (hv hs) = true := by
  simp only [isHands, List.length_map, H.len, decide_true, Bool.true_and]
  refine List.all_eq_true.mpr fun p hm => ?_
  obtain ⟨q, hq, rfl⟩ := List.mem_map.mp hm
  obtain ⟨i, hi⟩ := List.mem_iff_getElem?.mp hq
  obtain ⟨h1, h2⟩ := List.getElem?_zip_eq_some.mp hi
  rw [List.getElem?_map] at h1
  cases hh : hs[i]? with
  | none => rw [hh] at h1; cases h1
  | some h =>
    rw [hh] at h1
    obtain ⟨xs, hx, _, _, _⟩ := g.at_ h2
    have := H.lt i _ h h2 hh
    obtain ⟨a, b⟩ := q
    dsimp only at h1 h2 hx
    simp at h1
    subst h1 hx
    simp only [exLen] at this
    simp [inHand, within]; omega
theorem mul1 {a : Val} {n : Nat} (h1 : 1 ≤ n) (h2 : n ≤ 1000) : bop .mul (.tup [a]) (.int n) = some (.tup (List.replicate n a)) := by
  have e : (List.replicate n [a]).flatten = List.replicate n a := by simp
  simp only [bop, Int.toNat_natCast, e]
  by_cases h : n = 1
  · subst h; simp
  · rw [if_pos (.inl ⟨by simp, by omega, by omega, by simp⟩)]
end MP.Pk31
set_option maxHeartbeats 400000
/-! law k31: hands by their numbers -/
namespace MP.Pk31
open PySem L2 MP
theorem noRefs_nats : ∀ l : List Nat, noRefs (l.map fun (h : Nat) => Val.int (h : Int)) = true
  | [] => rfl
  | _ :: l => by simp only [List.map_cons, noRefs, noRef, noRefs_nats l]; rfl
theorem hv_noRef (hs : List Nat) : noRef (hv hs) = true := by simp only [noRef]; exact noRefs_nats hs
theorem pop_dead {st : Store} {v : Val} (hv : noRef v = true) : popTo st (st ++ [Cell.dead]) (some v) = st := by
  rw [popTo_pre (fun x hx => by cases hx; exact hv) (fun n c hn hc => .inl (by rw [List.getElem?_append_left hn] at hc; exact hc))]
  simp
end MP.Pk31
set_option maxHeartbeats 400000
/-! law k31: where hands lead, hands drawn -/
namespace MP.Pk31
open PySem L2 MP
theorem bop_tadd {xs ys : List Val} (h : xs.length + ys.length ≤ sizeLine) : bop .add (.tup xs) (.tup ys) = some (.tup (xs ++ ys)) := by simp only [bop, if_pos h]
theorem cutL_le {α : Type} (xs : List α) (lo hi : Option Int) : (cutL xs lo hi).length ≤ xs.length := by
  unfold cutL
  rw [List.length_take, List.length_drop]; omega
theorem cutL_map {α β : Type} (f : α → β) (xs : List α) (lo hi : Option Int) : cutL (xs.map f) lo hi = (cutL xs lo hi).map f := by simp [cutL, List.map_drop, List.map_take]
/-- the hands with one put otherwise -/
def putH (hs : List Nat) (s a : Nat) : List Nat := (cutL hs none (some (s : Int)) ++ [a]) ++ cutL hs (some ((s : Int) + 1)) none
theorem putH_len (hs : List Nat) (s a : Nat) : (putH hs s a).length ≤ 2 * hs.length + 1 := by
  have h1 := cutL_le hs none (some (s : Int))
  have h2 := cutL_le hs (some ((s : Int) + 1)) none
  simp only [putH, List.length_append, List.length_singleton]; omega
theorem cutL_mem {α : Type} {xs : List α} {lo hi : Option Int} {x : α} (h : x ∈ cutL xs lo hi) : x ∈ xs := List.mem_of_mem_drop (List.mem_of_mem_take h)
theorem putH_lt {hs : List Nat} {s a b : Nat} (h : ∀ x ∈ hs, x < b) (ha : a < b) : ∀ x ∈ putH hs s a, x < b := by
  intro x hx
  simp only [putH, List.mem_append, List.mem_singleton] at hx
  rcases hx with (hx | hx) | hx
  · exact h x (cutL_mem hx)
  · rw [hx]; exact ha
  · exact h x (cutL_mem hx)
theorem put_s {hs : List Nat} (hl : hs.length ≤ 1000) (s a : Nat) (o i j : E) (env : Env) (st : Store) (h0 : evalE o env st = .ok (hv hs) st) (h1 : evalE i env st = .ok (.int s) st) (h2 : evalE j env st = .ok (.int a) st) :
    evalE (.bin .add (.bin .add (.slc o .none (.some i)) (.tup (.cons j .nil))) (.slc o (.some (.bin .add i (.lit (.int 1)))) .none)) env st = .ok (hv (putH hs s a)) st := by
  have e1 := cutL_le (hs.map fun (h : Nat) => Val.int (h : Int)) none (some (s : Int))
  have e2 := cutL_le (hs.map fun (h : Nat) => Val.int (h : Int)) (some ((s : Int) + 1)) none
  rw [List.length_map] at e1 e2
  have t1 := bop_tadd (xs := cutL (hs.map fun (h : Nat) => Val.int (h : Int)) none (some (s : Int))) (ys := [.int (a : Int)]) (by simp; unfold sizeLine; omega)
  have t2 := bop_tadd (xs := cutL (hs.map fun (h : Nat) => Val.int (h : Int)) none (some (s : Int)) ++ [.int (a : Int)]) (ys := cutL (hs.map fun (h : Nat) => Val.int (h : Int)) (some ((s : Int) + 1)) none) (by simp; unfold sizeLine; omega)
  have eh : hv (putH hs s a) = .tup ((cutL (hs.map fun (h : Nat) => Val.int (h : Int)) none (some (s : Int)) ++ [.int (a : Int)]) ++ cutL (hs.map fun (h : Nat) => Val.int (h : Int)) (some ((s : Int) + 1)) none) := by
    simp [hv, putH, cutL_map]
  rw [eh]
  simp only [e_bin, e_slc, evalEo, h0, h1, h2, Out.bind_ok, slcV, Out.of_some, e_tup, evalEs, e_lit, bop_add, t1, t2]
  simp [sizeLine, h0, h1, h2, slcV, bop_add, t1, t2]
theorem turned_mod (h m : Int) (n : Int) : h + m - n * ((h + m) / n) = (h + m) % n := (Int.emod_def _ _).symm
theorem nats_of : ∀ {ys : List Val}, (∀ y ∈ ys, ∃ h : Nat, y = .int (h : Int)) → ∃ hs : List Nat, ys = hs.map fun (h : Nat) => Val.int (h : Int)
  | [], _ => ⟨[], rfl⟩
  | y :: ys, h => by
    obtain ⟨a, rfl⟩ := h y (.head _)
    obtain ⟨hs, rfl⟩ := nats_of (ys := ys) fun z hz => h z (.tail _ hz)
    exact ⟨a :: hs, rfl⟩
theorem law_hands_s {n : Nat} {hc : Cell} (h : IsH n hc) (hn : n < 1000000000) {cups : Int} {sw : List Val} (g : GB cups sw) (st : Store) :
    ∃ (hs : List Nat) (hc' : Cell), D_law_hands [.ref 0, bd cups sw] (hc :: st) = .ok (hv hs) (hc' :: st) ∧ HS sw hs ∧ IsH (n + 24) hc' := by
  have hl := g.len
  obtain ⟨ys, st', e1, ⟨c, rfl, ih⟩, l2, q⟩ := comp_rel (e := .call "_law_draw" D_law_draw (.cons (.var 0) (.cons (.blt .len (.cons (.var 2) .nil)) .nil))) (t := .name 2) (it := .seq (.idx (.var 1) (.lit (.int 1)))) (own := [("exits", 2)]) (env := [some (.ref 0), some (bd cups sw), none]) (st := hc :: st) (st1 := hc :: st) (items := sw)
    (I := fun j s => ∃ c, s = c :: st ∧ IsH (n + j) c) (Q := fun x y => ∃ h : Nat, y = .int (h : Int) ∧ h < exLen x) (n := 0) (by simp [evalIt, runFn, execs, exec, evalEs, evalEo, evalN_lst, evalN_dct, evalIt, popTo_self, e_var, e_lit, e_gcon, e_gfn, e_bin, e_neg, e_cmp, e_isn, e_isb, e_and, e_or, e_not, e_ite, e_tup, e_val, e_cell, e_idx, e_slc, e_blt, e_isi, e_call, e_word, e_mth, e_rev, e_lenset, e_callv, idx1, walkSeq]) (fun x hx k s hk ⟨c, ec, hck⟩ => by
      subst ec
      obtain ⟨xs, rfl, l1, l4, _⟩ := exits_inv (List.all_eq_true.mp g.parts.2.2 x hx)
      obtain ⟨d, c2, a1, a2, a3, a4⟩ := draw_s hck (by omega) xs.length (by omega) (by omega) st
      obtain ⟨d, rfl⟩ := Int.eq_ofNat_of_zero_le a2
      exact ⟨_, .int d, c2 :: st, rfl, by simp [runFn, execs, exec, evalEs, evalEo, evalN_lst, evalN_dct, evalIt, popTo_self, e_var, e_lit, e_gcon, e_gfn, e_bin, e_neg, e_cmp, e_isn, e_isb, e_and, e_or, e_not, e_ite, e_tup, e_val, e_cell, e_idx, e_slc, e_blt, e_isi, e_call, e_word, e_mth, e_rev, e_lenset, e_callv, wipeE, blt, lenOf, a1], ⟨c2, rfl, a4⟩, d, rfl, by simp only [exLen]; omega⟩) (by unfold sizeLine; omega) ⟨hc, rfl, h⟩
  have e1 : evalN c_law_hands_0 [some (.ref 0), some (bd cups sw), none] (hc :: st) = .ok (.lst ys) (c :: st) := e1
  obtain ⟨hs, rfl⟩ := nats_of (ys := ys) fun y hy => by
    obtain ⟨i, hi⟩ := List.mem_iff_getElem?.mp hy
    have li : i < sw.length := by have := (List.getElem?_eq_some_iff.mp hi).1; omega
    obtain ⟨h, e, _⟩ := q i _ y (List.getElem?_eq_getElem li) hi
    exact ⟨h, e⟩
  refine ⟨hs, c, ?_, ⟨by simpa using l2, fun i x h hx hh => ?_⟩, ih.mono (by omega)⟩
  · have pp := pop_hand (hc := hc) (st := st) ih (hv_noRef hs)
    simp [D_law_hands, b_law_hands, runFn, execs, exec, evalEs, evalEo, evalN_lst, evalN_dct, evalIt, popTo_self, e_var, e_lit, e_gcon, e_gfn, e_bin, e_neg, e_cmp, e_isn, e_isb, e_and, e_or, e_not, e_ite, e_tup, e_val, e_cell, e_idx, e_slc, e_blt, e_isi, e_call, e_word, e_mth, e_rev, e_lenset, e_callv, e1, blt, seqOf, pp]
  · obtain ⟨h', e, l⟩ := q i x (.int (h : Int)) hx (by simp [hh])
    cases e; exact l
theorem HS.small {cups : Int} {sw : List Val} {hs : List Nat} (H : HS sw hs) (g : GB cups sw) : ∀ h ∈ hs, h < 4 := by
  intro h hh
  obtain ⟨i, hi⟩ := List.mem_iff_getElem?.mp hh
  have li : i < sw.length := by have := (List.getElem?_eq_some_iff.mp hi).1; have := H.len; omega
  have := H.lt i _ h (List.getElem?_eq_getElem li) hi
  obtain ⟨xs, e, _, l4, _⟩ := g.at_ (List.getElem?_eq_getElem li)
  rw [e] at this
  simp only [exLen] at this; omega
end MP.Pk31
set_option maxHeartbeats 400000
/-! law k31: lost switches -/
namespace MP.Pk31
open PySem L2 MP
open Classical
theorem place_form {cups : Int} {m : Nat} {v : Val} (h : isPlace cups m v = true) : (∃ t : Nat, t < m ∧ v = swp t) ∨ ∃ c : Nat, (c : Int) < cups ∧ v = cpp c := by
  obtain ⟨w, i, rfl, hw⟩ := place_inv h
  simp only [isPlace] at h
  split at h
  · rename_i e
    subst e
    simp [within] at h
    obtain ⟨t, rfl⟩ := Int.eq_ofNat_of_zero_le h.1
    exact .inl ⟨t, by omega, rfl⟩
  · rename_i e
    have e2 := hw.resolve_left e
    subst e2
    simp [within] at h
    obtain ⟨c, rfl⟩ := Int.eq_ofNat_of_zero_le h.1
    exact .inr ⟨c, by omega, rfl⟩
theorem GB.okb {cups : Int} {sw : List Val} (g : GB cups sw) : OkB sw where
  ex := fun s x hx => by obtain ⟨xs, e, _⟩ := g.at_ hx; exact ⟨xs, e⟩
  pl := fun s v hv => by
    unfold succs at hv
    split at hv
    · rename_i xs hx
      obtain ⟨xs', e, _, _, hp⟩ := g.at_ hx
      cases e
      rcases place_form (List.all_eq_true.mp hp v hv) with h | ⟨c, _, h⟩
      · exact .inl h
      · exact .inr ⟨c, h⟩
    · cases hv
def gk (G : List Nat) : List (L2.Key × Val) := G.map fun (s : Nat) => (.inl (s : Int), .bl true)
theorem assoc_gk (G : List Nat) (s : Nat) : (assoc (gk G) (.inl (s : Int))).isSome = decide (s ∈ G) := by
  induction G with
  | nil => simp [gk, assoc]
  | cons a G ih =>
    simp only [gk, List.map_cons, assoc, List.find?_cons] at ih ⊢
    by_cases e : a = s
    · subst e; simp
    · have : ¬ ((a : Int) = (s : Int)) := by omega
      simp only [Sum.inl.injEq, this, decide_false, Bool.false_eq_true, if_false]
      rw [ih]
      simp [Ne.symm e]
theorem put_gk {G : List Nat} {s : Nat} (h : s ∉ G) : putA (gk G) (.inl (s : Int)) (.bl true) = gk (G ++ [s]) := by
  have : ((gk G).any fun kv => decide (kv.1 = (.inl (s : Int) : L2.Key))) = false := by
    rw [List.any_eq_false]
    intro kv hkv
    obtain ⟨t, ht, rfl⟩ := List.mem_map.mp hkv
    have : t ≠ s := fun e => h (e ▸ ht)
    simp only [decide_eq_true_eq, Sum.inl.injEq]; omega
  unfold putA
  rw [this]
  simp [gk]
theorem fold_gk : ∀ (M G : List Nat), (G ++ M).Nodup → M.foldl (fun l (s : Nat) => putA l (.inl (s : Int)) (.bl true)) (gk G) = gk (G ++ M)
  | [], G, _ => by simp
  | s :: M, G, h => by
    have hs : s ∉ G := fun z => by
      have := List.nodup_append.mp h
      exact this.2.2 s z s (.head _) rfl
    rw [List.foldl_cons, put_gk hs, fold_gk M (G ++ [s]) (by simpa using h)]
    simp
def goodV (G : List Nat) (v : Val) : Bool := match v with
  | .tup [.str w, .int i] => decide (w = "cup") || (assoc (gk G) (.inl i)).isSome
  | _ => false
def newB (sw : List Val) (G : List Nat) (s : Nat) : Bool := !decide (s ∈ G) && (succs sw s).any (goodV G)
theorem inV_ref {i : Int} {n : Nat} {st : Store} {kvs : List (L2.Key × Val)} (h : st[n]? = some (.dK kvs)) : inV (.int i) (.ref n) st = some (assoc kvs (.inl i)).isSome := by
  simp [inV, seqOf, h, dgetV, keyOf]
theorem inV_dK {i : Int} {st : Store} {kvs : List (L2.Key × Val)} : inV (.int i) (.dK kvs) st = some (assoc kvs (.inl i)).isSome := by
  simp [inV, seqOf, dgetV, keyOf]
theorem enum_at {sw ys zs : List Val} {x : Val} (e : enumUp sw = ys ++ x :: zs) : ∃ y, x = .tup [.int (ys.length : Nat), y] ∧ sw[ys.length]? = some y := by
  have h : (enumUp sw)[ys.length]? = some x := by rw [e]; simp
  unfold enumUp at h
  rw [List.getElem?_map, List.getElem?_zipIdx] at h
  cases q : sw[ys.length]? with
  | none => rw [q] at h; cases h
  | some y =>
    rw [q] at h
    simp at h
    exact ⟨y, h.symm, rfl⟩
theorem succs_at {sw : List Val} {s : Nat} {xs : List Val} (h : sw[s]? = some (.tup xs)) : succs sw s = xs := by simp [succs, h]
end MP.Pk31
set_option maxHeartbeats 400000
/-! law k31: raw_lost -/
namespace MP.Pk31
open PySem L2 MP
open Classical
theorem putA_len (l : List (L2.Key × Val)) (k : L2.Key) (v : Val) : (putA l k v).length ≤ l.length + 1 := by
  unfold putA
  split
  · rw [List.length_map]; omega
  · rw [List.length_append, List.length_singleton]; omega
theorem compD_map {f : Val → Store → Out (Option (L2.Key × Val))} {g : Val → L2.Key × Val} {st : Store} : ∀ {xs : List Val} {acc : List (L2.Key × Val)}, (∀ x ∈ xs, f x st = .ok (some (g x)) st) → acc.length + xs.length ≤ sizeLine → compD f xs acc st = .ok (xs.foldl (fun l x => putA l (g x).1 (g x).2) acc) st
  | [], acc, _, _ => by simp [compD]
  | x :: xs, acc, hf, hl => by
    simp only [compD, hf x List.mem_cons_self, Out.noExc, Out.bind_ok]
    simp only [List.length_cons] at hl
    have := putA_len acc (g x).1 (g x).2
    rw [if_pos (by omega), compD_map (fun y hy => hf y (List.mem_cons_of_mem _ hy)) (by omega)]
    simp
theorem dcomp_map {k e : E} {t : Tgt} {it : It} {own : List (PySem.Str × Nat)} {env : Env} {st : Store} {items : List Val} {g : Val → L2.Key × Val} (hi : evalIt it env st = .ok items st)
    (hf : ∀ x ∈ items, ∃ env' kv, bindT t x (wipeE env (own.map (·.2))) = some env' ∧ evalE k env' st = .ok kv st ∧ keyOf kv = some (g x).1 ∧ evalE e env' st = .ok (g x).2 st) (hl : items.length ≤ sizeLine) :
    evalN (.dcomp k e t it .none own) env st = .ok (.dK (items.foldl (fun l x => putA l (g x).1 (g x).2) [])) st := by
  simp only [evalN, hi, Out.bind_ok]
  rw [compD_map (g := g) (fun x hx => ?_) (by simpa using hl)]
  · simp
  · obtain ⟨env', kv, e1, e2, e3, e4⟩ := hf x hx
    simp only [e1, evalC, Out.bind_ok, if_true, e2, e3, Out.of_some, e4]
theorem nodup_range (n : Nat) (p : Nat → Bool) : ((List.range n).filter p).Nodup := List.Nodup.sublist List.filter_sublist List.nodup_range
theorem app_at {α : Type} (st : List α) (c : α) (X : List α) : (st ++ c :: X)[st.length]? = some c := by simp
end MP.Pk31
set_option maxHeartbeats 400000
/-! law k31: _law_far, _law_lost -/
namespace MP.Pk31
open PySem L2 MP
open Classical
def pk (v : Val) : List L2.Key := (tkeyOf v).getD []
def IsPl (v : Val) : Prop := ∃ (w : PySem.Str) (t : Int), v = .tup [.str w, .int t]
theorem pl_sw (t : Nat) : IsPl (swp t) := ⟨_, _, rfl⟩
theorem pl_cp (c : Nat) : IsPl (cpp c) := ⟨_, _, rfl⟩
theorem pk_key {v : Val} (h : IsPl v) : tkeyOf v = some (pk v) := by
  obtain ⟨w, t, rfl⟩ := h
  rfl
theorem pk_back {v : Val} (h : IsPl v) : Val.tup ((pk v).map vOfKey) = v := by
  obtain ⟨w, t, rfl⟩ := h
  rfl
theorem pk_inj {v u : Val} (hv : IsPl v) (hu : IsPl u) (h : pk v = pk u) : v = u := by rw [← pk_back hv, ← pk_back hu, h]
structure DT (F : List Val) (kvs : List (List L2.Key × Val)) : Prop where
  ks : kvs.map (·.1) = F.map pk
  vs : ∀ kv ∈ kvs, ∃ i : Int, kv.2 = .int i
theorem DT.len {F : List Val} {kvs : List (List L2.Key × Val)} (h : DT F kvs) : kvs.length = F.length := by
  have := congrArg List.length h.ks
  simpa using this
theorem assoc_some {kvs : List (List L2.Key × Val)} {k : List L2.Key} : (assoc kvs k).isSome = decide (k ∈ kvs.map (·.1)) := by
  induction kvs with
  | nil => simp [assoc]
  | cons a G ih =>
    simp only [assoc, List.map_cons, List.find?_cons] at ih ⊢
    by_cases e : a.1 = k
    · simp [e]
    · simp only [e, decide_false]
      rw [ih]
      simp [Ne.symm e]
theorem DT.mem {F : List Val} {kvs : List (List L2.Key × Val)} (h : DT F kvs) (hF : ∀ v ∈ F, IsPl v) {o : Val} (ho : IsPl o) : (assoc kvs (pk o)).isSome = decide (o ∈ F) := by
  rw [assoc_some, h.ks, decide_eq_decide]
  refine ⟨fun hm => ?_, fun hm => List.mem_map_of_mem hm⟩
  obtain ⟨v, hv, e⟩ := List.mem_map.mp hm
  rw [← pk_inj (hF v hv) ho e]; exact hv
theorem DT.put {F : List Val} {kvs : List (List L2.Key × Val)} (h : DT F kvs) (hF : ∀ v ∈ F, IsPl v) {o : Val} (ho : IsPl o) (hn : o ∉ F) (i : Int) : DT (F ++ [o]) (putA kvs (pk o) (.int i)) := by
  have : (kvs.any fun kv => decide (kv.1 = pk o)) = false := by
    rw [List.any_eq_false]
    intro kv hkv z
    have h1 : pk o ∈ kvs.map (·.1) := List.mem_map.mpr ⟨kv, hkv, of_decide_eq_true z⟩
    have h2 := h.mem hF ho
    rw [assoc_some, decide_eq_decide] at h2
    exact hn (h2.mp h1)
  unfold putA
  rw [this]
  refine ⟨by simp [h.ks], fun kv hkv => ?_⟩
  rcases List.mem_append.mp hkv with z | z
  · exact h.vs kv z
  · simp at z; subst z; exact ⟨i, rfl⟩
/-- all places -/
def allP (sw : List Val) : List Val := (List.range 5).map cpp ++ (List.range sw.length).map swp
theorem allP_len {cups : Int} {sw : List Val} (g : GB cups sw) : (allP sw).length ≤ 29 := by
  have := g.len.2
  simp [allP]; omega
theorem allP_pl {sw : List Val} {v : Val} (h : v ∈ allP sw) : IsPl v := by
  rcases List.mem_append.mp h with z | z
  · obtain ⟨c, _, rfl⟩ := List.mem_map.mp z; exact pl_cp c
  · obtain ⟨c, _, rfl⟩ := List.mem_map.mp z; exact pl_sw c
theorem GB.cups4 {cups : Int} {sw : List Val} (g : GB cups sw) : cups ≤ 4 := by
  have := g.parts.1
  have := (by simpa [within] using this : 1 ≤ cups ∧ cups ≤ 4)
  exact this.2
theorem outs_all {cups : Int} {sw : List Val} (g : GB cups sw) {v o : Val} (hv : v ∈ allP sw) (ho : o ∈ outs sw v) : o ∈ allP sw := by
  rcases List.mem_append.mp hv with z | z
  · obtain ⟨c, _, rfl⟩ := List.mem_map.mp z
    rw [outs_cpp] at ho; cases ho
  · obtain ⟨t, _, rfl⟩ := List.mem_map.mp z
    rw [outs_swp] at ho
    unfold succs at ho
    split at ho
    · rename_i xs hx
      obtain ⟨xs', e, _, _, hp⟩ := g.at_ hx
      cases e
      rcases place_form (List.all_eq_true.mp hp o ho) with ⟨u, hu, rfl⟩ | ⟨c, hc, rfl⟩
      · exact List.mem_append_right _ (List.mem_map.mpr ⟨u, List.mem_range.mpr hu, rfl⟩)
      · have := g.cups4
        exact List.mem_append_left _ (List.mem_map.mpr ⟨c, List.mem_range.mpr (by omega), rfl⟩)
    · cases ho
def stF (st : Store) (kvs : List (List L2.Key × Val)) (k : Nat) (L : List Val) : Store := (st ++ Cell.dT kvs :: List.replicate k Cell.dead) ++ [Cell.lst L]
theorem inV_T {v : Val} (hv : IsPl v) {n : Nat} {st : Store} {kvs : List (List L2.Key × Val)} (h : st[n]? = some (.dT kvs)) : inV v (.ref n) st = some (assoc kvs (pk v)).isSome := by
  have := pk_key hv
  obtain ⟨w, t, rfl⟩ := hv
  simp [inV, seqOf, h, dgetV, this]
end MP.Pk31
set_option maxHeartbeats 400000
/-! law k31: _law_far, _law_lost -/
namespace MP.Pk31
open PySem L2 MP
open Classical
theorem stF_len (st : Store) (kvs : List (List L2.Key × Val)) (k : Nat) (L : List Val) : (stF st kvs k L).length = st.length + 1 + k + 1 := by
  simp [stF]; omega
theorem exits_walk {cups : Int} {sw : List Val} (g : GB cups sw) {v : Val} (hv : v ∈ allP sw) (o1 o2 o3 o4 o6 o7 : Option Val) (st : Store) :
    evalIt (.seq (.ite (.cmp .eq (.idx (.var 5) (.lit (.int 0))) (.lit (.str "switch"))) (.idx (.idx (.var 0) (.lit (.int 1))) (.idx (.var 5) (.lit (.int 1)))) (.tup (.nil)))) [some (bd cups sw), o1, o2, o3, o4, some v, o6, o7] st = .ok (outs sw v) st := by
  rcases List.mem_append.mp hv with z | z
  · obtain ⟨c, _, rfl⟩ := List.mem_map.mp z
    rw [outs_cpp]
    simp [runFn, execs, exec, evalEs, evalEo, evalN_lst, evalN_dct, evalIt, popTo_self, e_var, e_lit, e_gcon, e_gfn, e_bin, e_neg, e_cmp, e_isn, e_isb, e_and, e_or, e_not, e_ite, e_tup, e_val, e_cell, e_idx, e_slc, e_blt, e_isi, e_call, e_word, e_mth, e_rev, e_lenset, e_callv, idx0, cop, eqV, cup_ne, truth, sizeLine, walkSeq]
  · obtain ⟨t, ht, rfl⟩ := List.mem_map.mp z
    have ht := List.mem_range.mp ht
    have hx : sw[t]? = some sw[t] := List.getElem?_eq_getElem ht
    obtain ⟨xs, ex, _⟩ := g.at_ hx
    rw [ex] at hx
    rw [outs_swp, succs_at hx]
    simp [runFn, execs, exec, evalEs, evalEo, evalN_lst, evalN_dct, evalIt, popTo_self, e_var, e_lit, e_gcon, e_gfn, e_bin, e_neg, e_cmp, e_isn, e_isb, e_and, e_or, e_not, e_ite, e_tup, e_val, e_cell, e_idx, e_slc, e_blt, e_isi, e_call, e_word, e_mth, e_rev, e_lenset, e_callv, idx0, idx1, cop, eqV, truth, idx_tup hx, walkSeq]
theorem noRefT_ints : ∀ {kvs : List (List L2.Key × Val)}, (∀ kv ∈ kvs, ∃ i : Int, kv.2 = .int i) → noRefT kvs = true
  | [], _ => rfl
  | (k, v) :: kvs, h => by
    obtain ⟨i, e⟩ := h _ (.head _)
    dsimp only at e
    subst e
    simp only [noRefT, noRef, noRefT_ints (kvs := kvs) fun x hx => h x (.tail _ hx), Bool.and_self]
end MP.Pk31
set_option maxHeartbeats 400000
/-! law k31: _law_lost; balls -/
namespace MP.Pk31
open PySem L2 MP
open Classical
def isSw (v : Val) : Bool := match v with
  | .tup [.str w, _] => decide (w = "switch")
  | _ => false
theorem walk_dT {F : List Val} {kvs : List (List L2.Key × Val)} (h : DT F kvs) (hF : ∀ v ∈ F, IsPl v) (st : Store) : walkSeq (.dT kvs) st = some F := by
  simp only [walkSeq]
  congr 1
  have e : kvs.map (fun kv => Val.tup (kv.1.map vOfKey)) = (kvs.map (·.1)).map fun k => Val.tup (k.map vOfKey) := by rw [List.map_map]; rfl
  rw [e, h.ks, List.map_map]
  conv => rhs; rw [← List.map_id F]
  exact List.map_congr_left fun v hv => pk_back (hF v hv)
theorem lost_bool {sw : List Val} (B : OkB sw) {s : Nat} (hs : s < sw.length) {F : List Val} (h : Far sw (swp s) F []) : F.all isSw = decide (LostN sw s) := by
  rw [Bool.eq_iff_iff, List.all_eq_true, decide_eq_true_eq]
  refine ⟨fun ha v hv => ?_, fun hl v hv => ?_⟩
  · have := ha v ((far_all h v).mpr hv)
    rcases reach_lt B hs hv with ⟨t, _, e⟩ | ⟨c, e⟩
    · exact ⟨t, e⟩
    · subst e
      have : ¬ (PySem.Str.ofString "cup" = PySem.Str.ofString "switch") := by decide
      simp [isSw, cpp, this] at *
  · obtain ⟨t, rfl⟩ := hl v ((far_all h v).mp hv)
    simp [isSw, swp]
noncomputable abbrev lostV (sw : List Val) : List Val := (lostL sw).map fun (s : Nat) => .int (s : Int)
theorem bop_ladd {xs ys : List Val} (h : xs.length + ys.length ≤ sizeLine) : bop .add (.lst xs) (.lst ys) = some (.lst (xs ++ ys)) := by simp only [bop, if_pos h]
end MP.Pk31
set_option maxHeartbeats 4000000
/-! law k31: what is shown -/
namespace MP.Pk31
open PySem L2 MP
structure Sh (v : Val) (d : PyData) (k B : Nat) : Prop where
  dat : dataOf v = some d
  cl : d.canLay0 = true
  dp : d.depth ≤ k
  sh : d.showable = true
  nd : d.hasDict = false
  ln : d.shown.length ≤ B
theorem small_len : ∀ i : _root_.Fin 100, (PyData.shown (.int (i.val : Int))).length ≤ 2 ∧ (PyData.int (i.val : Int)).showable = true := by decide +kernel
theorem sh_int {n : Nat} (h : n < 100) : Sh (.int n) (.int n) 0 5 :=
  ⟨rfl, rfl, Nat.le_refl _, (small_len ⟨n, h⟩).2, rfl, Nat.le_trans (small_len ⟨n, h⟩).1 (by decide)⟩
theorem sh_bl (b : Bool) : Sh (.bl b) (.bool b) 0 5 := by cases b <;> exact ⟨rfl, rfl, Nat.le_refl _, rfl, rfl, by decide⟩
inductive ShL : List Val → List PyData → Nat → Nat → Prop
  | nil {k B : Nat} : ShL [] [] k B
  | cons {v : Val} {d : PyData} {vs : List Val} {ds : List PyData} {k B : Nat} : Sh v d k B → ShL vs ds k B → ShL (v :: vs) (d :: ds) k B
theorem ShL.facts {vs : List Val} {ds : List PyData} {k B : Nat} (h : ShL vs ds k B) : dataOfs vs = some ds ∧ PyData.canLayAll0 ds = true ∧ PyData.depthAll ds ≤ k ∧ PyData.showableAll ds = true ∧ PyData.hasDictAll ds = false ∧ ((PyData.shownAll ds).map (·.length)).sum ≤ ds.length * B ∧ (PyData.shownAll ds).length = ds.length ∧ ds.length = vs.length := by
  induction h with
  | nil => exact ⟨rfl, rfl, Nat.zero_le _, rfl, rfl, by simp [PyData.shownAll], rfl, rfl⟩
  | cons h1 h2 ih =>
    obtain ⟨a1, a2, a3, a4, a5, a6, a7, a8⟩ := ih
    refine ⟨by simp [dataOfs, h1.dat, a1], by simp [PyData.canLayAll0, h1.cl, a2], by simp only [PyData.depthAll]; have := h1.dp; omega, by simp [PyData.showableAll, h1.sh, a4], by simp [PyData.hasDictAll, h1.nd, a5], ?_, by simp [PyData.shownAll, a7], by simp [a8]⟩
    simp only [PyData.shownAll, List.map_cons, List.sum_cons, List.length_cons]
    have := h1.ln
    rw [Nat.succ_mul]; omega
theorem sh_tup {vs : List Val} {ds : List PyData} {k B : Nat} (h : ShL vs ds k B) : Sh (.tup vs) (.tuple ds) (k + 1) (vs.length * (B + 2) + 3) := by
  obtain ⟨a1, a2, a3, a4, a5, a6, a7, a8⟩ := h.facts
  refine ⟨by simp [dataOf, a1], by simp [PyData.canLay0, a2], by simp only [PyData.depth]; omega, by simp [PyData.showable, a4], by simp [PyData.hasDict, a5], ?_⟩
  simp only [PyData.shown]
  have := tupleText_len_le (PyData.shownAll ds)
  rw [a7, a8] at this
  rw [a8] at a6
  rw [Nat.mul_add]; omega
theorem sh_lst {vs : List Val} {ds : List PyData} {k B : Nat} (h : ShL vs ds k B) : Sh (.lst vs) (.list ds) (k + 1) (vs.length * (B + 2) + 3) := by
  obtain ⟨a1, a2, a3, a4, a5, a6, a7, a8⟩ := h.facts
  refine ⟨by simp [dataOf, a1], by simp [PyData.canLay0, a2], by simp only [PyData.depth]; omega, by simp [PyData.showable, a4], by simp [PyData.hasDict, a5], ?_⟩
  simp only [PyData.shown]
  have := listText_len_le (PyData.shownAll ds)
  rw [a7, a8] at this
  rw [a8] at a6
  rw [Nat.mul_add]; omega
theorem Sh.mono {v : Val} {d : PyData} {k k' B B' : Nat} (h : Sh v d k B) (hk : k ≤ k') (hB : B ≤ B') : Sh v d k' B' := ⟨h.dat, h.cl, Nat.le_trans h.dp hk, h.sh, h.nd, Nat.le_trans h.ln hB⟩
theorem shown_tup {xs : List Val} {d : PyData} {k B : Nat} (h : Sh (.tup xs) d k B) (hk : k ≤ 64) (hB : B ≤ 100000) (st : Store) : blt .repr [.tup xs] st = some (.str d.shown) := by
  have hs : SeqAt.shaped d = true := by simp [SeqAt.shaped, h.cl]; have := h.dp; omega
  simp only [blt, shownV, h.dat]
  rw [if_pos ⟨hs, h.sh, h.nd, by have := h.ln; unfold sizeLine; omega⟩]
theorem shown_lst {xs : List Val} {d : PyData} {k B : Nat} (h : Sh (.lst xs) d k B) (hk : k ≤ 64) (hB : B ≤ 100000) (st : Store) : blt .repr [.lst xs] st = some (.str d.shown) := by
  have hs : SeqAt.shaped d = true := by simp [SeqAt.shaped, h.cl]; have := h.dp; omega
  simp only [blt, shownV, h.dat]
  rw [if_pos ⟨hs, h.sh, h.nd, by have := h.ln; unfold sizeLine; omega⟩]
theorem is_tup {xs : List Val} {d : PyData} {k B : Nat} (h : Sh (.tup xs) d k B) (hk : k ≤ 64) (hB : B ≤ 100000) (st : Store) : D_law_is [.tup xs, .tup xs] st = .ok (.bl true) st := by
  simp [D_law_is, b_law_is, runFn, execs, exec, evalEs, evalEo, evalN_lst, evalN_dct, evalIt, popTo_self, e_var, e_lit, e_gcon, e_gfn, e_bin, e_neg, e_cmp, e_isn, e_isb, e_and, e_or, e_not, e_ite, e_tup, e_val, e_cell, e_idx, e_slc, e_blt, e_isi, e_call, e_word, e_mth, e_rev, e_lenset, e_callv, shown_tup h hk hB, cop, eqV]
theorem is_lst {xs : List Val} {d : PyData} {k B : Nat} (h : Sh (.lst xs) d k B) (hk : k ≤ 64) (hB : B ≤ 100000) (st : Store) : D_law_is [.lst xs, .lst xs] st = .ok (.bl true) st := by
  simp [D_law_is, b_law_is, runFn, execs, exec, evalEs, evalEo, evalN_lst, evalN_dct, evalIt, popTo_self, e_var, e_lit, e_gcon, e_gfn, e_bin, e_neg, e_cmp, e_isn, e_isb, e_and, e_or, e_not, e_ite, e_tup, e_val, e_cell, e_idx, e_slc, e_blt, e_isi, e_call, e_word, e_mth, e_rev, e_lenset, e_callv, shown_lst h hk hB, cop, eqV]
end MP.Pk31
set_option maxHeartbeats 400000
/-! law k31: balls, moves -/
namespace MP.Pk31
open PySem L2 MP
open Classical
theorem set_take {α : Type} {xs : List α} {s : Nat} (a : α) (h : s < xs.length) : (cutL xs none (some (s : Int)) ++ [a]) ++ cutL xs (some ((s : Int) + 1)) none = xs.set s a := by
  have e1 : cutL xs none (some (s : Int)) = xs.take s := by
    have : ¬ ((s : Int) < 0) := by omega
    simp only [cutL, HT.sIx, this, if_false, Int.toNat_natCast, Nat.min_eq_left (show s ≤ xs.length by omega), List.drop_zero, Nat.sub_zero]
  have e2 : cutL xs (some ((s : Int) + 1)) none = xs.drop (s + 1) := by
    have : ¬ ((s : Int) + 1 < 0) := by omega
    have e3 : ((s : Int) + 1).toNat = s + 1 := by omega
    simp only [cutL, HT.sIx, this, if_false, e3, Nat.min_eq_left (show s + 1 ≤ xs.length by omega)]
    rw [List.take_of_length_le]
    rw [List.length_drop]; omega
  rw [e1, e2, List.set_eq_take_append_cons_drop, if_pos h]
  simp
/-- o[:i] + (x,) + o[i + 1:] -/
theorem put_t {xs : List Val} (hl : xs.length ≤ 1000) {s : Nat} (hs : s < xs.length) (a : Val) (o i j : E) (env : Env) (st : Store) (h0 : evalE o env st = .ok (.tup xs) st) (h1 : evalE i env st = .ok (.int s) st) (h2 : evalE j env st = .ok a st) :
    evalE (.bin .add (.bin .add (.slc o .none (.some i)) (.tup (.cons j .nil))) (.slc o (.some (.bin .add i (.lit (.int 1)))) .none)) env st = .ok (.tup (xs.set s a)) st := by
  have e1 := cutL_le xs none (some (s : Int))
  have e2 := cutL_le xs (some ((s : Int) + 1)) none
  have t1 := bop_tadd (xs := cutL xs none (some (s : Int))) (ys := [a]) (by simp; unfold sizeLine; omega)
  have t2 := bop_tadd (xs := cutL xs none (some (s : Int)) ++ [a]) (ys := cutL xs (some ((s : Int) + 1)) none) (by simp; unfold sizeLine; omega)
  rw [← set_take a hs]
  have s1 : evalE (.slc o .none (.some i)) env st = .ok (.tup (cutL xs none (some (s : Int)))) st := by
    simp only [e_slc, evalEo, h0, h1, Out.bind_ok, slcV, Out.of_some]
  have s2 : evalE (.slc o (.some (.bin .add i (.lit (.int 1)))) .none) env st = .ok (.tup (cutL xs (some ((s : Int) + 1)) none)) st := by
    simp only [e_slc, evalEo, h0, h1, e_bin, e_lit, bop_add, Out.bind_ok, slcV, Out.of_some]
  have s3 : evalE (.tup (.cons j .nil)) env st = .ok (.tup [a]) st := by
    simp only [e_tup, evalEs, h2, Out.bind_ok, List.length_cons, List.length_nil, show (0 + 1 : Nat) ≤ sizeLine by decide, if_true]
  rw [e_bin, e_bin]
  simp only [s1, s2, s3, Out.bind_ok, t1, Out.of_some, t2]
theorem map_set (hs : List Nat) (s a : Nat) : (hs.map fun (h : Nat) => Val.int (h : Int)).set s (.int (a : Int)) = (hs.set s a).map fun (h : Nat) => Val.int (h : Int) := by rw [List.map_set]
theorem HS.set {sw : List Val} {hs : List Nat} (H : HS sw hs) {s a : Nat} {x : Val} (hx : sw[s]? = some x) (ha : a < exLen x) : HS sw (hs.set s a) where
  len := by rw [List.length_set]; exact H.len
  lt := fun i y h hy hh => by
    by_cases e : s = i
    · subst e
      have hl : s < hs.length := by rw [H.len]; exact (List.getElem?_eq_some_iff.mp hx).1
      rw [List.getElem?_set_self hl] at hh
      cases hh
      rw [hx] at hy; cases hy
      exact ha
    · rw [List.getElem?_set_ne e] at hh
      exact H.lt i y h hy hh
/-- one move: the hands then, where the ball goes -/
structure Mv (sw : List Val) (hs : List Nat) (s : Nat) (hs' : List Nat) (x : Val) : Prop where
  ex : ∃ xs h, sw[s]? = some (.tup xs) ∧ hs[s]? = some h ∧ xs[h]? = some x ∧ hs' = hs.set s ((h + 1) % xs.length)
theorem mv_of {cups : Int} {sw : List Val} (g : GB cups sw) {hs : List Nat} (H : HS sw hs) {s : Nat} (hs1 : s < sw.length) : ∃ hs' x, Mv sw hs s hs' x ∧ HS sw hs' ∧ isPlace cups sw.length x = true := by
  have hx : sw[s]? = some sw[s] := List.getElem?_eq_getElem hs1
  obtain ⟨xs, ex, l1, l4, hp⟩ := g.at_ hx
  rw [ex] at hx
  have hl2 : s < hs.length := by rw [H.len]; exact hs1
  have hh : hs[s]? = some hs[s] := List.getElem?_eq_getElem hl2
  have hlt := H.lt s _ _ hx hh
  simp only [exLen] at hlt
  exact ⟨_, xs[hs[s]], ⟨xs, hs[s], hx, hh, List.getElem?_eq_getElem hlt, rfl⟩, H.set hx (by simp only [exLen]; exact Nat.mod_lt _ l1), List.all_eq_true.mp hp _ (List.getElem_mem hlt)⟩
end MP.Pk31
set_option maxHeartbeats 400000
/-! law k31: what are balls, which can be moved -/
namespace MP.Pk31
open PySem L2 MP
open Classical
def isBalls (cups : Int) (sw : List Val) (v : Val) : Bool := match v with
  | .tup xs => decide ((xs.length : Int) ≤ 60) && xs.all (isPlace cups sw.length)
  | _ => false
theorem plainX_tup {xs : List Val} (h : plainX (.tup xs) = true) : xs.all plain2 = true := by
  simp only [plainX, Bool.and_eq_true] at h; exact h.2
theorem balls_plain {cups : Int} {sw : List Val} {bs : List Val} (h : bs.all (isPlace cups sw.length) = true) : plainX (.tup bs) = true := by
  simp only [plainX, plainV, Bool.true_and]
  exact List.all_eq_true.mpr fun p hp => place_plain (List.all_eq_true.mp h p hp)
/-! ### lists of numbers -/
theorem ints_dat : ∀ l : List Nat, dataOfs (l.map fun (s : Nat) => Val.int (s : Int)) = some (l.map fun (s : Nat) => PyData.int (s : Int)) ∧ PyData.canLayAll0 (l.map fun (s : Nat) => PyData.int (s : Int)) = true ∧ PyData.depthAll (l.map fun (s : Nat) => PyData.int (s : Int)) = 0
  | [] => ⟨rfl, rfl, rfl⟩
  | a :: l => by
    obtain ⟨h1, h2, h3⟩ := ints_dat l
    refine ⟨by simp [dataOfs, dataOf, h1], by simp [PyData.canLayAll0, PyData.canLay0, h2], by simp [PyData.depthAll, PyData.depth, h3]⟩
theorem inV_ints (l : List Nat) (i : Int) (st : Store) : inV (.int i) (.lst (l.map fun (s : Nat) => .int (s : Int))) st = some (decide (∃ s ∈ l, (s : Int) = i)) := by
  obtain ⟨h1, h2, h3⟩ := ints_dat l
  have hs : SeqAt.shaped (.list (l.map fun (s : Nat) => PyData.int (s : Int))) = true := by simp [SeqAt.shaped, PyData.canLay0, h2, PyData.depth, h3]
  have hi : SeqAt.shaped (.int i) = true := by simp [SeqAt.shaped, PyData.canLay0, PyData.depth]
  simp only [inV, seqOf, h1, dataOf]
  rw [if_pos ⟨hi, hs⟩, List.any_map]
  congr 1
  rw [Bool.eq_iff_iff, List.any_eq_true, decide_eq_true_eq]
  constructor
  · rintro ⟨s, hs, h⟩; exact ⟨s, hs, by simpa [PyData.eqv] using h⟩
  · rintro ⟨s, hs, h⟩; exact ⟨s, hs, by simp [PyData.eqv, h]⟩
noncomputable def freeP (sw : List Val) (v : Val) : Bool := match v with
  | .tup [.str w, .int i] => decide (w = "switch") && !decide (∃ s ∈ lostL sw, (s : Int) = i)
  | _ => false
theorem enumUp_eq (xs : List Val) : enumUp xs = (List.range xs.length).map fun (i : Nat) => Val.tup [.int (i : Int), xs.getD i .non] := by
  apply List.ext_getElem?
  intro i
  unfold enumUp
  rw [List.getElem?_map, List.getElem?_zipIdx, List.getElem?_map]
  by_cases h : i < xs.length
  · rw [List.getElem?_range h, List.getElem?_eq_getElem h]
    simp [List.getD_eq_getElem?_getD, h]
  · rw [List.getElem?_eq_none (by omega), List.getElem?_eq_none (by simpa using h)]; rfl
/-- the numbers of the balls that can be moved -/
noncomputable def freeN (sw bs : List Val) : List Nat := (List.range bs.length).filter fun i => freeP sw (bs.getD i .non)
noncomputable abbrev freeV (sw bs : List Val) : List Val := (freeN sw bs).map fun (i : Nat) => .int (i : Int)
noncomputable def freeE (sw : List Val) (v : Val) : Bool := match v with
  | .tup [_, p] => freeP sw p
  | _ => false
def fstV (v : Val) : Val := match v with
  | .tup [i, _] => i
  | _ => .non
theorem free_eq (sw bs : List Val) : ((enumUp bs).filter (freeE sw)).map fstV = freeV sw bs := by
  rw [enumUp_eq, List.filter_map, List.map_map]
  rfl
theorem enum_place {cups : Int} {sw bs : List Val} (h : bs.all (isPlace cups sw.length) = true) {x : Val} (hx : x ∈ enumUp bs) : ∃ (i : Nat) (p : Val), x = .tup [.int i, p] ∧ isPlace cups sw.length p = true := by
  obtain ⟨s, y, rfl, hs⟩ := enum_mem hx
  exact ⟨s, y, rfl, List.all_eq_true.mp h y (List.mem_of_getElem? hs)⟩
theorem enum_len (bs : List Val) : (enumUp bs).length = bs.length := by simp [enumUp]
theorem balls_ok {cups : Int} {sw bs : List Val} (h : bs.all (isPlace cups sw.length) = true) (hl : bs.length ≤ 60) : isBalls cups sw (.tup bs) = true := by
  simp only [isBalls, h, Bool.and_true, decide_eq_true_eq]; omega
end MP.Pk31
set_option maxHeartbeats 400000
/-! law k31: a ball moved; balls drawn, words, things that are none -/
namespace MP.Pk31
open PySem L2 MP
open Classical
theorem free_at {cups : Int} {sw bs : List Val} (h : bs.all (isPlace cups sw.length) = true) {i : Nat} (hi : i ∈ freeN sw bs) : ∃ s, bs[i]? = some (swp s) ∧ s < sw.length ∧ freeP sw (swp s) = true := by
  obtain ⟨h1, h2⟩ := List.mem_filter.mp hi
  have hl := List.mem_range.mp h1
  have e : bs[i]? = some bs[i] := List.getElem?_eq_getElem hl
  have eD : bs.getD i .non = bs[i] := by rw [List.getD_eq_getElem?_getD, e]; rfl
  rw [eD] at h2
  have hp := List.all_eq_true.mp h bs[i] (List.getElem_mem hl)
  rcases place_form hp with ⟨t, ht, e2⟩ | ⟨c, _, e2⟩
  · rw [e2] at h2 e
    exact ⟨t, e, ht, h2⟩
  · rw [e2] at h2
    have : ¬ (PySem.Str.ofString "cup" = PySem.Str.ofString "switch") := by decide
    simp [freeP, cpp, this] at h2
theorem free_lt {sw bs : List Val} {i : Nat} (hi : i ∈ freeN sw bs) : i < bs.length := List.mem_range.mp (List.mem_filter.mp hi).1
theorem free_mem {sw bs : List Val} {i s : Nat} (h1 : bs[i]? = some (swp s)) (h2 : freeP sw (swp s) = true) : i ∈ freeN sw bs := by
  have hl : i < bs.length := (List.getElem?_eq_some_iff.mp h1).1
  refine List.mem_filter.mpr ⟨List.mem_range.mpr hl, ?_⟩
  rw [List.getD_eq_getElem?_getD, h1]; exact h2
theorem all_set {cups : Int} {sw bs : List Val} (h : bs.all (isPlace cups sw.length) = true) {x : Val} (hx : isPlace cups sw.length x = true) (i : Nat) : (bs.set i x).all (isPlace cups sw.length) = true := by
  refine List.all_eq_true.mpr fun y hy => ?_
  rcases List.mem_or_eq_of_mem_set hy with z | z
  · exact List.all_eq_true.mp h y z
  · rw [z]; exact hx
theorem inV_free (sw bs : List Val) (i : Int) (st : Store) : inV (.int i) (.lst (freeV sw bs)) st = some (decide (∃ s ∈ freeN sw bs, (s : Int) = i)) := inV_ints (freeN sw bs) i st
theorem mem_nat (l : List Nat) (i : Nat) : decide (∃ s ∈ l, (s : Int) = (i : Int)) = decide (i ∈ l) := by
  rw [decide_eq_decide]
  constructor
  · rintro ⟨s, hs, e⟩
    have : s = i := by omega
    rw [← this]; exact hs
  · intro h; exact ⟨i, h, rfl⟩
/-! ### balls drawn -/
theorem places_mem {cups : Nat} {sw : List Val} {v : Val} (h : v ∈ cupsV cups ++ swsV sw.length) : isPlace cups sw.length v = true := by
  rcases List.mem_append.mp h with z | z
  · unfold cupsV rangeVs at z
    simp only [List.map_map, List.mem_map, List.mem_range] at z
    obtain ⟨c, hc, rfl⟩ := z
    simp [isPlace, cup_ne, within]; omega
  · unfold swsV rangeVs at z
    simp only [List.map_map, List.mem_map, List.mem_range] at z
    obtain ⟨c, hc, rfl⟩ := z
    simp [isPlace, within]; omega
end MP.Pk31
set_option maxHeartbeats 400000
/-! law k31: words, wrong things, what is shown -/
namespace MP.Pk31
open PySem L2 MP
def noBoards : List Val := [.non, .tup [], .str "?", .int 0, .tup [.int 1, .tup []], .tup [.int 0, .tup [.tup [.tup [.str "switch", .int 0]]]], .tup [.int 5, .tup [.tup [.tup [.str "cup", .int 0]]]], .tup [.int 1, .tup [.tup []]],
  .lst [.int 1, .tup [.tup [.tup [.str "cup", .int 0]]]], .tup [.int 1, .tup [.tup [.tup [.str "cup", .int 1]]]], .tup [.int 1, .tup [.tup [.tup [.str "switch", .int 1]]]],
  .tup [.int 1, .tup [.tup (List.replicate 5 [Val.tup [.str "cup", .int 0]]).flatten]], .tup [.int 1, .tup (List.replicate 25 [Val.tup [.tup [.str "cup", .int 0]]]).flatten],
  .tup [.int 1, .lst [.tup [.tup [.str "cup", .int 0]]]], .tup [.bl true, .tup [.tup [.tup [.str "cup", .int 0]]]], .tup [.int 1, .tup [.tup [.tup [.str "cups", .int 0]]]], .dK []]
theorem noBoards_ok : (noBoards.all fun v => plain3 v && !isBoard v && noRef v) = true := by decide +kernel
theorem no_board_s {n : Nat} {hc : Cell} (h : IsH n hc) (hn : n < 1000000000000) (st : Store) :
    ∃ (v : Val) (hc' : Cell), D_law_no_board [.ref 0] (hc :: st) = .ok v (hc' :: st) ∧ plain3 v = true ∧ isBoard v = false ∧ IsH (n + 1) hc' := by
  obtain ⟨v, hc', e, hv, ih⟩ := law_some_s h hn noBoards (by simp [noBoards]) (by simp [noBoards]) (by decide +kernel) st
  have hp := List.all_eq_true.mp noBoards_ok v hv
  simp only [Bool.and_eq_true, Bool.not_eq_true'] at hp
  refine ⟨v, hc', ?_, hp.1.1, hp.1.2, ih⟩
  have pp := pop_hand (hc := hc) (st := st) ih hp.2
  simp only [noBoards] at e
  simp [List.replicate] at e
  simp [D_law_no_board, b_law_no_board, runFn, execs, exec, evalEs, evalEo, evalN_lst, evalN_dct, evalIt, popTo_self, e_var, e_lit, e_gcon, e_gfn, e_bin, e_neg, e_cmp, e_isn, e_isb, e_and, e_or, e_not, e_ite, e_tup, e_val, e_cell, e_idx, e_slc, e_blt, e_isi, e_call, e_word, e_mth, e_rev, e_lenset, e_callv, sizeLine, bop, List.replicate, e, pp]
theorem sh_big : ∀ i : _root_.Fin 1100, (PyData.shown (.int (i.val : Int))).length ≤ 5 ∧ (PyData.int (i.val : Int)).showable = true := by decide +kernel
theorem sh_num {n : Nat} (h : n < 1100) : Sh (.int n) (.int n) 0 5 :=
  ⟨rfl, rfl, Nat.le_refl _, (sh_big ⟨n, h⟩).2, rfl, (sh_big ⟨n, h⟩).1⟩
theorem shl_nats : ∀ {hs : List Nat}, (∀ h ∈ hs, h < 4) → ShL (hs.map fun (h : Nat) => Val.int (h : Int)) (hs.map fun (h : Nat) => PyData.int (h : Int)) 0 5
  | [], _ => .nil
  | h :: hs, q => .cons (sh_num (by have := q h (.head _); omega)) (shl_nats fun x hx => q x (.tail _ hx))
theorem sh_hv {hs : List Nat} (h : ∀ x ∈ hs, x < 4) (hl : hs.length ≤ 50) : ∃ d, Sh (hv hs) d 1 400 := by
  refine ⟨_, (sh_tup (shl_nats h)).mono (Nat.le_refl _) ?_⟩
  rw [List.length_map]; omega
theorem sh_w : ∀ w : PySem.Str, (w = "switch" ∨ w = "cup") → Sh (.str w) (.str w) 0 10 := by
  intro w hw
  rcases hw with rfl | rfl
  · exact ⟨rfl, by decide +kernel, by decide, by decide +kernel, rfl, by decide +kernel⟩
  · exact ⟨rfl, by decide +kernel, by decide, by decide +kernel, rfl, by decide +kernel⟩
theorem place_num {c : Int} {m : Nat} {v : Val} (hc : c ≤ 4) (hm : m ≤ 24) (h : isPlace c m v = true) : ∃ (w : PySem.Str) (i : Nat), v = .tup [.str w, .int i] ∧ (w = "switch" ∨ w = "cup") ∧ i < 100 := by
  obtain ⟨w, i, rfl, hw⟩ := place_inv h
  simp only [isPlace] at h
  split at h
  · simp [within] at h
    obtain ⟨i, rfl⟩ := Int.eq_ofNat_of_zero_le h.1
    exact ⟨w, i, rfl, hw, by omega⟩
  · simp [within] at h
    obtain ⟨i, rfl⟩ := Int.eq_ofNat_of_zero_le h.2.1
    exact ⟨w, i, rfl, hw, by omega⟩
theorem GB.cups {cups : Int} {sw : List Val} (g : GB cups sw) : 1 ≤ cups ∧ cups ≤ 4 := by
  have := g.parts.1
  simpa [within] using this
theorem sh_place {cups : Int} {sw : List Val} (g : GB cups sw) {v : Val} (h : isPlace cups sw.length v = true) : ∃ d, Sh v d 1 40 := by
  obtain ⟨w, i, rfl, hw, hi⟩ := place_num g.cups.2 g.len.2 h
  exact ⟨_, (sh_tup (.cons (sh_w w hw) (.cons ((sh_int hi).mono (Nat.le_refl _) (by decide)) .nil))).mono (Nat.le_refl _) (by simp)⟩
theorem is_two {a b : Val} {da db : PyData} {k B : Nat} (ha : Sh a da k B) (hb : Sh b db k B) (hk : k ≤ 50) (hB : B ≤ 10000) (st : Store) : D_law_is [.lst [a, b], .lst [a, b]] st = .ok (.bl true) st :=
  is_lst (sh_lst (.cons ha (.cons hb .nil))) (by omega) (by simp; omega) st
/-! things that are no hands -/
theorem rep_bad {cups : Int} {sw : List Val} (g : GB cups sw) {v : Val} (hb : ∀ k : Nat, k ≤ 4 → within v 0 ((k : Int) - 1) = false) : isHands sw (.tup (List.replicate sw.length v)) = false := by
  have hl := g.len.1
  cases sw with
  | nil => simp at hl
  | cons x sw =>
    obtain ⟨xs, rfl, l1, l4, _⟩ := exits_inv (List.all_eq_true.mp g.parts.2.2 x (.head _))
    simp [isHands, List.replicate_succ, pairUp, inHand, hb xs.length l4]
theorem plain_rep {v : Val} (h : plainV v = true) (n : Nat) : plain2 (.tup (List.replicate n v)) = true := by
  simp only [plain2]
  exact List.all_eq_true.mpr fun x hx => by rw [(List.mem_replicate.mp hx).2]; exact h
theorem noRef_rep {v : Val} (h : noRef v = true) (n : Nat) : noRef (.tup (List.replicate n v)) = true := by
  simp only [noRef]
  exact noRefs_all fun x hx => by rw [(List.mem_replicate.mp hx).2]; exact h
def plB (cups : Int) (m : Nat) : List Val := [.non, .str "?", .int 0, .lst [.tup [.str "cup", .int 0]], .tup [.tup [.str "cup", .int cups]], .tup [.tup [.str "switch", .int m]], .tup (List.replicate 61 (.tup [.str "cup", .int 0])), .tup [.non], .dK [], .tup [.tup [.str "cup", .bl true]], .tup [.str "cup", .int 0]]
theorem noballs_ok (cups : Int) (sw : List Val) : ∀ v ∈ plB cups sw.length, plainX v = true ∧ isBalls cups sw v = false ∧ noRef v = true := by
  intro v hv
  simp only [plB, List.mem_cons, List.not_mem_nil, or_false] at hv
  rcases hv with rfl | rfl | rfl | rfl | rfl | rfl | rfl | rfl | rfl | rfl | rfl
  · exact ⟨rfl, rfl, rfl⟩
  · exact ⟨rfl, rfl, rfl⟩
  · exact ⟨rfl, rfl, rfl⟩
  · exact ⟨rfl, rfl, rfl⟩
  · refine ⟨rfl, ?_, rfl⟩
    simp [isBalls, isPlace, cup_ne, within]; omega
  · refine ⟨rfl, ?_, rfl⟩
    simp [isBalls, isPlace, within]; omega
  · refine ⟨?_, ?_, noRef_rep rfl _⟩
    · simp only [plainX, plainV, Bool.true_and]
      exact List.all_eq_true.mpr fun x hx => by rw [(List.mem_replicate.mp hx).2]; rfl
    · simp [isBalls]
  · exact ⟨rfl, rfl, rfl⟩
  · exact ⟨rfl, rfl, rfl⟩
  · refine ⟨rfl, ?_, rfl⟩
    simp [isBalls, isPlace, cup_ne, within]
  · exact ⟨rfl, rfl, rfl⟩
theorem shl_nums : ∀ {hs : List Nat}, (∀ h ∈ hs, h < 1000) → ShL (hs.map fun (h : Nat) => Val.int (h : Int)) (hs.map fun (h : Nat) => PyData.int (h : Int)) 0 5
  | [], _ => .nil
  | h :: hs, q => .cons (sh_num (by have := q h (.head _); omega)) (shl_nums fun x hx => q x (.tail _ hx))
theorem sh_nums {hs : List Nat} (h : ∀ x ∈ hs, x < 1000) (hl : hs.length ≤ 60) : ∃ d, Sh (.tup (hs.map fun (h : Nat) => Val.int (h : Int))) d 1 500 := by
  refine ⟨_, (sh_tup (shl_nums h)).mono (Nat.le_refl _) ?_⟩
  rw [List.length_map]; omega
theorem shl_places {cups : Int} {sw : List Val} (g : GB cups sw) : ∀ {bs : List Val}, bs.all (isPlace cups sw.length) = true → ∃ ds, ShL bs ds 1 40
  | [], _ => ⟨[], .nil⟩
  | b :: bs, h => by
    simp only [List.all_cons, Bool.and_eq_true] at h
    obtain ⟨d, s⟩ := sh_place g h.1
    obtain ⟨ds, ss⟩ := shl_places g h.2
    exact ⟨d :: ds, .cons s ss⟩
theorem sh_balls {cups : Int} {sw : List Val} (g : GB cups sw) {bs : List Val} (h : bs.all (isPlace cups sw.length) = true) (hl : bs.length ≤ 60) : ∃ d, Sh (.tup bs) d 2 3000 := by
  obtain ⟨ds, ss⟩ := shl_places g h
  exact ⟨_, (sh_tup ss).mono (Nat.le_refl _) (by omega)⟩
theorem eq_sh {xs : List Val} {d : PyData} {k B : Nat} (h : Sh (.tup xs) d k B) (hk : k ≤ 64) : eqV (.tup xs) (.tup xs) = some true := by
  have hs : SeqAt.shaped d = true := by simp [SeqAt.shaped, h.cl]; have := h.dp; omega
  simp only [eqV, eqD, h.dat]
  rw [if_pos ⟨hs, hs⟩, PySem.SeqAt.eqv_refl _ h.cl]
theorem sh_pair2 {a b : Val} {da db : PyData} {k B : Nat} (ha : Sh a da k B) (hb : Sh b db k B) : ∃ d, Sh (.tup [a, b]) d (k + 1) (2 * (B + 2) + 3) := ⟨_, sh_tup (.cons ha (.cons hb .nil))⟩
theorem mv_comm {sw : List Val} {hs hs1 hs2 : List Nat} {s t : Nat} {x y : Val} (h1 : Mv sw hs s hs1 x) (h2 : Mv sw hs t hs2 y) (ne : s ≠ t) : ∃ h12, Mv sw hs1 t h12 y ∧ Mv sw hs2 s h12 x := by
  obtain ⟨xs, a, a1, a2, a3, rfl⟩ := h1.ex
  obtain ⟨ys, b, b1, b2, b3, rfl⟩ := h2.ex
  refine ⟨(hs.set s ((a + 1) % xs.length)).set t ((b + 1) % ys.length), ⟨ys, b, b1, by rw [List.getElem?_set_ne ne]; exact b2, b3, rfl⟩, ⟨xs, a, a1, by rw [List.getElem?_set_ne (Ne.symm ne)]; exact a2, a3, ?_⟩⟩
  exact List.set_comm _ _ ne
end MP.Pk31
set_option maxHeartbeats 400000
/-! law k31: the walks of _law_right -/
namespace MP.Pk31
open PySem L2 MP
open Classical
noncomputable abbrev envR (cups : Int) (sw : List Val) (hs : List Nat) (bs : List Val) (o3 o4 o5 o8 o9 o10 o11 o12 o13 o14 o15 : Option Val) : Env := [some (.ref 0), some (bd cups sw), some (.lst (freeV sw bs)), o3, o4, o5, some (hv hs), some (.tup bs), o8, o9, o10, o11, o12, o13, o14, o15]
/-- what stands in a turn of the outer walk -/
structure Tn (cups : Int) (sw : List Val) (hs : List Nat) (bs : List Val) (i s : Nat) (hs1 : List Nat) (x : Val) : Prop where
  H : HS sw hs
  bo : bs.all (isPlace cups sw.length) = true
  bl : bs.length ≤ 6
  fi : i ∈ freeN sw bs
  bi : bs[i]? = some (swp s)
  sl : s < sw.length
  mv : Mv sw hs s hs1 x
  h1 : HS sw hs1
  xp : isPlace cups sw.length x = true
noncomputable def jP (bs : List Val) (i s : Nat) (v : Val) : Bool := match v with
  | .int k => (match bs[k.toNat]? with
    | some (.tup [_, .int t]) => decide (t ≠ (s : Int)) && decide ((i : Int) < k)
    | _ => false)
  | _ => false
end MP.Pk31
set_option maxHeartbeats 400000
/-! law k31: _law_right -/
namespace MP.Pk31
open PySem L2 MP
open Classical
noncomputable def restN (sw bs : List Val) : List Nat := (List.range bs.length).filter fun i => !decide (i ∈ freeN sw bs)
noncomputable def badI (sw bs : List Val) : List Val := (restN sw bs).map (fun (i : Nat) => Val.int (i : Int)) ++ [.int (-1), .int bs.length, .non, .str "0", .bl true, .tup [.int 0]]
theorem badI_ok (sw bs : List Val) : ∀ v ∈ badI sw bs, plainV v = true ∧ (isIntV v = false ∨ ∃ j : Int, v = .int j ∧ ∀ k ∈ freeN sw bs, (k : Int) ≠ j) ∧ noRef v = true := by
  intro v hm
  rcases List.mem_append.mp hm with z | z
  · obtain ⟨i, hi, rfl⟩ := List.mem_map.mp z
    have := (List.mem_filter.mp hi).2
    simp only [Bool.not_eq_true', decide_eq_false_iff_not] at this
    exact ⟨rfl, .inr ⟨i, rfl, fun k hk e => this (by have : k = i := by omega
                                                     rw [← this]; exact hk)⟩, rfl⟩
  · simp only [List.mem_cons, List.not_mem_nil, or_false] at z
    rcases z with rfl | rfl | rfl | rfl | rfl | rfl
    · exact ⟨rfl, .inr ⟨-1, rfl, fun k _ e => by omega⟩, rfl⟩
    · exact ⟨rfl, .inr ⟨bs.length, rfl, fun k hk e => by have := free_lt hk; omega⟩, rfl⟩
    · exact ⟨rfl, .inl rfl, rfl⟩
    · exact ⟨rfl, .inl rfl, rfl⟩
    · exact ⟨rfl, .inl rfl, rfl⟩
    · exact ⟨rfl, .inl rfl, rfl⟩
end MP.Pk31
set_option maxHeartbeats 400000
/-! law k31: the law's own walk -/
namespace MP.Pk31
open PySem L2 MP
theorem p36 : bop .pow (.int 10) (.int 36) = some (.int 1000000000000000000000000000000000000) := by
  rw [bop_pow (by decide) (by decide) (by decide)]; rfl
def cellsOf (ns : List Int) : List Int := (cutL ns none (some 63)).map fun z => (if z < 0 then -z else z) % 1000000000000000000000000000000000000
theorem cut_len {ns : List Int} : (cutL ns none (some 63)).length ≤ ns.length := by
  unfold cutL
  rw [List.length_take, List.length_drop]; omega
theorem law_hand_s (ns : List Int) (h : ns.length ≤ 63) : ∃ hc, D_law_hand [.slst ns] [] = .ok (.ref 0) [hc] ∧ IsH 0 hc := by
  have hl := cut_len (ns := ns)
  have k0 : evalN c_law_hand_0 [some (.slst ns), none, none] [] = .ok (.lst ((cellsOf ns).map .int)) [] := by
    have := comp_map (e := .bin .mod (.blt .int (.cons (.blt .abs (.cons (.blt .int (.cons (.var 2) .nil)) .nil)) .nil)) (.bin .pow (.lit (.int 10)) (.lit (.int 36)))) (t := .name 2) (it := .seq (.slc (.var 0) .none (.some (.lit (.int 63))))) (own := [("cell", 2)]) (env := [some (.slst ns), none, none]) (st := []) (items := (cutL ns none (some 63)).map .int) (g := fun v => match v with | .int z => .int ((if z < 0 then -z else z) % 1000000000000000000000000000000000000) | _ => .non) (by simp [evalIt, runFn, execs, exec, evalEs, evalEo, evalN_lst, evalN_dct, evalIt, popTo_self, e_var, e_lit, e_gcon, e_gfn, e_bin, e_neg, e_cmp, e_isn, e_isb, e_and, e_or, e_not, e_ite, e_tup, e_val, e_cell, e_idx, e_slc, e_blt, e_isi, e_call, e_word, e_mth, e_rev, e_lenset, e_callv, slcV, walkSeq]) (fun v hv => by
      obtain ⟨z, _, rfl⟩ := List.mem_map.mp hv
      refine ⟨_, rfl, ?_⟩
      simp [runFn, execs, exec, evalEs, evalEo, evalN_lst, evalN_dct, evalIt, popTo_self, e_var, e_lit, e_gcon, e_gfn, e_bin, e_neg, e_cmp, e_isn, e_isb, e_and, e_or, e_not, e_ite, e_tup, e_val, e_cell, e_idx, e_slc, e_blt, e_isi, e_call, e_word, e_mth, e_rev, e_lenset, e_callv, wipeE, blt, p36, bop_mod (j := 1000000000000000000000000000000000000) (by decide)]) (by rw [List.length_map]; unfold sizeLine; omega)
    rw [List.map_map] at this
    unfold c_law_hand_0
    rw [this]
    simp [cellsOf, Function.comp_def]
  have lc : (cellsOf ns).length ≤ 63 := by simp only [cellsOf, List.length_map]; omega
  refine ⟨hcell (cellsOf ns) 0 0 (499 + 239 * (cellsOf ns).length) 0, ?_, ⟨cellsOf ns, 0, 0, _, 0, rfl, ⟨fun z hz => ?_, by decide, by omega, by omega, by decide, by decide⟩⟩⟩
  · have pp : ∀ c : Cell, popTo [] [c] (some (.ref 0)) = [c] := fun c => by
      unfold popTo
      rw [if_neg (fun z => by have := z.1 _ rfl; simp [noRef] at this)]
    simp [D_law_hand, b_law_hand, runFn, execs, exec, evalEs, evalEo, evalN_lst, evalN_dct, evalIt, popTo_self, e_var, e_lit, e_gcon, e_gfn, e_bin, e_neg, e_cmp, e_isn, e_isb, e_and, e_or, e_not, e_ite, e_tup, e_val, e_cell, e_idx, e_slc, e_blt, e_isi, e_call, e_word, e_mth, e_rev, e_lenset, e_callv, k0, sizeLine, blt, len_cells, bop_add, bop_mulL (i := 239) (by decide) (by decide), pp]
  · unfold cellsOf at hz
    obtain ⟨w, _, rfl⟩ := List.mem_map.mp hz
    exact Int.emod_nonneg _ (by decide)
def noHs (m : Nat) : List Val := [.non, .tup [], .str "?", .lst [.int 0], .tup (List.replicate m (.int 4)), .tup (List.replicate m (.int (-1)))]
theorem noHs_ok {cups : Int} {sw : List Val} (g : GB cups sw) : ∀ v ∈ noHs sw.length, plain2 v = true ∧ isHands sw v = false ∧ noRef v = true := by
  intro v hm
  have hl := g.len.1
  simp only [noHs, List.mem_cons, List.not_mem_nil, or_false] at hm
  rcases hm with rfl | rfl | rfl | rfl | rfl | rfl
  · exact ⟨rfl, rfl, rfl⟩
  · refine ⟨rfl, ?_, rfl⟩
    simp [isHands]; omega
  · exact ⟨rfl, rfl, rfl⟩
  · exact ⟨rfl, rfl, rfl⟩
  · exact ⟨plain_rep rfl _, rep_bad g fun k hk => by simp [within]; omega, noRef_rep rfl _⟩
  · exact ⟨plain_rep rfl _, rep_bad g fun k hk => by simp [within], noRef_rep rfl _⟩
end MP.Pk31
set_option maxHeartbeats 400000
/-! MPDd: walks and comprehensions over the values of some things. -/
namespace MP
open PySem L2
open Classical
section
variable {α : Type} {v : α → Val}
theorem forL_dd {f : Val → Env → Store → Res} {P : List α → Env → Store → Prop} {all : List α} (hf : ∀ d1 d d2 env st, all = d1 ++ d :: d2 → P d1 env st → ∃ env' st', f (v d) env st = .nx env' st' ∧ P (d1 ++ [d]) env' st') :
    ∀ (d2 d1 : List α) (env : Env) (st : Store), all = d1 ++ d2 → P d1 env st → ∃ env' st', forL f (d2.map v) env st = .nx env' st' ∧ P all env' st'
  | [], d1, env, st, e, h => by
    rw [List.append_nil] at e
    subst e
    exact ⟨env, st, rfl, h⟩
  | d :: d2, d1, env, st, e, h => by
    obtain ⟨env', st', e1, h'⟩ := hf d1 d d2 env st e h
    obtain ⟨env2, st2, e2, h2⟩ := forL_dd hf d2 (d1 ++ [d]) env' st' (by rw [e]; simp) h'
    exact ⟨env2, st2, by simp only [List.map_cons, forL, e1, e2], h2⟩
theorem forL_ddA {f : Val → Env → Store → Res} {P : List α → Env → Store → Prop} {all : List α} {env : Env} {st : Store} (h : P [] env st) (hf : ∀ d1 d d2 env st, all = d1 ++ d :: d2 → P d1 env st → ∃ env' st', f (v d) env st = .nx env' st' ∧ P (d1 ++ [d]) env' st') :
    ∃ env' st', forL f (all.map v) env st = .nx env' st' ∧ P all env' st' := forL_dd hf all [] env st rfl h
theorem compL_dd {f : Val → Store → Out (Option Val)} {w : α → Val} {st : Store} : ∀ {F : List α} {acc : List Val}, (∀ o ∈ F, f (v o) st = .ok (some (w o)) st) → acc.length + F.length ≤ sizeLine → compL f (F.map v) acc st = .ok (acc ++ F.map w) st
  | [], acc, _, _ => by simp [compL]
  | x :: xs, acc, hf, hl => by
    simp only [List.map_cons, compL, hf x List.mem_cons_self, Out.noExc, Out.bind_ok]
    simp only [List.length_cons] at hl
    rw [if_pos (by omega), compL_dd (fun y hy => hf y (List.mem_cons_of_mem _ hy)) (by simp; omega)]
    simp
theorem compL_ddf {f : Val → Store → Out (Option Val)} {w : α → Val} {p : α → Bool} {st : Store} : ∀ {F : List α} {acc : List Val}, (∀ o ∈ F, f (v o) st = .ok (if p o = true then some (w o) else none) st) → acc.length + F.length ≤ sizeLine → compL f (F.map v) acc st = .ok (acc ++ (F.filter p).map w) st
  | [], acc, _, _ => by simp [compL]
  | x :: xs, acc, hf, hl => by
    simp only [List.map_cons, compL, hf x List.mem_cons_self, Out.noExc, Out.bind_ok]
    simp only [List.length_cons] at hl
    cases hp : p x with
    | true =>
      simp only [if_true]
      rw [if_pos (by omega), compL_ddf (fun y hy => hf y (List.mem_cons_of_mem _ hy)) (by simp; omega)]
      simp [hp]
    | false =>
      simp only [Bool.false_eq_true, if_false]
      rw [compL_ddf (fun y hy => hf y (List.mem_cons_of_mem _ hy)) (by omega)]
      simp [hp]
theorem comp_dd {e : E} {t : Tgt} {it : It} {own : List (PySem.Str × Nat)} {env : Env} {st : Store} {F : List α} {w : α → Val} (hi : evalIt it env st = .ok (F.map v) st)
    (hf : ∀ o ∈ F, ∃ env', bindT t (v o) (wipeE env (own.map (·.2))) = some env' ∧ evalE e env' st = .ok (w o) st) (hl : F.length ≤ sizeLine) : evalN (.comp e t it .none own) env st = .ok (.lst (F.map w)) st := by
  simp only [evalN, hi, Out.bind_ok]
  rw [compL_dd (w := w) (fun x hx => ?_) (by simpa using hl)]
  · simp
  · obtain ⟨env', e1, e2⟩ := hf x hx
    simp only [e1, evalC, Out.bind_ok, if_true, e2]
theorem comp_ddf {e c : E} {t : Tgt} {it : It} {own : List (PySem.Str × Nat)} {env : Env} {st : Store} {F : List α} {w : α → Val} {p : α → Bool} (hi : evalIt it env st = .ok (F.map v) st)
    (hf : ∀ o ∈ F, ∃ env', bindT t (v o) (wipeE env (own.map (·.2))) = some env' ∧ evalE c env' st = .ok (.bl (p o)) st ∧ (p o = true → evalE e env' st = .ok (w o) st)) (hl : F.length ≤ sizeLine) : evalN (.comp e t it (.some c) own) env st = .ok (.lst ((F.filter p).map w)) st := by
  simp only [evalN, hi, Out.bind_ok]
  rw [compL_ddf (w := w) (p := p) (fun x hx => ?_) (by simpa using hl)]
  · simp
  · obtain ⟨env', e1, e2, e3⟩ := hf x hx
    simp only [e1, evalC, Out.bind_ok, e2, truth, Out.of_some]
    cases hp : p x with
    | true => simp [hp, e3 hp]
    | false => simp [hp]
theorem putA_new {κ : Type} [DecidableEq κ] {acc : List (κ × Val)} {k : κ} {x : Val} (h : k ∉ acc.map (·.1)) : putA acc k x = acc ++ [(k, x)] := by
  unfold putA
  rw [if_neg]
  intro z
  obtain ⟨p, hp, e⟩ := List.any_eq_true.mp z
  exact h (List.mem_map.mpr ⟨p, hp, of_decide_eq_true e⟩)
theorem compD_dd {f : Val → Store → Out (Option (L2.Key × Val))} {key : α → L2.Key} {w : α → Val} {st : Store} : ∀ {F : List α} {acc : List (L2.Key × Val)}, (∀ o ∈ F, f (v o) st = .ok (some (key o, w o)) st) → (acc.map (·.1) ++ F.map key).Nodup → acc.length + F.length ≤ sizeLine → compD f (F.map v) acc st = .ok (acc ++ F.map fun o => (key o, w o)) st
  | [], acc, _, _, _ => by simp [compD]
  | x :: xs, acc, hf, hn, hl => by
    simp only [List.map_cons, compD, hf x List.mem_cons_self, Out.noExc, Out.bind_ok]
    simp only [List.length_cons] at hl
    have hx : key x ∉ acc.map (·.1) := fun z => by
      have := (List.nodup_append.mp hn).2.2 _ z _ (by simp : key x ∈ (x :: xs).map key)
      exact this rfl
    rw [if_pos (by omega), putA_new hx, compD_dd (fun y hy => hf y (List.mem_cons_of_mem _ hy)) (by simpa using hn) (by simp; omega)]
    simp
theorem dcomp_dd {k e : E} {t : Tgt} {it : It} {own : List (PySem.Str × Nat)} {env : Env} {st : Store} {F : List α} {key : α → L2.Key} {w : α → Val} (hi : evalIt it env st = .ok (F.map v) st)
    (hf : ∀ o ∈ F, ∃ env' kv, bindT t (v o) (wipeE env (own.map (·.2))) = some env' ∧ evalE k env' st = .ok kv st ∧ keyOf kv = some (key o) ∧ evalE e env' st = .ok (w o) st) (hn : (F.map key).Nodup) (hl : F.length ≤ sizeLine) :
    evalN (.dcomp k e t it .none own) env st = .ok (.dK (F.map fun o => (key o, w o))) st := by
  simp only [evalN, hi, Out.bind_ok]
  rw [compD_dd (key := key) (w := w) (fun x hx => ?_) (by simpa using hn) (by simpa using hl)]
  · simp
  · obtain ⟨env', kv, e1, e2, e3, e4⟩ := hf x hx
    simp only [e1, evalC, Out.bind_ok, if_true, e2, e3, Out.of_some, e4]
end
end MP
set_option maxHeartbeats 1000000
/-! law k31: how many balls go along each exit -/
namespace MP.Pk31
open PySem L2 MP
open Classical
abbrev iv (ns : List Int) : Val := .tup (ns.map Val.int)
theorem ahead_iff : ∀ n h a r : _root_.Fin 5, h.val < n.val → a.val < n.val → r.val < n.val → ((List.range r.val).any fun t => decide ((h.val + t) % n.val = a.val)) = decide ((a.val + n.val - h.val) % n.val < r.val) := by decide +kernel
/-- along exit e of n, from hand h on, of m moves -/
def flE (n h : Nat) (m : Int) (e : Nat) : Int := m / n + (if (e + n - h) % n < (m % n).toNat then 1 else 0)
theorem back_iff : ∀ n h e : _root_.Fin 5, h.val < n.val → e.val < n.val → ((e.val : Int) - h.val) % n.val = (((e.val + n.val - h.val) % n.val : Nat) : Int) := by decide +kernel
theorem fl_law {n h e : Nat} (n1 : 1 ≤ n) (n4 : n ≤ 4) (hh : h < n) (he : e < n) {m : Int} (m0 : 0 ≤ m) : (if m - ((e : Int) - h) % n + n - 1 > 0 then m - ((e : Int) - h) % n + n - 1 else 0) / n = flE n h m e := by
  have b := back_iff ⟨n, by omega⟩ ⟨h, by omega⟩ ⟨e, by omega⟩ hh he
  simp only at b
  rw [b]
  unfold flE
  have lt : (e + n - h) % n < n := Nat.mod_lt _ n1
  generalize (e + n - h) % n = q at *
  have hn : n = 1 ∨ n = 2 ∨ n = 3 ∨ n = 4 := by omega
  rcases hn with rfl | rfl | rfl | rfl <;> split <;> split <;> omega
theorem fl_sum {n h : Nat} (n1 : 1 ≤ n) (n4 : n ≤ 4) (hh : h < n) {m : Int} (m0 : 0 ≤ m) : ((List.range n).map (flE n h m)).sum = m := by
  have hn : n = 1 ∨ n = 2 ∨ n = 3 ∨ n = 4 := by omega
  rcases hn with rfl | rfl | rfl | rfl
  · have : h = 0 := by omega
    subst this
    simp [List.range_succ, flE]
  · have : h = 0 ∨ h = 1 := by omega
    rcases this with rfl | rfl <;> simp [List.range_succ, flE] <;> (repeat' split) <;> omega
  · have : h = 0 ∨ h = 1 ∨ h = 2 := by omega
    rcases this with rfl | rfl | rfl <;> simp [List.range_succ, flE] <;> (repeat' split) <;> omega
  · have : h = 0 ∨ h = 1 ∨ h = 2 ∨ h = 3 := by omega
    rcases this with rfl | rfl | rfl | rfl <;> simp [List.range_succ, flE] <;> (repeat' split) <;> omega
theorem fl_nn {n h : Nat} {m : Int} (m0 : 0 ≤ m) (e : Nat) : 0 ≤ flE n h m e ∧ flE n h m e ≤ m + 1 := by
  unfold flE
  have h1 : 0 ≤ m / (n : Int) := Int.ediv_nonneg m0 (by omega)
  have h2 : m / (n : Int) ≤ m := Int.ediv_le_self _ m0
  split <;> omega
theorem rangeVs_map (n : Nat) : rangeVs 0 n = (List.range n).map fun (t : Nat) => Val.int (0 + (t : Int)) := rfl
theorem along_s {n h : Nat} (n1 : 1 ≤ n) (n4 : n ≤ 4) (hh : h < n) {m : Int} (m0 : 0 ≤ m) (st : Store) : D_along_exits [.int n, .int h, .int m] st = .ok (iv ((List.range n).map (flE n h m))) st := by
  obtain ⟨r, hr, rn⟩ : ∃ r : Nat, m % (n : Int) = r ∧ r < n := by
    have h1 := Int.emod_nonneg m (show (n : Int) ≠ 0 by omega)
    have h2 := Int.emod_lt_of_pos m (show (0 : Int) < n by omega)
    exact ⟨(m % (n : Int)).toNat, by omega, by omega⟩
  have f1 := bop_fdiv (i := m) (j := (n : Int)) (by omega) (by omega)
  have f2 := bop_mulL (i := (n : Int)) (j := m / (n : Int)) (by omega) (by omega)
  have f3 : m - (n : Int) * (m / (n : Int)) = (r : Int) := by rw [← hr]; exact (Int.emod_def _ _).symm
  have c0 : evalN c_along_exits_0 [some (.int n), some (.int h), some (.int m), none, some (.int (m / (n : Int))), some (.int r), none, none] st = .ok (.lst (((List.range r).map fun t => (h + t) % n).map fun (s : Nat) => Val.int (s : Int))) st := by
    rw [List.map_map]
    unfold c_along_exits_0
    refine comp_dd (v := fun (t : Nat) => Val.int (0 + (t : Int))) (F := List.range r) (w := fun t => Val.int (((h + t) % n : Nat) : Int)) (by simp [evalIt, runFn, execs, exec, evalEs, evalEo, evalN_lst, evalN_dct, evalIt, popTo_self, e_var, e_lit, e_gcon, e_gfn, e_bin, e_neg, e_cmp, e_isn, e_isb, e_and, e_or, e_not, e_ite, e_tup, e_val, e_cell, e_idx, e_slc, e_blt, e_isi, e_call, e_word, e_mth, e_rev, e_lenset, e_callv, smallI_nat (show r ≤ 1000 by omega), rangeVs_map]) (fun t ht => ⟨_, rfl, ?_⟩) (by rw [List.length_range]; unfold sizeLine; omega)
    have g1 := bop_fdiv (i := (h : Int) + (t : Int)) (j := (n : Int)) (by omega) (by omega)
    have g2 := bop_mulL (i := (n : Int)) (j := ((h : Int) + (t : Int)) / (n : Int)) (by omega) (by omega)
    have g3 : (h : Int) + (t : Int) - (n : Int) * (((h : Int) + (t : Int)) / (n : Int)) = (((h + t) % n : Nat) : Int) := by
      rw [← Int.emod_def]; push_cast; rfl
    simp [runFn, execs, exec, evalEs, evalEo, evalN_lst, evalN_dct, evalIt, popTo_self, e_var, e_lit, e_gcon, e_gfn, e_bin, e_neg, e_cmp, e_isn, e_isb, e_and, e_or, e_not, e_ite, e_tup, e_val, e_cell, e_idx, e_slc, e_blt, e_isi, e_call, e_word, e_mth, e_rev, e_lenset, e_callv, wipeE, bop_add, g1, g2, bop_sub, g3]
  have c1 : evalN c_along_exits_1 [some (.int n), some (.int h), some (.int m), some (.lst (((List.range r).map fun t => (h + t) % n).map fun (s : Nat) => Val.int (s : Int))), some (.int (m / (n : Int))), some (.int r), none, none] st = .ok (.lst (((List.range n).map (flE n h m)).map Val.int)) st := by
    rw [List.map_map (f := flE n h m)]
    unfold c_along_exits_1
    refine comp_dd (v := fun (t : Nat) => Val.int (0 + (t : Int))) (F := List.range n) (w := fun e => Val.int (flE n h m e)) (by simp [evalIt, runFn, execs, exec, evalEs, evalEo, evalN_lst, evalN_dct, evalIt, popTo_self, e_var, e_lit, e_gcon, e_gfn, e_bin, e_neg, e_cmp, e_isn, e_isb, e_and, e_or, e_not, e_ite, e_tup, e_val, e_cell, e_idx, e_slc, e_blt, e_isi, e_call, e_word, e_mth, e_rev, e_lenset, e_callv, smallI_nat (show n ≤ 1000 by omega), rangeVs_map]) (fun e he => ⟨_, rfl, ?_⟩) (by rw [List.length_range]; unfold sizeLine; omega)
    have he := List.mem_range.mp he
    have ai := ahead_iff ⟨n, by omega⟩ ⟨h, by omega⟩ ⟨e, by omega⟩ ⟨r, by omega⟩ hh he rn
    simp only at ai
    have iv := inV_ints ((List.range r).map fun t => (h + t) % n) (0 + (e : Int)) st
    have hb : (∃ s ∈ (List.range r).map (fun t => (h + t) % n), (s : Int) = 0 + (e : Int)) ↔ (e + n - h) % n < r := by
      have : ((List.range r).any fun t => decide ((h + t) % n = e)) = true ↔ (e + n - h) % n < r := by rw [ai, decide_eq_true_eq]
      rw [← this, List.any_eq_true]
      constructor
      · rintro ⟨s, hs, e1⟩
        obtain ⟨t, ht, rfl⟩ := List.mem_map.mp hs
        exact ⟨t, ht, decide_eq_true (by omega)⟩
      · rintro ⟨t, ht, e1⟩
        have e1 := of_decide_eq_true e1
        exact ⟨_, List.mem_map.mpr ⟨t, ht, rfl⟩, by omega⟩
    have fe : flE n h m e = m / (n : Int) + (if (e + n - h) % n < r then 1 else 0) := by unfold flE; rw [hr]; rfl
    simp only [Int.zero_add] at iv hb
    generalize ((List.range r).map fun t => (h + t) % n).map (fun (s : Nat) => Val.int (s : Int)) = L at *
    by_cases hq : (e + n - h) % n < r
    · rw [decide_eq_true (hb.mpr hq)] at iv
      rw [fe, if_pos hq]
      simp [runFn, execs, exec, evalEs, evalEo, evalN_lst, evalN_dct, evalIt, popTo_self, e_var, e_lit, e_gcon, e_gfn, e_bin, e_neg, e_cmp, e_isn, e_isb, e_and, e_or, e_not, e_ite, e_tup, e_val, e_cell, e_idx, e_slc, e_blt, e_isi, e_call, e_word, e_mth, e_rev, e_lenset, e_callv, wipeE, cop, iv, blt, bop_add]
    · rw [decide_eq_false (fun z => hq (hb.mp z))] at iv
      rw [fe, if_neg hq]
      simp [runFn, execs, exec, evalEs, evalEo, evalN_lst, evalN_dct, evalIt, popTo_self, e_var, e_lit, e_gcon, e_gfn, e_bin, e_neg, e_cmp, e_isn, e_isb, e_and, e_or, e_not, e_ite, e_tup, e_val, e_cell, e_idx, e_slc, e_blt, e_isi, e_call, e_word, e_mth, e_rev, e_lenset, e_callv, wipeE, cop, iv, blt, bop_add]
  show _ = Out.ok (Val.tup (((List.range n).map (flE n h m)).map Val.int)) st
  generalize ((List.range r).map fun t => (h + t) % n).map (fun (s : Nat) => Val.int (s : Int)) = L at *
  generalize ((List.range n).map (flE n h m)).map Val.int = R at *
  have hx : execs b_along_exits [some (.int n), some (.int h), some (.int m), none, none, none, none, none] st = .rt (.tup R) st := by
    unfold b_along_exits
    refine execs_nx (env' := [some (.int n), some (.int h), some (.int m), none, some (.int (m / (n : Int))), some (.int r), none, none]) (st' := st) (by simp [exec, runFn, execs, exec, evalEs, evalEo, evalN_lst, evalN_dct, evalIt, popTo_self, e_var, e_lit, e_gcon, e_gfn, e_bin, e_neg, e_cmp, e_isn, e_isb, e_and, e_or, e_not, e_ite, e_tup, e_val, e_cell, e_idx, e_slc, e_blt, e_isi, e_call, e_word, e_mth, e_rev, e_lenset, e_callv, f1, f2, bop_sub, f3, sizeLine, bindTs, bindT]) ?_
    refine execs_nx (env' := [some (.int n), some (.int h), some (.int m), some (.lst L), some (.int (m / (n : Int))), some (.int r), none, none]) (st' := st) (by simp [exec, runFn, execs, exec, evalEs, evalEo, evalN_lst, evalN_dct, evalIt, popTo_self, e_var, e_lit, e_gcon, e_gfn, e_bin, e_neg, e_cmp, e_isn, e_isb, e_and, e_or, e_not, e_ite, e_tup, e_val, e_cell, e_idx, e_slc, e_blt, e_isi, e_call, e_word, e_mth, e_rev, e_lenset, e_callv, c0]) ?_
    simp [execs, exec, runFn, execs, exec, evalEs, evalEo, evalN_lst, evalN_dct, evalIt, popTo_self, e_var, e_lit, e_gcon, e_gfn, e_bin, e_neg, e_cmp, e_isn, e_isb, e_and, e_or, e_not, e_ite, e_tup, e_val, e_cell, e_idx, e_slc, e_blt, e_isi, e_call, e_word, e_mth, e_rev, e_lenset, e_callv, c1, blt, seqOf]
  simp only [D_along_exits, runFn, List.length_cons, List.length_nil, if_true, List.map_cons, List.map_nil, List.replicate, Nat.reduceSub, Nat.reduceAdd, List.cons_append, List.nil_append, hx, popTo_self]
/-! ### whole boards -/
def szN (sw : List Val) (k : Nat) : Nat := exLen (sw.getD k .non)
def rowF (sw : List Val) (hs : List Nat) (M : List Int) (k : Nat) : List Int := (List.range (szN sw k)).map (flE (szN sw k) (hs.getD k 0) (M.getD k 0))
def flL (sw : List Val) (hs : List Nat) (M : List Int) : List (List Int) := (List.range sw.length).map (rowF sw hs M)
abbrev flV (sw : List Val) (hs : List Nat) (M : List Int) : Val := .tup ((flL sw hs M).map iv)
/-- moves, a heap: so many whole numbers, none below 0 -/
structure MO (sw : List Val) (M : List Int) : Prop where
  len : M.length = sw.length
  nn : ∀ m ∈ M, 0 ≤ m
theorem getD_at {α : Type} {l : List α} {k : Nat} (h : k < l.length) (d : α) : l[k]? = some (l.getD k d) := by
  rw [List.getD_eq_getElem?_getD, List.getElem?_eq_getElem h]; rfl
section
variable {cups : Int} {sw : List Val}
theorem sz_ok (g : GB cups sw) {k : Nat} (hk : k < sw.length) : ∃ xs, sw.getD k .non = .tup xs ∧ szN sw k = xs.length ∧ 1 ≤ xs.length ∧ xs.length ≤ 4 ∧ sw[k]? = some (.tup xs) ∧ xs.all (isPlace cups sw.length) = true := by
  have h1 := getD_at hk Val.non
  obtain ⟨xs, e, l1, l4, hp⟩ := g.at_ h1
  exact ⟨xs, e, by simp only [szN, e, exLen], l1, l4, by rw [h1, e], hp⟩
theorem hand_ok {hs : List Nat} (H : HS sw hs) {k : Nat} (hk : k < sw.length) : hs.getD k 0 < szN sw k ∧ hs[k]? = some (hs.getD k 0) := by
  have h1 := getD_at (l := hs) (by rw [H.len]; exact hk) 0
  exact ⟨H.lt k _ _ (getD_at hk Val.non) h1, h1⟩
theorem MO.at_ {M : List Int} (o : MO sw M) {k : Nat} (hk : k < sw.length) : 0 ≤ M.getD k 0 ∧ M[k]? = some (M.getD k 0) := by
  have h1 := getD_at (l := M) (by rw [o.len]; exact hk) 0
  exact ⟨o.nn _ (List.mem_of_getElem? h1), h1⟩
theorem trip_range {hs : List Nat} {M : List Int} (h1 : hs.length = sw.length) (h2 : M.length = sw.length) : tripUp sw (hs.map fun (h : Nat) => Val.int (h : Int)) (M.map Val.int) = (List.range sw.length).map fun k => Val.tup [sw.getD k .non, .int (hs.getD k 0 : Nat), .int (M.getD k 0)] := by
  apply List.ext_getElem?
  intro i
  simp only [tripUp, List.getElem?_map]
  by_cases hi : i < sw.length
  · have a1 := getD_at hi Val.non
    have a2 : (hs.map fun (h : Nat) => Val.int (h : Int))[i]? = some (.int (hs.getD i 0 : Nat)) := by rw [List.getElem?_map, getD_at (l := hs) (by omega) 0]; rfl
    have a3 : (M.map Val.int)[i]? = some (.int (M.getD i 0)) := by rw [List.getElem?_map, getD_at (l := M) (by omega) 0]; rfl
    have b1 : ((hs.map fun (h : Nat) => Val.int (h : Int)).zip (M.map Val.int))[i]? = some (.int (hs.getD i 0 : Nat), .int (M.getD i 0)) := List.getElem?_zip_eq_some.mpr ⟨a2, a3⟩
    have b2 : (sw.zip ((hs.map fun (h : Nat) => Val.int (h : Int)).zip (M.map Val.int)))[i]? = some (sw.getD i .non, .int (hs.getD i 0 : Nat), .int (M.getD i 0)) := List.getElem?_zip_eq_some.mpr ⟨a1, b1⟩
    rw [b2, List.getElem?_range hi]
    rfl
  · rw [List.getElem?_eq_none (by simp; omega), List.getElem?_eq_none (by simp; omega)]; rfl
theorem raw_outflow_s (g : GB cups sw) {hs : List Nat} (H : HS sw hs) {M : List Int} (o : MO sw M) (st : Store) : D_raw_outflow [bd cups sw, hv hs, iv M] st = .ok (flV sw hs M) st := by
  have c : evalN c_raw_outflow_0 [some (bd cups sw), some (hv hs), some (iv M), none, none, none] st = .ok (.lst ((flL sw hs M).map iv)) st := by
    simp only [flL]
    rw [List.map_map]
    unfold c_raw_outflow_0
    refine comp_dd (v := fun k => Val.tup [sw.getD k .non, .int (hs.getD k 0 : Nat), .int (M.getD k 0)]) (F := List.range sw.length) (w := fun k => iv (rowF sw hs M k)) ?_ (fun k hk => ⟨_, rfl, ?_⟩) (by rw [List.length_range]; have := g.len.2; unfold sizeLine; omega)
    · rw [← trip_range H.len o.len]
      simp [evalIt, runFn, execs, exec, evalEs, evalEo, evalN_lst, evalN_dct, evalIt, popTo_self, e_var, e_lit, e_gcon, e_gfn, e_bin, e_neg, e_cmp, e_isn, e_isb, e_and, e_or, e_not, e_ite, e_tup, e_val, e_cell, e_idx, e_slc, e_blt, e_isi, e_call, e_word, e_mth, e_rev, e_lenset, e_callv, idx1, itemsV]
    · have hk := List.mem_range.mp hk
      obtain ⟨xs, e1, e2, l1, l4, _⟩ := sz_ok g hk
      have hh := (hand_ok H hk).1
      have al := along_s (n := xs.length) (h := hs.getD k 0) l1 l4 (by rw [← e2]; exact hh) (o.at_ hk).1 st
      unfold rowF
      rw [e2]
      generalize iv ((List.range xs.length).map (flE xs.length (hs.getD k 0) (M.getD k 0))) = R at *
      generalize hs.getD k 0 = hk0 at *
      generalize M.getD k 0 = mk0 at *
      simp only [e1]
      simp [runFn, execs, exec, evalEs, evalEo, evalN_lst, evalN_dct, evalIt, popTo_self, e_var, e_lit, e_gcon, e_gfn, e_bin, e_neg, e_cmp, e_isn, e_isb, e_and, e_or, e_not, e_ite, e_tup, e_val, e_cell, e_idx, e_slc, e_blt, e_isi, e_call, e_word, e_mth, e_rev, e_lenset, e_callv, wipeE, blt, lenOf, al]
  show _ = Out.ok (Val.tup ((flL sw hs M).map iv)) st
  generalize (flL sw hs M).map iv = R at *
  simp [D_raw_outflow, b_raw_outflow, runFn, execs, exec, evalEs, evalEo, evalN_lst, evalN_dct, evalIt, popTo_self, e_var, e_lit, e_gcon, e_gfn, e_bin, e_neg, e_cmp, e_isn, e_isb, e_and, e_or, e_not, e_ite, e_tup, e_val, e_cell, e_idx, e_slc, e_blt, e_isi, e_call, e_word, e_mth, e_rev, e_lenset, e_callv, c, blt, seqOf, popTo_self]
/-! ### hands behind -/
def lastI (sw : List Val) (hs : List Nat) (M : List Int) (k : Nat) : Int := ((hs.getD k 0 : Nat) + M.getD k 0) % (szN sw k : Nat)
def lastL (sw : List Val) (hs : List Nat) (M : List Int) (n : Nat) : List Int := (List.range n).map (lastI sw hs M)
theorem raw_hands_by_s (g : GB cups sw) {hs : List Nat} (H : HS sw hs) {M : List Int} (o : MO sw M) (st : Store) : D_raw_hands_by [bd cups sw, hv hs, iv M] st = .ok (iv (lastL sw hs M sw.length)) st := by
  have hl := g.len
  have key := forL_ddA (v := fun k => Val.tup [sw.getD k .non, .int (hs.getD k 0 : Nat), .int (M.getD k 0)]) (f := turnL (.tup [.name 4, .name 5, .name 6]) lb_raw_hands_by_0) (all := List.range sw.length) (env := [some (bd cups sw), some (hv hs), some (iv M), some (.ref st.length), none, none, none]) (st := st ++ [.lst []])
    (P := fun d1 env st' => st' = st ++ [.lst ((d1.map (lastI sw hs M)).map Val.int)] ∧ ∃ a b c, env = [some (bd cups sw), some (hv hs), some (iv M), some (.ref st.length), a, b, c]) ⟨rfl, none, none, none, rfl⟩ (fun d1 k d2 env st' e hq => ?_)
  · obtain ⟨env', st', f1, rfl, a, b, c, rfl⟩ := key
    have el : exec l_raw_hands_by_0 [some (bd cups sw), some (hv hs), some (iv M), some (.ref st.length), none, none, none] (st ++ [.lst []]) = .nx [some (bd cups sw), some (hv hs), some (iv M), some (.ref st.length), a, b, c] (st ++ [.lst (((List.range sw.length).map (lastI sw hs M)).map Val.int)]) := by
      unfold l_raw_hands_by_0
      rw [exec_loop]
      have ei : evalIt (.zip3 (.idx (.var 0) (.lit (.int 1))) (.var 1) (.var 2)) [some (bd cups sw), some (hv hs), some (iv M), some (.ref st.length), none, none, none] (st ++ [.lst []]) = .ok ((List.range sw.length).map fun k => Val.tup [sw.getD k .non, .int (hs.getD k 0 : Nat), .int (M.getD k 0)]) (st ++ [.lst []]) := by
        rw [← trip_range H.len o.len]
        generalize st ++ [Cell.lst []] = S
        simp [evalIt, runFn, execs, exec, evalEs, evalEo, evalN_lst, evalN_dct, evalIt, popTo_self, e_var, e_lit, e_gcon, e_gfn, e_bin, e_neg, e_cmp, e_isn, e_isb, e_and, e_or, e_not, e_ite, e_tup, e_val, e_cell, e_idx, e_slc, e_blt, e_isi, e_call, e_word, e_mth, e_rev, e_lenset, e_callv, idx1, itemsV]
      rw [ei, Out.res_ok]
      exact f1
    have nr : noRef (.tup ((lastL sw hs M sw.length).map Val.int)) = true := by
      simp only [noRef]
      exact noRefs_all fun x hx => by
        obtain ⟨n, _, rfl⟩ := List.mem_map.mp hx
        rfl
    have pp := pop_dead (st := st) nr
    have eR : ((List.range sw.length).map (lastI sw hs M)).map Val.int = (lastL sw hs M sw.length).map Val.int := rfl
    rw [eR] at el
    show _ = Out.ok (Val.tup ((lastL sw hs M sw.length).map Val.int)) st
    generalize (lastL sw hs M sw.length).map Val.int = R at *
    generalize hv hs = HH at *
    generalize iv M = MM at *
    have hx : execs b_raw_hands_by [some (bd cups sw), some HH, some MM, none, none, none, none] st = .rt (.tup R) (st ++ [.dead]) := by
      unfold b_raw_hands_by
      refine execs_nx (env' := [some (bd cups sw), some HH, some MM, some (.ref st.length), none, none, none]) (st' := st ++ [.lst []]) (by simp [exec, runFn, execs, exec, evalEs, evalEo, evalN_lst, evalN_dct, evalIt, popTo_self, e_var, e_lit, e_gcon, e_gfn, e_bin, e_neg, e_cmp, e_isn, e_isb, e_and, e_or, e_not, e_ite, e_tup, e_val, e_cell, e_idx, e_slc, e_blt, e_isi, e_call, e_word, e_mth, e_rev, e_lenset, e_callv, sizeLine]) (execs_nx el ?_)
      refine execs_nx (env' := [some (bd cups sw), some HH, some MM, some (.lst R), a, b, c]) (st' := st ++ [.dead]) (by simp [exec, frzE]) ?_
      generalize st ++ [Cell.dead] = S
      simp [execs, exec, runFn, execs, exec, evalEs, evalEo, evalN_lst, evalN_dct, evalIt, popTo_self, e_var, e_lit, e_gcon, e_gfn, e_bin, e_neg, e_cmp, e_isn, e_isb, e_and, e_or, e_not, e_ite, e_tup, e_val, e_cell, e_idx, e_slc, e_blt, e_isi, e_call, e_word, e_mth, e_rev, e_lenset, e_callv, blt, seqOf]
    simp only [D_raw_hands_by, runFn, List.length_cons, List.length_nil, if_true, List.map_cons, List.map_nil, List.replicate, Nat.reduceSub, Nat.reduceAdd, List.cons_append, List.nil_append, hx, pp]
  · obtain ⟨rfl, a, b, c, rfl⟩ := hq
    have hk : k < sw.length := List.mem_range.mp (by rw [e]; simp)
    have ld : d1.length ≤ 24 := by have := congrArg List.length e; simp at this; omega
    obtain ⟨xs, e1, e2, l1, l4, _⟩ := sz_ok g hk
    have eb : bindT (.tup [.name 4, .name 5, .name 6]) (.tup [sw.getD k .non, .int (hs.getD k 0 : Nat), .int (M.getD k 0)]) [some (bd cups sw), some (hv hs), some (iv M), some (.ref st.length), a, b, c] = some [some (bd cups sw), some (hv hs), some (iv M), some (.ref st.length), some (sw.getD k .non), some (.int (hs.getD k 0 : Nat)), some (.int (M.getD k 0))] := rfl
    refine ⟨[some (bd cups sw), some (hv hs), some (iv M), some (.ref st.length), some (sw.getD k .non), some (.int (hs.getD k 0 : Nat)), some (.int (M.getD k 0))], st ++ [.lst (((d1 ++ [k]).map (lastI sw hs M)).map Val.int)], (turnL_eq eb).trans ?_, rfl, _, _, _, rfl⟩
    have f1 := bop_fdiv (i := ((hs.getD k 0 : Nat) : Int) + M.getD k 0) (j := (xs.length : Int)) (by omega) (by omega)
    have f2 := bop_mulL (i := (xs.length : Int)) (j := (((hs.getD k 0 : Nat) : Int) + M.getD k 0) / (xs.length : Int)) (by omega) (by omega)
    have f3 : ((hs.getD k 0 : Nat) : Int) + M.getD k 0 - (xs.length : Int) * ((((hs.getD k 0 : Nat) : Int) + M.getD k 0) / (xs.length : Int)) = lastI sw hs M k := by
      rw [← Int.emod_def]; unfold lastI; rw [e2]
    have hz : ((d1.map (lastI sw hs M)).map Val.int).length < 16777216 := by simp; omega
    rw [e1]
    have t1 : evalE (.bin .sub (.bin .add (.var 5) (.var 6)) (.bin .mul (.blt .len (.cons (.var 4) .nil)) (.bin .fdiv (.bin .add (.var 5) (.var 6)) (.blt .len (.cons (.var 4) .nil))))) [some (bd cups sw), some (hv hs), some (iv M), some (.ref st.length), some (.tup xs), some (.int (hs.getD k 0 : Nat)), some (.int (M.getD k 0))] (st ++ [.lst ((d1.map (lastI sw hs M)).map Val.int)]) = .ok (.int (lastI sw hs M k)) (st ++ [.lst ((d1.map (lastI sw hs M)).map Val.int)]) := by
      generalize st ++ [Cell.lst ((d1.map (lastI sw hs M)).map Val.int)] = S
      generalize hs.getD k 0 = hk0 at *
      generalize M.getD k 0 = mk0 at *
      generalize lastI sw hs M k = RR at *
      simp [runFn, execs, exec, evalEs, evalEo, evalN_lst, evalN_dct, evalIt, popTo_self, e_var, e_lit, e_gcon, e_gfn, e_bin, e_neg, e_cmp, e_isn, e_isb, e_and, e_or, e_not, e_ite, e_tup, e_val, e_cell, e_idx, e_slc, e_blt, e_isi, e_call, e_word, e_mth, e_rev, e_lenset, e_callv, blt, lenOf, bop_add, f1, f2, bop_sub, f3]
    have er : ((d1 ++ [k]).map (lastI sw hs M)).map Val.int = (d1.map (lastI sw hs M)).map Val.int ++ [.int (lastI sw hs M k)] := by simp
    rw [er]
    generalize (d1.map (lastI sw hs M)).map Val.int = W at *
    generalize lastI sw hs M k = RR at *
    generalize hs.getD k 0 = hk0 at *
    generalize M.getD k 0 = mk0 at *
    unfold lb_raw_hands_by_0
    generalize MP.E.bin .sub (.bin .add (.var 5) (.var 6)) (.bin .mul (.blt .len (.cons (.var 4) .nil)) (.bin .fdiv (.bin .add (.var 5) (.var 6)) (.blt .len (.cons (.var 4) .nil)))) = A at *
    refine execs_nx ?_ execs_nil
    simp [exec, runFn, execs, exec, evalEs, evalEo, evalN_lst, evalN_dct, evalIt, popTo_self, e_var, e_lit, e_gcon, e_gfn, e_bin, e_neg, e_cmp, e_isn, e_isb, e_and, e_or, e_not, e_ite, e_tup, e_val, e_cell, e_idx, e_slc, e_blt, e_isi, e_call, e_word, e_mth, e_rev, e_lenset, e_callv, t1, mthPre, mth, hz, setCell, sizeLine]
end
end MP.Pk31
set_option maxHeartbeats 1000000
/-! law k31: the law's own outflow -/
namespace MP.Pk31
open PySem L2 MP
open Classical
theorem ref_at {S : Store} {n : Nat} {xs : List Val} (h : S[n]? = some (.lst xs)) {k : Nat} {v : Val} (e : xs[k]? = some v) : idxV (.ref n) (.int k) S = some v := by simp only [idxV, seqOf, h, atI_nat e]
theorem set_at {S : Store} {n : Nat} {xs : List Val} (h : S[n]? = some (.lst xs)) {k : Nat} (hk : k < xs.length) (v : Val) : setIx (.ref n) (.int k) v S = some (S.set n (.lst (xs.set k v))) := by
  have : ixN xs.length (k : Int) = some k := by
    simp [ixN]; omega
  simp only [setIx, h, this, Option.map_some, setCell]
def stQ (st : Store) (acc : List Val) (k : Nat) : Store := st ++ Cell.lst acc :: List.replicate k Cell.dead
theorem stQ_len (st : Store) (acc : List Val) (k : Nat) : (stQ st acc k).length = st.length + 1 + k := by simp [stQ]; omega
theorem stQ_at (st : Store) (acc : List Val) (k : Nat) : (stQ st acc k)[st.length]? = some (.lst acc) := by simp [stQ]
theorem stQ_set (st : Store) (acc X : List Val) (k : Nat) : (stQ st acc k).set st.length (.lst X) = stQ st X k := by simp [stQ]
theorem stQ_dead (st : Store) (acc : List Val) (k : Nat) : stQ st acc k ++ [.dead] = stQ st acc (k + 1) := by simp [stQ, List.replicate_succ']
section
variable {cups : Int} {sw : List Val}
abbrev envO (B HV MV : Val) (r : Nat) (o4 o5 o6 o7 o8 o9 : Option Val) : Env := [some B, some HV, some MV, some (.ref r), o4, o5, o6, o7, o8, o9]
theorem fl_turn (g : GB cups sw) {hs : List Nat} (H : HS sw hs) {M : List Int} (o : MO sw M) {k : Nat} (hk : k < sw.length) (S : Store) (r : Nat) (o5 o6 o9 : Option Val) {xs : List Val} (e2 : szN sw k = xs.length) (l1 : 1 ≤ xs.length) (l4 : xs.length ≤ 4) (d1 : List Nat) (ld : d1.length ≤ 4) {e : Nat} (he : e < xs.length) :
    turnL (.name 6) lb_law_outflow_0 (.int (0 + (e : Int))) (envO (bd cups sw) (hv hs) (iv M) r (some (.int k)) o5 o6 (some (.int xs.length)) (some (.ref S.length)) o9) (S ++ [.lst ((d1.map (flE xs.length (hs.getD k 0) (M.getD k 0))).map Val.int)]) = .nx (envO (bd cups sw) (hv hs) (iv M) r (some (.int k)) o5 (some (.int (0 + (e : Int)))) (some (.int xs.length)) (some (.ref S.length)) (some (.int (((e : Int) - (hs.getD k 0 : Nat)) % (xs.length : Int))))) (S ++ [.lst (((d1 ++ [e]).map (flE xs.length (hs.getD k 0) (M.getD k 0))).map Val.int)]) := by
  have eb : bindT (.name 6) (.int (0 + (e : Int))) (envO (bd cups sw) (hv hs) (iv M) r (some (.int k)) o5 o6 (some (.int xs.length)) (some (.ref S.length)) o9) = some (envO (bd cups sw) (hv hs) (iv M) r (some (.int k)) o5 (some (.int (0 + (e : Int)))) (some (.int xs.length)) (some (.ref S.length)) o9) := rfl
  have hh := hand_ok H hk
  have hm := o.at_ hk
  have hlt : hs.getD k 0 < xs.length := by rw [← e2]; exact hh.1
  have fl := fl_law l1 l4 hlt he hm.1
  have i1 : ∀ S, idxV (hv hs) (.int (k : Int)) S = some (.int (hs.getD k 0 : Nat)) := fun S => idx_tup (by rw [List.getElem?_map, hh.2]; rfl)
  have i2 : ∀ S, idxV (iv M) (.int (k : Int)) S = some (.int (M.getD k 0)) := fun S => idx_tup (by rw [List.getElem?_map, hm.2]; rfl)
  refine (turnL_eq eb).trans ?_
  have hz : ((d1.map (flE xs.length (hs.getD k 0) (M.getD k 0))).map Val.int).length < 16777216 := by simp; omega
  have hp : (0 : Int) < (xs.length : Int) := by omega
  have hp2 : (xs.length : Int) < 18446744073709551616 := by omega
  have er : ((d1 ++ [e]).map (flE xs.length (hs.getD k 0) (M.getD k 0))).map Val.int = (d1.map (flE xs.length (hs.getD k 0) (M.getD k 0))).map Val.int ++ [.int (flE xs.length (hs.getD k 0) (M.getD k 0) e)] := by simp
  rw [er, ← fl]
  generalize (d1.map (flE xs.length (hs.getD k 0) (M.getD k 0))).map Val.int = W at *
  generalize hv hs = HV at *
  generalize iv M = MV at *
  generalize hs.getD k 0 = h0 at *
  generalize M.getD k 0 = m0 at *
  generalize (xs.length : Int) = n at *
  have md := bop_mod (i := (e : Int) - (h0 : Int)) hp
  have t0 : exec (.asg 9 (.bin .mod (.blt .int (.cons (.bin .sub (.var 6) (.idx (.var 1) (.var 4))) .nil)) (.var 7))) (envO (bd cups sw) HV MV r (some (.int k)) o5 (some (.int (0 + (e : Int)))) (some (.int n)) (some (.ref S.length)) o9) (S ++ [.lst W]) = .nx (envO (bd cups sw) HV MV r (some (.int k)) o5 (some (.int (0 + (e : Int)))) (some (.int n)) (some (.ref S.length)) (some (.int (((e : Int) - (h0 : Int)) % n)))) (S ++ [.lst W]) := by
    generalize S ++ [Cell.lst W] = SS
    simp [exec, runFn, execs, exec, evalEs, evalEo, evalN_lst, evalN_dct, evalIt, popTo_self, e_var, e_lit, e_gcon, e_gfn, e_bin, e_neg, e_cmp, e_isn, e_isb, e_and, e_or, e_not, e_ite, e_tup, e_val, e_cell, e_idx, e_slc, e_blt, e_isi, e_call, e_word, e_mth, e_rev, e_lenset, e_callv, i1, bop_sub, blt, md]
  generalize ((e : Int) - (h0 : Int)) % n = a at *
  have fd := bop_fdiv (i := if m0 - a + n - 1 > 0 then m0 - a + n - 1 else 0) hp hp2
  have t1 : evalE (.bin .fdiv (.blt .max2 (.cons (.lit (.int 0)) (.cons (.bin .sub (.bin .add (.bin .sub (.idx (.var 2) (.var 4)) (.var 9)) (.var 7)) (.lit (.int 1))) .nil))) (.var 7)) (envO (bd cups sw) HV MV r (some (.int k)) o5 (some (.int (0 + (e : Int)))) (some (.int n)) (some (.ref S.length)) (some (.int a))) (S ++ [.lst W]) = .ok (.int ((if m0 - a + n - 1 > 0 then m0 - a + n - 1 else 0) / n)) (S ++ [.lst W]) := by
    have mx : ∀ j SS, blt .max2 [.int 0, .int j] SS = some (.int (if j > 0 then j else 0)) := fun j SS => rfl
    generalize S ++ [Cell.lst W] = SS
    simp only [e_bin, e_blt, evalEs, e_lit, e_idx, e_var, List.getD_cons_succ, List.getD_cons_zero, Out.of_some, Out.bind_ok, i2, bop_sub, bop_add, mx, fd]
  unfold lb_law_outflow_0
  refine execs_nx t0 ?_
  generalize MP.E.bin .fdiv (.blt .max2 (.cons (.lit (.int 0)) (.cons (.bin .sub (.bin .add (.bin .sub (.idx (.var 2) (.var 4)) (.var 9)) (.var 7)) (.lit (.int 1))) .nil))) (.var 7) = A at *
  refine execs_nx ?_ execs_nil
  generalize (if m0 - a + n - 1 > 0 then m0 - a + n - 1 else 0) / n = RR at *
  generalize Val.int (0 + (e : Int)) = EV at *
  simp [exec, runFn, execs, exec, evalEs, evalEo, evalN_lst, evalN_dct, evalIt, popTo_self, e_var, e_lit, e_gcon, e_gfn, e_bin, e_neg, e_cmp, e_isn, e_isb, e_and, e_or, e_not, e_ite, e_tup, e_val, e_cell, e_idx, e_slc, e_blt, e_isi, e_call, e_word, e_mth, e_rev, e_lenset, e_callv, t1, mthPre, mth, hz, setCell, sizeLine]
theorem law_outflow_s (g : GB cups sw) {hs : List Nat} (H : HS sw hs) {M : List Int} (o : MO sw M) (st : Store) : D_law_outflow [bd cups sw, hv hs, iv M] st = .ok (flV sw hs M) st := by
  have hl := g.len
  have le : (enumUp sw).length = sw.length := by simp [enumUp]
  have key := forL_pre (f := turnL (.tup [.name 4, .name 5]) lb_law_outflow_1) (all := enumUp sw) (env := envO (bd cups sw) (hv hs) (iv M) st.length none none none none none none) (st := stQ st [] 0)
    (P := fun ys env st' => ys.length ≤ sw.length → st' = stQ st (((List.range ys.length).map (rowF sw hs M)).map iv) ys.length ∧ ∃ a b c d e f, env = envO (bd cups sw) (hv hs) (iv M) st.length a b c d e f) (fun _ => ⟨rfl, none, none, none, none, none, none, rfl⟩) (fun ys x zs env st' e hq => ?_)
  · obtain ⟨env', st', f1, hp⟩ := key
    obtain ⟨rfl, a, b, c, d, e, f, rfl⟩ := hp (by rw [le]; omega)
    rw [le] at f1
    have el : exec l_law_outflow_1 (envO (bd cups sw) (hv hs) (iv M) st.length none none none none none none) (stQ st [] 0) = .nx (envO (bd cups sw) (hv hs) (iv M) st.length a b c d e f) (stQ st ((flL sw hs M).map iv) sw.length) := by
      unfold l_law_outflow_1
      rw [exec_loop]
      have ei : evalIt (.enum (.idx (.var 0) (.lit (.int 1)))) (envO (bd cups sw) (hv hs) (iv M) st.length none none none none none none) (stQ st [] 0) = .ok (enumUp sw) (stQ st [] 0) := by
        generalize stQ st [] 0 = S
        simp [evalIt, runFn, execs, exec, evalEs, evalEo, evalN_lst, evalN_dct, evalIt, popTo_self, e_var, e_lit, e_gcon, e_gfn, e_bin, e_neg, e_cmp, e_isn, e_isb, e_and, e_or, e_not, e_ite, e_tup, e_val, e_cell, e_idx, e_slc, e_blt, e_isi, e_call, e_word, e_mth, e_rev, e_lenset, e_callv, idx1]
      rw [ei, Out.res_ok]
      exact f1
    show _ = Out.ok (Val.tup ((flL sw hs M).map iv)) st
    have nr : noRef (.tup ((flL sw hs M).map iv)) = true := by
      simp only [noRef]
      exact noRefs_all fun x hx => by
        obtain ⟨row, _, rfl⟩ := List.mem_map.mp hx
        simp only [noRef]
        exact noRefs_all fun y hy => by
          obtain ⟨n, _, rfl⟩ := List.mem_map.mp hy
          rfl
    have pp : popTo st (st ++ Cell.dead :: List.replicate sw.length Cell.dead) (some (.tup ((flL sw hs M).map iv))) = st := by
      rw [popTo_pre (fun x hx => by cases hx; exact nr) (fun n c hn hc => .inl (by rw [List.getElem?_append_left hn] at hc; exact hc))]
      simp
    have h3 : exec (.frz 3) (envO (bd cups sw) (hv hs) (iv M) st.length a b c d e f) (stQ st ((flL sw hs M).map iv) sw.length) = .nx [some (bd cups sw), some (hv hs), some (iv M), some (.lst ((flL sw hs M).map iv)), a, b, c, d, e, f] (st ++ Cell.dead :: List.replicate sw.length Cell.dead) := by
      unfold stQ
      simp [exec, frzE]
    generalize (flL sw hs M).map iv = R at *
    generalize hv hs = HV at *
    generalize iv M = MV at *
    have hx : execs b_law_outflow [some (bd cups sw), some HV, some MV, none, none, none, none, none, none, none] st = .rt (.tup R) (st ++ Cell.dead :: List.replicate sw.length Cell.dead) := by
      unfold b_law_outflow
      refine execs_nx (env' := envO (bd cups sw) HV MV st.length none none none none none none) (st' := stQ st [] 0) (by simp [exec, runFn, execs, exec, evalEs, evalEo, evalN_lst, evalN_dct, evalIt, popTo_self, e_var, e_lit, e_gcon, e_gfn, e_bin, e_neg, e_cmp, e_isn, e_isb, e_and, e_or, e_not, e_ite, e_tup, e_val, e_cell, e_idx, e_slc, e_blt, e_isi, e_call, e_word, e_mth, e_rev, e_lenset, e_callv, sizeLine, stQ]) (execs_nx el (execs_nx h3 ?_))
      generalize st ++ Cell.dead :: List.replicate sw.length Cell.dead = S
      simp [execs, exec, runFn, execs, exec, evalEs, evalEo, evalN_lst, evalN_dct, evalIt, popTo_self, e_var, e_lit, e_gcon, e_gfn, e_bin, e_neg, e_cmp, e_isn, e_isb, e_and, e_or, e_not, e_ite, e_tup, e_val, e_cell, e_idx, e_slc, e_blt, e_isi, e_call, e_word, e_mth, e_rev, e_lenset, e_callv, blt, seqOf]
    simp only [D_law_outflow, runFn, List.length_cons, List.length_nil, if_true, List.map_cons, List.map_nil, List.replicate, Nat.reduceSub, Nat.reduceAdd, List.cons_append, List.nil_append, hx, pp]
  · obtain ⟨y, rfl, hy⟩ := enum_at e
    have hk : ys.length < sw.length := (List.getElem?_eq_some_iff.mp hy).1
    obtain ⟨rfl, a, b, c, d, e', f, rfl⟩ := hq (by omega)
    obtain ⟨xs, e1, e2, l1, l4, hx, _⟩ := sz_ok g hk
    rw [hx] at hy
    cases hy
    obtain ⟨k, hkk⟩ : ∃ k, k = ys.length := ⟨_, rfl⟩
    rw [← hkk] at hk e1 e2 hx ⊢
    have eb : bindT (.tup [.name 4, .name 5]) (.tup [.int (k : Nat), .tup xs]) (envO (bd cups sw) (hv hs) (iv M) st.length a b c d e' f) = some (envO (bd cups sw) (hv hs) (iv M) st.length (some (.int k)) (some (.tup xs)) c d e' f) := rfl
    have len : (stQ st (((List.range k).map (rowF sw hs M)).map iv) k).length = st.length + 1 + k := stQ_len _ _ _
    have at3 := stQ_at st (((List.range k).map (rowF sw hs M)).map iv) (k + 1)
    have set3 := stQ_set st (((List.range k).map (rowF sw hs M)).map iv) (((List.range k).map (rowF sw hs M)).map iv ++ [Val.tup ((rowF sw hs M k).map Val.int)]) (k + 1)
    have hzz : (((List.range k).map (rowF sw hs M)).map iv).length < 16777216 := by simp; omega
    have dd := stQ_dead st (((List.range k).map (rowF sw hs M)).map iv) k
    obtain ⟨S, hS⟩ : ∃ S : Store, S = stQ st (((List.range k).map (rowF sw hs M)).map iv) k := ⟨_, rfl⟩
    rw [← hS] at dd ⊢
    have key2 := forL_ddA (v := fun (t : Nat) => Val.int (0 + (t : Int))) (f := turnL (.name 6) lb_law_outflow_0) (all := List.range xs.length) (env := envO (bd cups sw) (hv hs) (iv M) st.length (some (.int k)) (some (.tup xs)) c (some (.int xs.length)) (some (.ref S.length)) f) (st := S ++ [.lst []])
      (P := fun d1 env st2 => st2 = S ++ [.lst ((d1.map (flE xs.length (hs.getD k 0) (M.getD k 0))).map Val.int)] ∧ ∃ a b, env = envO (bd cups sw) (hv hs) (iv M) st.length (some (.int k)) (some (.tup xs)) a (some (.int xs.length)) (some (.ref S.length)) b) ⟨rfl, c, f, rfl⟩ (fun d1 t d2 env st2 e3 hq2 => by
        obtain ⟨rfl, a2, b2, rfl⟩ := hq2
        have ht : t < xs.length := List.mem_range.mp (by rw [e3]; simp)
        have ld : d1.length ≤ 4 := by have := congrArg List.length e3; simp at this; omega
        exact ⟨_, _, fl_turn g H o hk S st.length (some (.tup xs)) a2 b2 e2 l1 l4 d1 ld ht, rfl, _, _, rfl⟩)
    obtain ⟨env2, st2, f2, rfl, a2, b2, rfl⟩ := key2
    have er : ((List.range xs.length).map (flE xs.length (hs.getD k 0) (M.getD k 0))) = rowF sw hs M k := by unfold rowF; rw [e2]
    rw [er] at f2
    have el : exec l_law_outflow_0 (envO (bd cups sw) (hv hs) (iv M) st.length (some (.int k)) (some (.tup xs)) c (some (.int xs.length)) (some (.ref S.length)) f) (S ++ [.lst []]) = .nx (envO (bd cups sw) (hv hs) (iv M) st.length (some (.int k)) (some (.tup xs)) a2 (some (.int xs.length)) (some (.ref S.length)) b2) (S ++ [.lst ((rowF sw hs M k).map Val.int)]) := by
      unfold l_law_outflow_0
      rw [exec_loop]
      have ei : evalIt (.range1 (.var 7)) (envO (bd cups sw) (hv hs) (iv M) st.length (some (.int k)) (some (.tup xs)) c (some (.int xs.length)) (some (.ref S.length)) f) (S ++ [.lst []]) = .ok ((List.range xs.length).map fun (t : Nat) => Val.int (0 + (t : Int))) (S ++ [.lst []]) := by
        generalize S ++ [Cell.lst []] = SS
        simp [evalIt, runFn, execs, exec, evalEs, evalEo, evalN_lst, evalN_dct, evalIt, popTo_self, e_var, e_lit, e_gcon, e_gfn, e_bin, e_neg, e_cmp, e_isn, e_isb, e_and, e_or, e_not, e_ite, e_tup, e_val, e_cell, e_idx, e_slc, e_blt, e_isi, e_call, e_word, e_mth, e_rev, e_lenset, e_callv, smallI_nat (show xs.length ≤ 1000 by omega), rangeVs_map]
      rw [ei, Out.res_ok]
      exact f2
    have eA : (((List.range (ys ++ [Val.tup [.int (k : Nat), .tup xs]]).length).map (rowF sw hs M)).map iv) = ((List.range k).map (rowF sw hs M)).map iv ++ [Val.tup ((rowF sw hs M k).map Val.int)] := by
      rw [List.length_append, List.length_singleton, ← hkk, List.range_succ]; simp
    have eL : (ys ++ [Val.tup [.int (k : Nat), .tup xs]]).length = k + 1 := by rw [List.length_append, List.length_singleton, ← hkk]
    refine ⟨envO (bd cups sw) (hv hs) (iv M) st.length (some (.int k)) (some (.tup xs)) a2 (some (.int xs.length)) (some (.lst ((rowF sw hs M k).map Val.int))) b2, stQ st (((List.range k).map (rowF sw hs M)).map iv ++ [Val.tup ((rowF sw hs M k).map Val.int)]) (k + 1), (turnL_eq eb).trans ?_, fun _ => ⟨by rw [eA, eL], _, _, _, _, _, _, rfl⟩⟩
    rw [← set3]
    generalize (rowF sw hs M k).map Val.int = RW at *
    generalize ((List.range k).map (rowF sw hs M)).map iv = AC at *
    generalize hv hs = HV at *
    generalize iv M = MV at *
    unfold lb_law_outflow_1
    refine execs_nx (env' := envO (bd cups sw) HV MV st.length (some (.int k)) (some (.tup xs)) c (some (.int xs.length)) (some (.ref S.length)) f) (st' := S ++ [.lst []]) (by simp [exec, runFn, execs, exec, evalEs, evalEo, evalN_lst, evalN_dct, evalIt, popTo_self, e_var, e_lit, e_gcon, e_gfn, e_bin, e_neg, e_cmp, e_isn, e_isb, e_and, e_or, e_not, e_ite, e_tup, e_val, e_cell, e_idx, e_slc, e_blt, e_isi, e_call, e_word, e_mth, e_rev, e_lenset, e_callv, blt, lenOf, sizeLine, setAll]) ?_
    refine execs_nx el ?_
    refine execs_nx (env' := envO (bd cups sw) HV MV st.length (some (.int k)) (some (.tup xs)) a2 (some (.int xs.length)) (some (.lst RW)) b2) (st' := stQ st AC (k + 1)) (by rw [← dd]; simp [exec, frzE]) ?_
    refine execs_nx ?_ execs_nil
    generalize stQ st AC (k + 1) = T at *
    simp [exec, runFn, execs, exec, evalEs, evalEo, evalN_lst, evalN_dct, evalIt, popTo_self, e_var, e_lit, e_gcon, e_gfn, e_bin, e_neg, e_cmp, e_isn, e_isb, e_and, e_or, e_not, e_ite, e_tup, e_val, e_cell, e_idx, e_slc, e_blt, e_isi, e_call, e_word, e_mth, e_rev, e_lenset, e_callv, mthPre, at3, mth, hzz, setCell, blt, seqOf, sizeLine]
end
end MP.Pk31
set_option maxHeartbeats 4000000
/-! MPEq: == and in of data without truth values are equality. -/
namespace MP
open PySem L2
open Classical
/-- data without truth values, k deep at most -/
def pdk : Nat → Val → Bool
  | _, .non => true
  | _, .int _ => true
  | _, .str x => PyData.strOk x
  | 0, .tup [] => true
  | 0, .lst [] => true
  | k + 1, .tup xs => xs.all (pdk k)
  | k + 1, .lst xs => xs.all (pdk k)
  | _, _ => false
theorem pdk_data (k : Nat) : ∀ v, pdk k v = true → ∃ d, dataOf v = some d ∧ d.canLay0 = true ∧ d.depth ≤ k + 1 := by
  have leaf : ∀ v : Val, (match v with | .tup _ => False | .lst _ => False | _ => True) → pdk k v = true → ∃ d, dataOf v = some d ∧ d.canLay0 = true ∧ d.depth ≤ k + 1 := by
    intro v hv h
    cases v <;> simp only at hv
    · exact ⟨_, rfl, rfl, Nat.zero_le _⟩
    · cases k <;> simp [pdk] at h
    · exact ⟨_, rfl, rfl, Nat.zero_le _⟩
    · rename_i x
      refine ⟨_, rfl, ?_, Nat.zero_le _⟩
      cases k <;> simpa [pdk, PyData.canLay0] using h
    all_goals (cases k <;> simp [pdk] at h)
  induction k with
  | zero =>
    intro v h
    cases v with
    | tup xs => cases xs with
      | nil => exact ⟨_, rfl, rfl, by simp [PyData.depth, PyData.depthAll]⟩
      | cons x xs => simp [pdk] at h
    | lst xs => cases xs with
      | nil => exact ⟨_, rfl, rfl, by simp [PyData.depth, PyData.depthAll]⟩
      | cons x xs => simp [pdk] at h
    | _ => exact leaf _ trivial h
  | succ k ih =>
    have ih2 : ∀ v, pdk k v = true → ∃ d, dataOf v = some d ∧ d.canLay0 = true ∧ d.depth ≤ k + 1 := by
      refine ih fun v hv h => ?_
      cases v <;> simp only at hv
      · exact ⟨_, rfl, rfl, Nat.zero_le _⟩
      · cases k <;> simp [pdk] at h
      · exact ⟨_, rfl, rfl, Nat.zero_le _⟩
      · rename_i x
        refine ⟨_, rfl, ?_, Nat.zero_le _⟩
        cases k <;> simpa [pdk, PyData.canLay0] using h
      all_goals (cases k <;> simp [pdk] at h)
    have all : ∀ xs : List Val, xs.all (pdk k) = true → ∃ ds, dataOfs xs = some ds ∧ PyData.canLayAll0 ds = true ∧ PyData.depthAll ds ≤ k + 1 := by
      intro xs
      induction xs with
      | nil => intro _; exact ⟨[], rfl, rfl, Nat.zero_le _⟩
      | cons x xs ih3 =>
        intro h
        simp only [List.all_cons, Bool.and_eq_true] at h
        obtain ⟨d, a1, a2, a3⟩ := ih2 x h.1
        obtain ⟨ds, b1, b2, b3⟩ := ih3 h.2
        exact ⟨d :: ds, by simp [dataOfs, a1, b1], by simp [PyData.canLayAll0, a2, b2], by simp only [PyData.depthAll]; omega⟩
    intro v h
    cases v with
    | tup xs =>
      obtain ⟨ds, b1, b2, b3⟩ := all xs (by simpa [pdk] using h)
      exact ⟨.tuple ds, by simp [dataOf, b1], by simpa [PyData.canLay0] using b2, by simp only [PyData.depth]; omega⟩
    | lst xs =>
      obtain ⟨ds, b1, b2, b3⟩ := all xs (by simpa [pdk] using h)
      exact ⟨.list ds, by simp [dataOf, b1], by simpa [PyData.canLay0] using b2, by simp only [PyData.depth]; omega⟩
    | _ => exact leaf _ trivial h
def notBl (v : Val) : Prop := match v with | .bl _ => False | _ => True
theorem eqv_leaf {v u : Val} {d e : PyData} (hv : match v with | .tup _ => False | .lst _ => False | .bl _ => False | _ => True) (hu : notBl u) (h1 : dataOf v = some d) (h2 : dataOf u = some e) : PyData.eqv d e = decide (v = u) := by
  cases v <;> simp only at hv <;> cases u <;> simp only [notBl] at hu <;> simp only [dataOf, Option.some.injEq, Option.map_eq_some_iff, reduceCtorEq] at h1 h2
  all_goals (try subst h1)
  all_goals (try subst h2)
  all_goals (try (obtain ⟨_, _, rfl⟩ := h2))
  all_goals (try simp [PyData.eqv])
  all_goals rfl
theorem pdk_nobl {k : Nat} {v : Val} (h : pdk k v = true) : notBl v := by
  cases v <;> simp only [notBl]
  cases k <;> simp [pdk] at h
theorem pdk_eqv : ∀ (k : Nat) (v u : Val) (d e : PyData), pdk k v = true → pdk k u = true → dataOf v = some d → dataOf u = some e → PyData.eqv d e = decide (v = u) := by
  intro k
  induction k with
  | zero =>
    intro v u d e hv hu h1 h2
    have nu := pdk_nobl hu
    have nv := pdk_nobl hv
    cases v with
    | tup xs => cases xs with
      | nil =>
        cases h1
        cases u with
        | tup ys => cases ys with
          | nil => cases h2; simp [PyData.eqv, PyData.eqvAll]
          | cons y ys => simp [pdk] at hu
        | lst ys => cases ys with
          | nil => cases h2; simp [PyData.eqv]
          | cons y ys => simp [pdk] at hu
        | bl b => exact nu.elim
        | non => cases h2; simp [PyData.eqv]
        | int _ => cases h2; simp [PyData.eqv]
        | str _ => cases h2; simp [PyData.eqv]
        | _ => simp [dataOf] at h2
      | cons x xs => simp [pdk] at hv
    | lst xs => cases xs with
      | nil =>
        cases h1
        cases u with
        | tup ys => cases ys with
          | nil => cases h2; simp [PyData.eqv]
          | cons y ys => simp [pdk] at hu
        | lst ys => cases ys with
          | nil => cases h2; simp [PyData.eqv, PyData.eqvAll]
          | cons y ys => simp [pdk] at hu
        | bl b => exact nu.elim
        | non => cases h2; simp [PyData.eqv]
        | int _ => cases h2; simp [PyData.eqv]
        | str _ => cases h2; simp [PyData.eqv]
        | _ => simp [dataOf] at h2
      | cons x xs => simp [pdk] at hv
    | bl b => exact nv.elim
    | _ => exact eqv_leaf trivial nu h1 h2
  | succ k ih =>
    have all : ∀ (xs ys : List Val) (ds es : List PyData), xs.all (pdk k) = true → ys.all (pdk k) = true → dataOfs xs = some ds → dataOfs ys = some es → PyData.eqvAll ds es = decide (xs = ys) := by
      intro xs
      induction xs with
      | nil =>
        intro ys ds es _ _ h1 h2
        cases h1
        cases ys with
        | nil => cases h2; simp [PyData.eqvAll]
        | cons y ys =>
          simp only [dataOfs, Option.bind_eq_some_iff, Option.map_eq_some_iff] at h2
          obtain ⟨_, _, _, _, rfl⟩ := h2
          simp [PyData.eqvAll]
      | cons x xs ih3 =>
        intro ys ds es hx hy h1 h2
        simp only [dataOfs, Option.bind_eq_some_iff, Option.map_eq_some_iff] at h1
        obtain ⟨d, a1, ds', a2, rfl⟩ := h1
        simp only [List.all_cons, Bool.and_eq_true] at hx
        cases ys with
        | nil => cases h2; simp [PyData.eqvAll]
        | cons y ys =>
          simp only [dataOfs, Option.bind_eq_some_iff, Option.map_eq_some_iff] at h2
          obtain ⟨e, b1, es', b2, rfl⟩ := h2
          simp only [List.all_cons, Bool.and_eq_true] at hy
          simp only [PyData.eqvAll, ih x y d e hx.1 hy.1 a1 b1, ih3 ys ds' es' hx.2 hy.2 a2 b2]
          by_cases z1 : x = y <;> by_cases z2 : xs = ys <;> simp [z1, z2]
    intro v u d e hv hu h1 h2
    have nu := pdk_nobl hu
    have nv := pdk_nobl hv
    cases v with
    | tup xs =>
      simp only [dataOf, Option.map_eq_some_iff] at h1
      obtain ⟨ds, a1, rfl⟩ := h1
      cases u with
      | tup ys =>
        simp only [dataOf, Option.map_eq_some_iff] at h2
        obtain ⟨es, b1, rfl⟩ := h2
        simp only [PyData.eqv, all xs ys ds es (by simpa [pdk] using hv) (by simpa [pdk] using hu) a1 b1]
        by_cases z : xs = ys <;> simp [z]
      | lst ys =>
        simp only [dataOf, Option.map_eq_some_iff] at h2
        obtain ⟨es, b1, rfl⟩ := h2
        simp [PyData.eqv]
      | bl b => exact nu.elim
      | non => cases h2; simp [PyData.eqv]
      | int _ => cases h2; simp [PyData.eqv]
      | str _ => cases h2; simp [PyData.eqv]
      | _ => simp [dataOf] at h2
    | lst xs =>
      simp only [dataOf, Option.map_eq_some_iff] at h1
      obtain ⟨ds, a1, rfl⟩ := h1
      cases u with
      | lst ys =>
        simp only [dataOf, Option.map_eq_some_iff] at h2
        obtain ⟨es, b1, rfl⟩ := h2
        simp only [PyData.eqv, all xs ys ds es (by simpa [pdk] using hv) (by simpa [pdk] using hu) a1 b1]
        by_cases z : xs = ys <;> simp [z]
      | tup ys =>
        simp only [dataOf, Option.map_eq_some_iff] at h2
        obtain ⟨es, b1, rfl⟩ := h2
        simp [PyData.eqv]
      | bl b => exact nu.elim
      | non => cases h2; simp [PyData.eqv]
      | int _ => cases h2; simp [PyData.eqv]
      | str _ => cases h2; simp [PyData.eqv]
      | _ => simp [dataOf] at h2
    | bl b => exact nv.elim
    | _ => exact eqv_leaf trivial nu h1 h2
theorem pdk_shaped {k : Nat} {v : Val} (hk : k ≤ 60) (h : pdk k v = true) : ∃ d, dataOf v = some d ∧ SeqAt.shaped d = true := by
  obtain ⟨d, h1, h2, h3⟩ := pdk_data k v h
  exact ⟨d, h1, by simp [SeqAt.shaped, h2]; omega⟩
theorem eqD_pdk {k : Nat} {v u : Val} (hk : k ≤ 60) (hv : pdk k v = true) (hu : pdk k u = true) : eqD v u = some (decide (v = u)) := by
  obtain ⟨d, h1, h2⟩ := pdk_shaped hk hv
  obtain ⟨e, h3, h4⟩ := pdk_shaped hk hu
  simp only [eqD, h1, h3]
  rw [if_pos ⟨h2, h4⟩, pdk_eqv k v u d e hv hu h1 h3]
/-- == of such data is equality -/
theorem eqV_pdk {k : Nat} {v u : Val} (hk : k ≤ 60) (hv : pdk k v = true) (hu : pdk k u = true) : eqV v u = some (decide (v = u)) := by
  have h := eqD_pdk hk hv hu
  unfold eqV
  split
  · rename_i i j
    by_cases z : i = j <;> simp [z]
  · rename_i x y
    by_cases z : x = y <;> simp [z]
  · exact h
theorem pdk_datas {k : Nat} (hk : k < 60) : ∀ xs : List Val, (∀ x ∈ xs, pdk k x = true) → ∃ ds, dataOfs xs = some ds ∧ SeqAt.shaped (.list ds) = true := by
  intro xs h
  have : pdk (k + 1) (.lst xs) = true := by simp only [pdk]; exact List.all_eq_true.mpr h
  obtain ⟨d, h1, h2⟩ := pdk_shaped (by omega) this
  simp only [dataOf, Option.map_eq_some_iff] at h1
  obtain ⟨ds, a1, rfl⟩ := h1
  exact ⟨ds, a1, h2⟩
theorem any_pdk {k : Nat} {x : Val} {d : PyData} (hx : pdk k x = true) (hd : dataOf x = some d) : ∀ (ys : List Val) (ds : List PyData), (∀ y ∈ ys, pdk k y = true) → dataOfs ys = some ds → ds.any (fun z => PyData.eqv z d) = decide (x ∈ ys) := by
  intro ys
  induction ys with
  | nil => intro ds _ h; cases h; simp
  | cons y ys ih =>
    intro ds hy h
    simp only [dataOfs, Option.bind_eq_some_iff, Option.map_eq_some_iff] at h
    obtain ⟨e, b1, es, b2, rfl⟩ := h
    simp only [List.any_cons, pdk_eqv k y x e d (hy y (.head _)) hx b1 hd, ih es (fun z hz => hy z (.tail _ hz)) b2]
    by_cases z1 : y = x
    · subst z1; simp
    · have z2 : ¬ x = y := fun q => z1 q.symm
      by_cases z3 : x ∈ ys <;> simp [z1, z2, z3]
/-- x in ys of such data -/
theorem inV_pdk {k : Nat} {x c : Val} {ys : List Val} {st : Store} (hk : k < 60) (hx : pdk k x = true) (hs : seqOf c st = some ys) (hy : ∀ y ∈ ys, pdk k y = true) : inV x c st = some (decide (x ∈ ys)) := by
  obtain ⟨d, h1, h2⟩ := pdk_shaped (by omega) hx
  obtain ⟨ds, h3, h4⟩ := pdk_datas hk ys hy
  simp only [inV, hs, h1, h3]
  rw [if_pos ⟨h2, h4⟩, any_pdk hx h1 ys ds hy h3]
theorem countP_pdk {k : Nat} {x : Val} {d : PyData} (hx : pdk k x = true) (hd : dataOf x = some d) : ∀ (ys : List Val) (ds : List PyData), (∀ y ∈ ys, pdk k y = true) → dataOfs ys = some ds → ds.countP (fun z => PyData.eqv z d) = ys.countP fun y => decide (y = x) := by
  intro ys
  induction ys with
  | nil => intro ds _ h; cases h; simp
  | cons y ys ih =>
    intro ds hy h
    simp only [dataOfs, Option.bind_eq_some_iff, Option.map_eq_some_iff] at h
    obtain ⟨e, b1, es, b2, rfl⟩ := h
    simp only [List.countP_cons, pdk_eqv k y x e d (hy y (.head _)) hx b1 hd, ih es (fun z hz => hy z (.tail _ hz)) b2]
/-- l.count(x) of such data -/
theorem count_pdk {k : Nat} {x : Val} {ys : List Val} {st : Store} (hk : k < 60) (hx : pdk k x = true) (hy : ∀ y ∈ ys, pdk k y = true) : mth .count (.lst ys) [x] st = .ok (.int (ys.countP (fun y => decide (y = x)) : Nat)) st := by
  obtain ⟨d, h1, h2⟩ := pdk_shaped (by omega) hx
  obtain ⟨ds, h3, h4⟩ := pdk_datas hk ys hy
  have e : dataIn (.lst ys) x st = some (ds, d) := by
    simp only [dataIn, lstOf, h3, h1]
    rw [if_pos ⟨h2, h4⟩]
  simp only [mth, e, countP_pdk hx h1 ys ds hy h3]
theorem findIdx_pdk {k : Nat} {x : Val} {d : PyData} (hx : pdk k x = true) (hd : dataOf x = some d) : ∀ (ys : List Val) (ds : List PyData), (∀ y ∈ ys, pdk k y = true) → dataOfs ys = some ds → ds.findIdx? (fun z => PyData.eqv z d) = ys.findIdx? fun y => decide (y = x) := by
  intro ys
  induction ys with
  | nil => intro ds _ h; cases h; simp
  | cons y ys ih =>
    intro ds hy h
    simp only [dataOfs, Option.bind_eq_some_iff, Option.map_eq_some_iff] at h
    obtain ⟨e, b1, es, b2, rfl⟩ := h
    simp only [List.findIdx?_cons, pdk_eqv k y x e d (hy y (.head _)) hx b1 hd, ih es (fun z hz => hy z (.tail _ hz)) b2]
/-- l.index(x) of such data -/
theorem index_pdk {k : Nat} {x : Val} {ys : List Val} {st : Store} (hk : k < 60) (hx : pdk k x = true) (hy : ∀ y ∈ ys, pdk k y = true) {j : Nat} (hj : ys.findIdx? (fun y => decide (y = x)) = some j) : mth .index (.lst ys) [x] st = .ok (.int (j : Nat)) st := by
  obtain ⟨d, h1, h2⟩ := pdk_shaped (by omega) hx
  obtain ⟨ds, h3, h4⟩ := pdk_datas hk ys hy
  have e : dataIn (.lst ys) x st = some (ds, d) := by
    simp only [dataIn, lstOf, h3, h1]
    rw [if_pos ⟨h2, h4⟩]
  simp only [mth, e, findIdx_pdk hx h1 ys ds hy h3, hj]
end MP
set_option maxHeartbeats 1000000
/-! law k31: what comes to each place -/
namespace MP.Pk31
open PySem L2 MP
open Classical
theorem pdk_place {c s : Int} {v : Val} (h : isPlace c s v = true) : pdk 1 v = true := by
  obtain ⟨w, i, rfl, hw⟩ := place_inv h
  simp [pdk, strOk_w hw]
theorem ite_yy {c : E} {a b : Ss} {env : Env} {st st' : Store} {r : Res} (h : evalE c env st = .ok (.bl true) st') (h2 : execs a env st' = r) : exec (.ite c a b) env st = r := by
  simp only [exec, h, Out.bind_ok, truth, Out.of_some, Out.res_ok, if_true, h2]
theorem ite_nn {c : E} {a b : Ss} {env : Env} {st st' : Store} {r : Res} (h : evalE c env st = .ok (.bl false) st') (h2 : execs b env st' = r) : exec (.ite c a b) env st = r := by
  simp only [exec, h, Out.bind_ok, truth, Out.of_some, Out.res_ok, Bool.false_eq_true, if_false, h2]
theorem two63 : (2 : Int) ^ 63 = 9223372036854775808 := by decide
theorem rep_ok {n : Nat} (h : n ≤ 1000) (x : Val) : (n : Int) < 2 ^ 63 ∧ -(2 ^ 63) ≤ (n : Int) ∧ ([x] : List Val).length * ((n : Nat) : Int).toNat ≤ sizeLine := by
  have := two63
  refine ⟨by omega, by omega, ?_⟩
  rw [Int.toNat_natCast, List.length_singleton, Nat.one_mul]
  unfold sizeLine
  omega
theorem rep_s {a b : E} {x : Val} {n : Nat} (h : n ≤ 1000) {env : Env} {S : Store} (h1 : evalE a env S = .ok (.lst [x]) S) (h2 : evalE b env S = .ok (.int (n : Int)) S) : evalN (.rep a b) env S = .ok (.lst (List.replicate (((n : Nat) : Int)).toNat [x]).flatten) S := by
  rw [evalN, h1, Out.bind_ok, h2, Out.bind_ok]
  exact if_pos (rep_ok h x)
theorem zeros (n : Nat) : (List.replicate ((n : Nat) : Int).toNat [Val.int 0]).flatten = (List.range n).map fun _ => Val.int 0 := by
  rw [Int.toNat_natCast]
  induction n with
  | zero => rfl
  | succ n ih => rw [List.replicate_succ', List.flatten_append, ih, List.range_succ, List.map_append]; rfl
def prK (sw : List Val) (hs : List Nat) (M : List Int) (k : Nat) : List (Val × Int) := (succs sw k).zip (rowF sw hs M k)
def PRn (sw : List Val) (hs : List Nat) (M : List Int) (n : Nat) : List (Val × Int) := (List.range n).flatMap (prK sw hs M)
theorem PRn_succ (sw : List Val) (hs : List Nat) (M : List Int) (n : Nat) : PRn sw hs M (n + 1) = PRn sw hs M n ++ prK sw hs M n := by simp [PRn, List.range_succ, List.flatMap_append]
noncomputable def cmO (A : List (Val × Int)) (p : Val) : Int := ((A.filter fun q => decide (q.1 = p)).map (·.2)).sum
theorem cmO_app (A B : List (Val × Int)) (p : Val) : cmO (A ++ B) p = cmO A p + cmO B p := by simp [cmO, List.filter_append, List.sum_append]
theorem cmO_one (q : Val × Int) (p : Val) : cmO [q] p = if q.1 = p then q.2 else 0 := by
  by_cases h : q.1 = p <;> simp [cmO, h]
noncomputable def cupL (C : Nat) (A : List (Val × Int)) : List Int := (List.range C).map fun c => cmO A (cpp c)
noncomputable def swL (m : Nat) (A : List (Val × Int)) : List Int := (List.range m).map fun t => cmO A (swp t)
theorem set_range {C c : Nat} (hc : c < C) {f g' : Nat → Int} {v : Int} (h1 : g' c = v) (h2 : ∀ d, d ≠ c → g' d = f d) : (((List.range C).map f).map Val.int).set c (.int v) = ((List.range C).map g').map Val.int := by
  apply List.ext_getElem?
  intro i
  by_cases e : c = i
  · subst e
    rw [List.getElem?_set_self (by simpa using hc)]
    simp [hc, h1]
  · rw [List.getElem?_set_ne e]
    by_cases hi : i < C
    · simp [hi, h2 i (Ne.symm e)]
    · rw [List.getElem?_eq_none (by simp; omega), List.getElem?_eq_none (by simp; omega)]
noncomputable def stI (st : Store) (C m : Nat) (A : List (Val × Int)) : Store := st ++ [Cell.lst ((cupL C A).map Val.int), Cell.lst ((swL m A).map Val.int)]
theorem stI_c (st : Store) (C m : Nat) (A : List (Val × Int)) : (stI st C m A)[st.length]? = some (.lst ((cupL C A).map Val.int)) := by simp [stI]
theorem stI_s (st : Store) (C m : Nat) (A : List (Val × Int)) : (stI st C m A)[st.length + 1]? = some (.lst ((swL m A).map Val.int)) := by simp [stI]
theorem put_cup (st : Store) {C m c : Nat} (hc : c < C) (A : List (Val × Int)) (z : Int) : (stI st C m A).set st.length (.lst (((cupL C A).map Val.int).set c (.int (cmO A (cpp c) + z)))) = stI st C m (A ++ [(cpp c, z)]) := by
  have e1 : ((cupL C A).map Val.int).set c (.int (cmO A (cpp c) + z)) = (cupL C (A ++ [(cpp c, z)])).map Val.int := set_range hc (by rw [cmO_app, cmO_one, if_pos rfl]) (fun d hd => by
    rw [cmO_app, cmO_one, if_neg (fun e => hd (by simp only [cpp, Val.tup.injEq, List.cons.injEq, Val.int.injEq] at e; omega)), Int.add_zero])
  have e2 : swL m (A ++ [(cpp c, z)]) = swL m A := by
    unfold swL
    refine List.map_congr_left fun t _ => ?_
    rw [cmO_app, cmO_one, if_neg (fun e => swp_ne t c e.symm), Int.add_zero]
  rw [e1]
  unfold stI
  rw [e2]
  simp
theorem put_sw (st : Store) {C m t : Nat} (ht : t < m) (A : List (Val × Int)) (z : Int) : (stI st C m A).set (st.length + 1) (.lst (((swL m A).map Val.int).set t (.int (cmO A (swp t) + z)))) = stI st C m (A ++ [(swp t, z)]) := by
  have e1 : ((swL m A).map Val.int).set t (.int (cmO A (swp t) + z)) = (swL m (A ++ [(swp t, z)])).map Val.int := set_range ht (by rw [cmO_app, cmO_one, if_pos rfl]) (fun d hd => by
    rw [cmO_app, cmO_one, if_neg (fun e => hd (swp_inj e).symm), Int.add_zero])
  have e2 : cupL C (A ++ [(swp t, z)]) = cupL C A := by
    unfold cupL
    refine List.map_congr_left fun c _ => ?_
    rw [cmO_app, cmO_one, if_neg (fun e => swp_ne t c e), Int.add_zero]
  rw [e1]
  unfold stI
  rw [e2]
  simp
theorem pair_range {sw : List Val} {R : List (List Int)} (h : R.length = sw.length) : pairUp sw (R.map iv) = (List.range sw.length).map fun k => Val.tup [sw.getD k .non, iv (R.getD k [])] := by
  apply List.ext_getElem?
  intro i
  simp only [pairUp, List.getElem?_map]
  by_cases hi : i < sw.length
  · have a1 := getD_at hi Val.non
    have a2 : (R.map iv)[i]? = some (iv (R.getD i [])) := by rw [List.getElem?_map, getD_at (l := R) (by omega) []]; rfl
    have b2 : (sw.zip (R.map iv))[i]? = some (sw.getD i .non, iv (R.getD i [])) := List.getElem?_zip_eq_some.mpr ⟨a1, a2⟩
    rw [b2, List.getElem?_range hi]
    rfl
  · rw [List.getElem?_eq_none (by simp; omega), List.getElem?_eq_none (by simp; omega)]; rfl
theorem pair_ints : ∀ (xs : List Val) (L : List Int), pairUp xs (L.map Val.int) = (xs.zip L).map fun q => Val.tup [q.1, .int q.2]
  | [], L => by simp [pairUp]
  | x :: xs, [] => by simp [pairUp]
  | x :: xs, l :: L => by
    have := pair_ints xs L
    simp only [pairUp] at this
    simp only [pairUp, List.map_cons, List.zip_cons_cons, this]
theorem ints_all : ∀ ns : List Int, intsOf (ns.map Val.int) = some ns
  | [] => rfl
  | n :: ns => by simp [intsOf, ints_all ns]
section
variable {cups : Nat} {sw : List Val}
theorem fl_at {hs : List Nat} {M : List Int} {k : Nat} (hk : k < sw.length) : (flL sw hs M).getD k [] = rowF sw hs M k := by
  rw [List.getD_eq_getElem?_getD]; simp [flL, hk]
theorem fl_len (sw : List Val) (hs : List Nat) (M : List Int) : (flL sw hs M).length = sw.length := by simp [flL]
theorem pr_place (g : GB cups sw) {hs : List Nat} {M : List Int} {k : Nat} (hk : k < sw.length) : ∀ q ∈ prK sw hs M k, isPlace cups sw.length q.1 = true := fun q hq => by
  obtain ⟨xs, e1, e2, l1, l4, hx, hp⟩ := sz_ok g hk
  have : q.1 ∈ succs sw k := (List.of_mem_zip hq).1
  rw [succs_at hx] at this
  exact List.all_eq_true.mp hp _ this
theorem pr_len (g : GB cups sw) {hs : List Nat} {M : List Int} {k : Nat} (hk : k < sw.length) : (prK sw hs M k).length ≤ 4 := by
  obtain ⟨xs, e1, e2, l1, l4, hx, hp⟩ := sz_ok g hk
  have : (prK sw hs M k).length ≤ (succs sw k).length := by simp only [prK, List.length_zip]; omega
  rw [succs_at hx] at this; omega
abbrev envI (B HV MV : Val) (n : Nat) (o5 o6 o7 o8 o9 : Option Val) : Env := [some B, some HV, some MV, some (.ref n), some (.ref (n + 1)), o5, o6, o7, o8, o9]
theorem in_turn (g : GB cups sw) (HV MV : Val) (st : Store) (A : List (Val × Int)) {q : Val × Int} (hq : isPlace cups sw.length q.1 = true) (o5 o6 o7 o8 o9 : Option Val) :
    ∃ p8 p9, turnL (.tup [.tup [.name 8, .name 9], .name 7]) lb_raw_inflow_0 (.tup [q.1, .int q.2]) (envI (bd cups sw) HV MV st.length o5 o6 o7 o8 o9) (stI st cups sw.length A) = .nx (envI (bd cups sw) HV MV st.length o5 o6 (some (.int q.2)) p8 p9) (stI st cups sw.length (A ++ [q])) := by
  obtain ⟨p, z⟩ := q
  have ne : ¬ (PySem.Str.ofString "switch" = PySem.Str.ofString "cup") := by decide
  have cC := stI_c st cups sw.length A
  have cS := stI_s st cups sw.length A
  simp only at hq ⊢
  rcases place_form hq with ⟨t, ht, rfl⟩ | ⟨c, hc, rfl⟩
  · have eb : bindT (.tup [.tup [.name 8, .name 9], .name 7]) (.tup [swp t, .int z]) (envI (bd cups sw) HV MV st.length o5 o6 o7 o8 o9) = some (envI (bd cups sw) HV MV st.length o5 o6 (some (.int z)) (some (.str "switch")) (some (.int t))) := rfl
    refine ⟨some (.str "switch"), some (.int t), (turnL_eq eb).trans ?_⟩
    have h5 : ((swL sw.length A).map Val.int)[t]? = some (.int (cmO A (swp t))) := by simp [swL, ht]
    have g5 : idxA (.ref (st.length + 1)) (.int (t : Int)) (stI st cups sw.length A) = some (.int (cmO A (swp t))) := by
      simp only [idxA, cS]
      rw [if_pos (by omega)]
      simpa using h5
    have s5 := set_at cS (show t < ((swL sw.length A).map Val.int).length by simp [swL, ht]) (.int (cmO A (swp t) + z))
    rw [put_sw st ht A z] at s5
    generalize stI st cups sw.length A = S0 at *
    generalize stI st cups sw.length (A ++ [(swp t, z)]) = S1 at *
    unfold lb_raw_inflow_0
    refine execs_nx (ite_nn (st' := S0) (by simp [runFn, execs, exec, evalEs, evalEo, evalN_lst, evalN_dct, evalIt, popTo_self, e_var, e_lit, e_gcon, e_gfn, e_bin, e_neg, e_cmp, e_isn, e_isb, e_and, e_or, e_not, e_ite, e_tup, e_val, e_cell, e_idx, e_slc, e_blt, e_isi, e_call, e_word, e_mth, e_rev, e_lenset, e_callv, cop, eqV, ne]) ?_) execs_nil
    refine execs_nx ?_ execs_nil
    simp [exec, runFn, execs, exec, evalEs, evalEo, evalN_lst, evalN_dct, evalIt, popTo_self, e_var, e_lit, e_gcon, e_gfn, e_bin, e_neg, e_cmp, e_isn, e_isb, e_and, e_or, e_not, e_ite, e_tup, e_val, e_cell, e_idx, e_slc, e_blt, e_isi, e_call, e_word, e_mth, e_rev, e_lenset, e_callv, g5, bop_add, s5]
  · have hc : c < cups := by omega
    have eb : bindT (.tup [.tup [.name 8, .name 9], .name 7]) (.tup [cpp c, .int z]) (envI (bd cups sw) HV MV st.length o5 o6 o7 o8 o9) = some (envI (bd cups sw) HV MV st.length o5 o6 (some (.int z)) (some (.str "cup")) (some (.int c))) := rfl
    refine ⟨some (.str "cup"), some (.int c), (turnL_eq eb).trans ?_⟩
    have h5 : ((cupL cups A).map Val.int)[c]? = some (.int (cmO A (cpp c))) := by simp [cupL, hc]
    have g5 : idxA (.ref st.length) (.int (c : Int)) (stI st cups sw.length A) = some (.int (cmO A (cpp c))) := by
      simp only [idxA, cC]
      rw [if_pos (by omega)]
      simpa using h5
    have s5 := set_at cC (show c < ((cupL cups A).map Val.int).length by simp [cupL, hc]) (.int (cmO A (cpp c) + z))
    rw [put_cup st hc A z] at s5
    generalize stI st cups sw.length A = S0 at *
    generalize stI st cups sw.length (A ++ [(cpp c, z)]) = S1 at *
    unfold lb_raw_inflow_0
    refine execs_nx (ite_yy (st' := S0) (by simp [runFn, execs, exec, evalEs, evalEo, evalN_lst, evalN_dct, evalIt, popTo_self, e_var, e_lit, e_gcon, e_gfn, e_bin, e_neg, e_cmp, e_isn, e_isb, e_and, e_or, e_not, e_ite, e_tup, e_val, e_cell, e_idx, e_slc, e_blt, e_isi, e_call, e_word, e_mth, e_rev, e_lenset, e_callv, cop, eqV]) ?_) execs_nil
    refine execs_nx ?_ execs_nil
    simp [exec, runFn, execs, exec, evalEs, evalEo, evalN_lst, evalN_dct, evalIt, popTo_self, e_var, e_lit, e_gcon, e_gfn, e_bin, e_neg, e_cmp, e_isn, e_isb, e_and, e_or, e_not, e_ite, e_tup, e_val, e_cell, e_idx, e_slc, e_blt, e_isi, e_call, e_word, e_mth, e_rev, e_lenset, e_callv, g5, bop_add, s5]
theorem in_r1 (g : GB cups sw) (HV MV : Val) (st : Store) : evalN (.rep (.val (.lst (.cons (.lit (.int 0)) .nil))) (.idx (.var 0) (.lit (.int 0)))) [some (bd cups sw), some HV, some MV, none, none, none, none, none, none, none] st = .ok (.lst ((List.range cups).map fun _ => Val.int 0)) st := by
  have hC := g.cups
  rw [← zeros]
  exact rep_s (a := .val (.lst (.cons (.lit (.int 0)) .nil))) (b := .idx (.var 0) (.lit (.int 0))) (x := .int 0) (n := cups) (by omega) (by simp [runFn, execs, exec, evalEs, evalEo, evalN_lst, evalN_dct, evalIt, popTo_self, e_var, e_lit, e_gcon, e_gfn, e_bin, e_neg, e_cmp, e_isn, e_isb, e_and, e_or, e_not, e_ite, e_tup, e_val, e_cell, e_idx, e_slc, e_blt, e_isi, e_call, e_word, e_mth, e_rev, e_lenset, e_callv, sizeLine]) (by simp [runFn, execs, exec, evalEs, evalEo, evalN_lst, evalN_dct, evalIt, popTo_self, e_var, e_lit, e_gcon, e_gfn, e_bin, e_neg, e_cmp, e_isn, e_isb, e_and, e_or, e_not, e_ite, e_tup, e_val, e_cell, e_idx, e_slc, e_blt, e_isi, e_call, e_word, e_mth, e_rev, e_lenset, e_callv, idx0])
theorem in_r2 (g : GB cups sw) (HV MV : Val) (st : Store) : evalN (.rep (.val (.lst (.cons (.lit (.int 0)) .nil))) (.blt .len (.cons (.idx (.var 0) (.lit (.int 1))) .nil))) [some (bd cups sw), some HV, some MV, none, none, none, none, none, none, none] st = .ok (.lst ((List.range sw.length).map fun _ => Val.int 0)) st := by
  have hl := g.len
  rw [← zeros]
  exact rep_s (a := .val (.lst (.cons (.lit (.int 0)) .nil))) (b := .blt .len (.cons (.idx (.var 0) (.lit (.int 1))) .nil)) (x := .int 0) (n := sw.length) (by omega) (by simp [runFn, execs, exec, evalEs, evalEo, evalN_lst, evalN_dct, evalIt, popTo_self, e_var, e_lit, e_gcon, e_gfn, e_bin, e_neg, e_cmp, e_isn, e_isb, e_and, e_or, e_not, e_ite, e_tup, e_val, e_cell, e_idx, e_slc, e_blt, e_isi, e_call, e_word, e_mth, e_rev, e_lenset, e_callv, sizeLine]) (by simp [runFn, execs, exec, evalEs, evalEo, evalN_lst, evalN_dct, evalIt, popTo_self, e_var, e_lit, e_gcon, e_gfn, e_bin, e_neg, e_cmp, e_isn, e_isb, e_and, e_or, e_not, e_ite, e_tup, e_val, e_cell, e_idx, e_slc, e_blt, e_isi, e_call, e_word, e_mth, e_rev, e_lenset, e_callv, idx1, blt, lenOf])
theorem stI_nil (st : Store) (C m : Nat) : stI st C m [] = st ++ [.lst ((List.range C).map fun _ => Val.int 0), .lst ((List.range m).map fun _ => Val.int 0)] := by
  simp [stI, cupL, swL, cmO, Function.comp_def]
theorem in_init (g : GB cups sw) (HV MV : Val) (st : Store) : exec (.par [3, 4] (.cons (.cell (.rep (.val (.lst (.cons (.lit (.int 0)) .nil))) (.idx (.var 0) (.lit (.int 0))))) (.cons (.cell (.rep (.val (.lst (.cons (.lit (.int 0)) .nil))) (.blt .len (.cons (.idx (.var 0) (.lit (.int 1))) .nil)))) (.nil)))) [some (bd cups sw), some HV, some MV, none, none, none, none, none, none, none] st = .nx (envI (bd cups sw) HV MV st.length none none none none none) (stI st cups sw.length []) := by
  have r1 := in_r1 g HV MV st
  have r2 := fun S => in_r2 g HV MV S
  rw [stI_nil]
  generalize ((List.range cups).map fun _ => Val.int 0) = Z1 at *
  generalize ((List.range sw.length).map fun _ => Val.int 0) = Z2 at *
  simp only [exec, evalEs, e_cell, r1, Out.bind_ok, r2, Out.res_ok, setAll]
  simp
theorem raw_inflow_s (g : GB cups sw) {hs : List Nat} (H : HS sw hs) {M : List Int} (o : MO sw M) (st : Store) : D_raw_inflow [bd cups sw, hv hs, iv M] st = .ok (.tup [.lst ((cupL cups (PRn sw hs M sw.length)).map Val.int), .lst ((swL sw.length (PRn sw hs M sw.length)).map Val.int)]) st := by
  have hl := g.len
  have hC := g.cups
  have ro := fun S => raw_outflow_s g H o S
  have ro : ∀ S, D_raw_outflow [bd cups sw, hv hs, iv M] S = .ok (.tup ((flL sw hs M).map iv)) S := ro
  have key := forL_ddA (v := fun k => Val.tup [sw.getD k .non, iv ((flL sw hs M).getD k [])]) (f := turnL (.tup [.name 5, .name 6]) lb_raw_inflow_1) (all := List.range sw.length) (env := envI (bd cups sw) (hv hs) (iv M) st.length none none none none none) (st := stI st cups sw.length [])
    (P := fun d1 env st' => st' = stI st cups sw.length (PRn sw hs M d1.length) ∧ ∃ a b c d e, env = envI (bd cups sw) (hv hs) (iv M) st.length a b c d e) ⟨rfl, none, none, none, none, none, rfl⟩ (fun d1 k d2 env st' e hq => ?_)
  · obtain ⟨env', st', f1, rfl, a, b, c, d, e, rfl⟩ := key
    rw [List.length_range] at f1
    have el : exec l_raw_inflow_1 (envI (bd cups sw) (hv hs) (iv M) st.length none none none none none) (stI st cups sw.length []) = .nx (envI (bd cups sw) (hv hs) (iv M) st.length a b c d e) (stI st cups sw.length (PRn sw hs M sw.length)) := by
      unfold l_raw_inflow_1
      rw [exec_loop]
      have ei : evalIt (.zip (.idx (.var 0) (.lit (.int 1))) (.call "raw_outflow" D_raw_outflow (.cons (.var 0) (.cons (.var 1) (.cons (.var 2) .nil))))) (envI (bd cups sw) (hv hs) (iv M) st.length none none none none none) (stI st cups sw.length []) = .ok ((List.range sw.length).map fun k => Val.tup [sw.getD k .non, iv ((flL sw hs M).getD k [])]) (stI st cups sw.length []) := by
        rw [← pair_range (fl_len sw hs M)]
        have ro := ro (stI st cups sw.length [])
        generalize stI st cups sw.length [] = S at *
        generalize (flL sw hs M).map iv = FL at *
        generalize hv hs = HV at *
        generalize iv M = MV at *
        simp [evalIt, runFn, execs, exec, evalEs, evalEo, evalN_lst, evalN_dct, evalIt, popTo_self, e_var, e_lit, e_gcon, e_gfn, e_bin, e_neg, e_cmp, e_isn, e_isb, e_and, e_or, e_not, e_ite, e_tup, e_val, e_cell, e_idx, e_slc, e_blt, e_isi, e_call, e_word, e_mth, e_rev, e_lenset, e_callv, idx1, ro]
      rw [ei, Out.res_ok]
      exact f1
    have n0 : ∀ ns : List Int, noRef (.lst (ns.map Val.int)) = true := fun ns => by
      simp only [noRef]
      exact noRefs_all fun x hx => by
        obtain ⟨n, _, rfl⟩ := List.mem_map.mp hx
        rfl
    have h1 := in_init g (hv hs) (iv M) st
    have h3 : exec (.frz 3) (envI (bd cups sw) (hv hs) (iv M) st.length a b c d e) (stI st cups sw.length (PRn sw hs M sw.length)) = .nx [some (bd cups sw), some (hv hs), some (iv M), some (.lst ((cupL cups (PRn sw hs M sw.length)).map Val.int)), some (.ref (st.length + 1)), a, b, c, d, e] (st ++ [.dead, .lst ((swL sw.length (PRn sw hs M sw.length)).map Val.int)]) := by
      unfold stI
      simp [exec, frzE]
    have h4 : exec (.frz 4) [some (bd cups sw), some (hv hs), some (iv M), some (.lst ((cupL cups (PRn sw hs M sw.length)).map Val.int)), some (.ref (st.length + 1)), a, b, c, d, e] (st ++ [.dead, .lst ((swL sw.length (PRn sw hs M sw.length)).map Val.int)]) = .nx [some (bd cups sw), some (hv hs), some (iv M), some (.lst ((cupL cups (PRn sw hs M sw.length)).map Val.int)), some (.lst ((swL sw.length (PRn sw hs M sw.length)).map Val.int)), a, b, c, d, e] (st ++ [.dead, .dead]) := by
      simp [exec, frzE]
    have nr : noRef (.tup [.lst ((cupL cups (PRn sw hs M sw.length)).map Val.int), .lst ((swL sw.length (PRn sw hs M sw.length)).map Val.int)]) = true := by
      have q1 := n0 (cupL cups (PRn sw hs M sw.length))
      have q2 := n0 (swL sw.length (PRn sw hs M sw.length))
      generalize Val.lst ((cupL cups (PRn sw hs M sw.length)).map Val.int) = R1 at *
      generalize Val.lst ((swL sw.length (PRn sw hs M sw.length)).map Val.int) = R2 at *
      simp [noRef, noRefs, q1, q2]
    have pp : popTo st (st ++ [.dead, .dead]) (some (.tup [.lst ((cupL cups (PRn sw hs M sw.length)).map Val.int), .lst ((swL sw.length (PRn sw hs M sw.length)).map Val.int)])) = st := by
      rw [popTo_pre (fun x hx => by cases hx; exact nr) (fun n c hn hc => .inl (by rw [List.getElem?_append_left hn] at hc; exact hc))]
      simp
    generalize (cupL cups (PRn sw hs M sw.length)).map Val.int = R1 at *
    generalize (swL sw.length (PRn sw hs M sw.length)).map Val.int = R2 at *
    generalize hv hs = HV at *
    generalize iv M = MV at *
    have hx : execs b_raw_inflow [some (bd cups sw), some HV, some MV, none, none, none, none, none, none, none] st = .rt (.tup [.lst R1, .lst R2]) (st ++ [.dead, .dead]) := by
      unfold b_raw_inflow
      refine execs_nx h1 (execs_nx el (execs_nx h3 (execs_nx h4 ?_)))
      generalize st ++ [Cell.dead, Cell.dead] = S
      simp [execs, exec, runFn, execs, exec, evalEs, evalEo, evalN_lst, evalN_dct, evalIt, popTo_self, e_var, e_lit, e_gcon, e_gfn, e_bin, e_neg, e_cmp, e_isn, e_isb, e_and, e_or, e_not, e_ite, e_tup, e_val, e_cell, e_idx, e_slc, e_blt, e_isi, e_call, e_word, e_mth, e_rev, e_lenset, e_callv, sizeLine]
    simp only [D_raw_inflow, runFn, List.length_cons, List.length_nil, if_true, List.map_cons, List.map_nil, List.replicate, Nat.reduceSub, Nat.reduceAdd, List.cons_append, List.nil_append, hx, pp]
  · obtain ⟨rfl, a, b, c, d, e', rfl⟩ := hq
    have hk : k < sw.length := List.mem_range.mp (by rw [e]; simp)
    have ek : k = d1.length := by
      have h1 : (List.range sw.length)[d1.length]? = some k := by rw [e]; simp
      have h2 : d1.length < sw.length := by have := congrArg List.length e; simp at this; omega
      rw [List.getElem?_range h2] at h1
      exact (Option.some.inj h1).symm
    obtain ⟨xs, e1, e2, l1, l4, hx, hp⟩ := sz_ok g hk
    rw [fl_at hk, e1, ← ek]
    have eb : bindT (.tup [.name 5, .name 6]) (.tup [.tup xs, iv (rowF sw hs M k)]) (envI (bd cups sw) (hv hs) (iv M) st.length a b c d e') = some (envI (bd cups sw) (hv hs) (iv M) st.length (some (.tup xs)) (some (iv (rowF sw hs M k))) c d e') := rfl
    have key2 := forL_ddA (v := fun q : Val × Int => Val.tup [q.1, .int q.2]) (f := turnL (.tup [.tup [.name 8, .name 9], .name 7]) lb_raw_inflow_0) (all := prK sw hs M k) (env := envI (bd cups sw) (hv hs) (iv M) st.length (some (.tup xs)) (some (iv (rowF sw hs M k))) c d e') (st := stI st cups sw.length (PRn sw hs M k))
      (P := fun d1 env st2 => st2 = stI st cups sw.length (PRn sw hs M k ++ d1) ∧ ∃ x y z, env = envI (bd cups sw) (hv hs) (iv M) st.length (some (.tup xs)) (some (iv (rowF sw hs M k))) x y z) ⟨by simp, c, d, e', rfl⟩ (fun d1 q d2 env st2 e3 hq2 => by
        obtain ⟨rfl, x, y, z, rfl⟩ := hq2
        have hqp := pr_place g (hs := hs) (M := M) hk q (by rw [e3]; simp)
        obtain ⟨p8, p9, t⟩ := in_turn g (hv hs) (iv M) st (PRn sw hs M k ++ d1) hqp (some (.tup xs)) (some (iv (rowF sw hs M k))) x y z
        rw [List.append_assoc] at t
        exact ⟨_, _, t, rfl, _, _, _, rfl⟩)
    obtain ⟨env2, st2, f2, rfl, x, y, z, rfl⟩ := key2
    rw [← PRn_succ] at f2
    have el : exec l_raw_inflow_0 (envI (bd cups sw) (hv hs) (iv M) st.length (some (.tup xs)) (some (iv (rowF sw hs M k))) c d e') (stI st cups sw.length (PRn sw hs M k)) = .nx (envI (bd cups sw) (hv hs) (iv M) st.length (some (.tup xs)) (some (iv (rowF sw hs M k))) x y z) (stI st cups sw.length (PRn sw hs M (k + 1))) := by
      unfold l_raw_inflow_0
      rw [exec_loop]
      have ei : evalIt (.zip (.var 5) (.var 6)) (envI (bd cups sw) (hv hs) (iv M) st.length (some (.tup xs)) (some (iv (rowF sw hs M k))) c d e') (stI st cups sw.length (PRn sw hs M k)) = .ok ((prK sw hs M k).map fun q => Val.tup [q.1, .int q.2]) (stI st cups sw.length (PRn sw hs M k)) := by
        unfold prK
        rw [succs_at hx, ← pair_ints]
        generalize stI st cups sw.length (PRn sw hs M k) = S
        simp only [iv]
        generalize (rowF sw hs M k).map Val.int = RW
        simp [evalIt, runFn, execs, exec, evalEs, evalEo, evalN_lst, evalN_dct, evalIt, popTo_self, e_var, e_lit, e_gcon, e_gfn, e_bin, e_neg, e_cmp, e_isn, e_isb, e_and, e_or, e_not, e_ite, e_tup, e_val, e_cell, e_idx, e_slc, e_blt, e_isi, e_call, e_word, e_mth, e_rev, e_lenset, e_callv]
      rw [ei, Out.res_ok]
      exact f2
    refine ⟨envI (bd cups sw) (hv hs) (iv M) st.length (some (.tup xs)) (some (iv (rowF sw hs M k))) x y z, stI st cups sw.length (PRn sw hs M (k + 1)), (turnL_eq eb).trans ?_, by rw [List.length_append, List.length_singleton, ← ek], _, _, _, _, _, rfl⟩
    unfold lb_raw_inflow_1
    exact execs_nx el execs_nil
/-! ### by the law -/
theorem law_come_s (g : GB cups sw) {hs : List Nat} (H : HS sw hs) {M : List Int} {p : Val} (hp : isPlace cups sw.length p = true) (st : Store) : D_law_come [bd cups sw, flV sw hs M, p] st = .ok (.int (cmO (PRn sw hs M sw.length) p)) st := by
  have hl := g.len
  have key := forL_ddA (v := fun k => Val.tup [sw.getD k .non, iv ((flL sw hs M).getD k [])]) (f := turnL (.tup [.name 4, .name 5]) lb_law_come_0) (all := List.range sw.length) (env := [some (bd cups sw), some (flV sw hs M), some p, some (.int 0), none, none, none, none]) (st := st)
    (P := fun d1 env st' => st' = st ∧ ∃ a b, env = [some (bd cups sw), some (flV sw hs M), some p, some (.int (cmO (PRn sw hs M d1.length) p)), a, b, none, none]) ⟨rfl, none, none, rfl⟩ (fun d1 k d2 env st' e hq => ?_)
  · obtain ⟨env', st', f1, rfl, a, b, rfl⟩ := key
    rw [List.length_range] at f1
    have el : exec l_law_come_0 [some (bd cups sw), some (flV sw hs M), some p, some (.int 0), none, none, none, none] st' = .nx [some (bd cups sw), some (flV sw hs M), some p, some (.int (cmO (PRn sw hs M sw.length) p)), a, b, none, none] st' := by
      unfold l_law_come_0
      rw [exec_loop]
      have ei : evalIt (.zip (.idx (.var 0) (.lit (.int 1))) (.var 1)) [some (bd cups sw), some (flV sw hs M), some p, some (.int 0), none, none, none, none] st' = .ok ((List.range sw.length).map fun k => Val.tup [sw.getD k .non, iv ((flL sw hs M).getD k [])]) st' := by
        rw [← pair_range (fl_len sw hs M)]
        simp only [flV]
        generalize (flL sw hs M).map iv = FL
        simp [evalIt, runFn, execs, exec, evalEs, evalEo, evalN_lst, evalN_dct, evalIt, popTo_self, e_var, e_lit, e_gcon, e_gfn, e_bin, e_neg, e_cmp, e_isn, e_isb, e_and, e_or, e_not, e_ite, e_tup, e_val, e_cell, e_idx, e_slc, e_blt, e_isi, e_call, e_word, e_mth, e_rev, e_lenset, e_callv, idx1]
      rw [ei, Out.res_ok]
      exact f1
    generalize flV sw hs M = FV at *
    generalize cmO (PRn sw hs M sw.length) p = Z at *
    have hx : execs b_law_come [some (bd cups sw), some FV, some p, none, none, none, none, none] st' = .rt (.int Z) st' := by
      unfold b_law_come
      refine execs_nx (env' := [some (bd cups sw), some FV, some p, some (.int 0), none, none, none, none]) (st' := st') (by simp [exec, runFn, execs, exec, evalEs, evalEo, evalN_lst, evalN_dct, evalIt, popTo_self, e_var, e_lit, e_gcon, e_gfn, e_bin, e_neg, e_cmp, e_isn, e_isb, e_and, e_or, e_not, e_ite, e_tup, e_val, e_cell, e_idx, e_slc, e_blt, e_isi, e_call, e_word, e_mth, e_rev, e_lenset, e_callv]) (execs_nx el ?_)
      simp [execs, exec, runFn, execs, exec, evalEs, evalEo, evalN_lst, evalN_dct, evalIt, popTo_self, e_var, e_lit, e_gcon, e_gfn, e_bin, e_neg, e_cmp, e_isn, e_isb, e_and, e_or, e_not, e_ite, e_tup, e_val, e_cell, e_idx, e_slc, e_blt, e_isi, e_call, e_word, e_mth, e_rev, e_lenset, e_callv]
    simp only [D_law_come, runFn, List.length_cons, List.length_nil, if_true, List.map_cons, List.map_nil, List.replicate, Nat.reduceSub, Nat.reduceAdd, List.cons_append, List.nil_append, hx, popTo_self]
  · obtain ⟨rfl, a, b, rfl⟩ := hq
    have hk : k < sw.length := List.mem_range.mp (by rw [e]; simp)
    have ek : k = d1.length := by
      have h1 : (List.range sw.length)[d1.length]? = some k := by rw [e]; simp
      have h2 : d1.length < sw.length := by have := congrArg List.length e; simp at this; omega
      rw [List.getElem?_range h2] at h1
      exact (Option.some.inj h1).symm
    obtain ⟨xs, e1, e2, l1, l4, hx, _⟩ := sz_ok g hk
    rw [fl_at hk, e1, ← ek]
    have eb : bindT (.tup [.name 4, .name 5]) (.tup [.tup xs, iv (rowF sw hs M k)]) [some (bd cups sw), some (flV sw hs M), some p, some (.int (cmO (PRn sw hs M k) p)), a, b, none, none] = some [some (bd cups sw), some (flV sw hs M), some p, some (.int (cmO (PRn sw hs M k) p)), some (.tup xs), some (iv (rowF sw hs M k)), none, none] := rfl
    have cc : evalN c_law_come_0 [some (bd cups sw), some (flV sw hs M), some p, some (.int (cmO (PRn sw hs M k) p)), some (.tup xs), some (iv (rowF sw hs M k)), none, none] st' = .ok (.lst ((((prK sw hs M k).filter fun q => decide (q.1 = p)).map (·.2)).map Val.int)) st' := by
      rw [List.map_map (f := fun q : Val × Int => q.2)]
      unfold c_law_come_0
      refine comp_ddf (v := fun q : Val × Int => Val.tup [q.1, .int q.2]) (F := prK sw hs M k) (w := fun q => Val.int q.2) (p := fun q => decide (q.1 = p)) ?_ (fun q hq => ⟨_, rfl, ?_, fun _ => ?_⟩) (by have := pr_len g (hs := hs) (M := M) hk; unfold sizeLine; omega)
      · generalize flV sw hs M = FV
        generalize cmO (PRn sw hs M k) p = Z
        unfold prK
        rw [succs_at hx, ← pair_ints]
        simp only [iv]
        generalize (rowF sw hs M k).map Val.int = RW
        simp [evalIt, runFn, execs, exec, evalEs, evalEo, evalN_lst, evalN_dct, evalIt, popTo_self, e_var, e_lit, e_gcon, e_gfn, e_bin, e_neg, e_cmp, e_isn, e_isb, e_and, e_or, e_not, e_ite, e_tup, e_val, e_cell, e_idx, e_slc, e_blt, e_isi, e_call, e_word, e_mth, e_rev, e_lenset, e_callv]
      · have ev := eqV_pdk (k := 1) (v := q.1) (u := p) (by decide) (pdk_place (pr_place g hk q hq)) (pdk_place hp)
        generalize flV sw hs M = FV
        generalize iv (rowF sw hs M k) = RW
        generalize q.1 = q1 at *
        simp [runFn, execs, exec, evalEs, evalEo, evalN_lst, evalN_dct, evalIt, popTo_self, e_var, e_lit, e_gcon, e_gfn, e_bin, e_neg, e_cmp, e_isn, e_isb, e_and, e_or, e_not, e_ite, e_tup, e_val, e_cell, e_idx, e_slc, e_blt, e_isi, e_call, e_word, e_mth, e_rev, e_lenset, e_callv, wipeE, cop, ev]
      · generalize flV sw hs M = FV
        generalize iv (rowF sw hs M k) = RW
        simp [runFn, execs, exec, evalEs, evalEo, evalN_lst, evalN_dct, evalIt, popTo_self, e_var, e_lit, e_gcon, e_gfn, e_bin, e_neg, e_cmp, e_isn, e_isb, e_and, e_or, e_not, e_ite, e_tup, e_val, e_cell, e_idx, e_slc, e_blt, e_isi, e_call, e_word, e_mth, e_rev, e_lenset, e_callv, wipeE]
    have sm : blt .sum [.lst ((((prK sw hs M k).filter fun q => decide (q.1 = p)).map (·.2)).map Val.int)] st' = some (.int (cmO (prK sw hs M k) p)) := by
      simp only [blt, ints_all, Option.map_some]; rfl
    refine ⟨[some (bd cups sw), some (flV sw hs M), some p, some (.int (cmO (PRn sw hs M (k + 1)) p)), some (.tup xs), some (iv (rowF sw hs M k)), none, none], st', (turnL_eq eb).trans ?_, rfl, _, _, by rw [List.length_append, List.length_singleton, ← ek]⟩
    rw [PRn_succ, cmO_app]
    generalize ((((prK sw hs M k).filter fun q => decide (q.1 = p)).map (·.2)).map Val.int) = W at *
    generalize flV sw hs M = FV at *
    generalize iv (rowF sw hs M k) = RW at *
    generalize cmO (PRn sw hs M k) p = Z at *
    generalize cmO (prK sw hs M k) p = Z2 at *
    unfold lb_law_come_0
    refine execs_nx ?_ execs_nil
    simp [exec, runFn, execs, exec, evalEs, evalEo, evalN_lst, evalN_dct, evalIt, popTo_self, e_var, e_lit, e_gcon, e_gfn, e_bin, e_neg, e_cmp, e_isn, e_isb, e_and, e_or, e_not, e_ite, e_tup, e_val, e_cell, e_idx, e_slc, e_blt, e_isi, e_call, e_word, e_mth, e_rev, e_lenset, e_callv, cc, sm, bop_add]
end
end MP.Pk31
set_option maxHeartbeats 1000000
/-! law k31: heaps, moves, errors; who waits -/
namespace MP.Pk31
open PySem L2 MP
open Classical
def numV (v : Val) : Bool := match v with
  | .int i => decide (0 ≤ i)
  | _ => false
theorem is_number_s (v : Val) (st : Store) (h : plainV v = true) : D_is_number [v] st = .ok (.bl (numV v)) st := by
  have e := is_integer_s v st h
  cases v <;> simp [plainV] at h <;> simp [D_is_number, b_is_number, runFn, execs, exec, evalEs, evalEo, evalN_lst, evalN_dct, evalIt, popTo_self, e_var, e_lit, e_gcon, e_gfn, e_bin, e_neg, e_cmp, e_isn, e_isb, e_and, e_or, e_not, e_ite, e_tup, e_val, e_cell, e_idx, e_slc, e_blt, e_isi, e_call, e_word, e_mth, e_rev, e_lenset, e_callv, isInst, truth, isIntV, e, numV, cop]
abbrev e30 : Int := 1000000000000000000000000000000
def heapV (v : Val) : Bool := within v 0 e30
def isAll (f : Val → Bool) (sw : List Val) (v : Val) : Bool := match v with
  | .tup xs => decide ((xs.length : Int) = sw.length) && xs.all f
  | _ => false
theorem isAll_no {f : Val → Bool} {sw : List Val} {v : Val} (h : tupLen v sw.length = false) : isAll f sw v = false := by
  unfold isAll
  split
  · simp only [tupLen] at h
    rw [h]; rfl
  · rfl
section
variable {cups : Int} {sw : List Val}
theorem raw_is_heap_s (g : GB cups sw) (v : Val) (hp : plain2 v = true) (st : Store) : D_raw_is_heap [bd cups sw, v] st = .ok (.bl (isAll heapV sw v)) st := by
  have e := is_tuple_of_s v sw.length st (plain2_1 hp)
  cases ht : tupLen v sw.length with
  | false =>
    rw [ht] at e
    simp [D_raw_is_heap, b_raw_is_heap, runFn, execs, exec, evalEs, evalEo, evalN_lst, evalN_dct, evalIt, popTo_self, e_var, e_lit, e_gcon, e_gfn, e_bin, e_neg, e_cmp, e_isn, e_isb, e_and, e_or, e_not, e_ite, e_tup, e_val, e_cell, e_idx, e_slc, e_blt, e_isi, e_call, e_word, e_mth, e_rev, e_lenset, e_callv, truth, e, isAll_no ht, idx1, blt, lenOf]
  | true =>
    rw [ht] at e
    cases v <;> simp [tupLen] at ht
    rename_i hs
    have hl := g.len
    have c : evalN c_raw_is_heap_0 [some (bd cups sw), some (.tup hs), none] st = .ok (.lst (hs.map fun p => .bl (heapV p))) st := by
      unfold c_raw_is_heap_0
      refine comp_map (items := hs) (by simp [evalIt, runFn, execs, exec, evalEs, evalEo, evalN_lst, evalN_dct, evalIt, popTo_self, e_var, e_lit, e_gcon, e_gfn, e_bin, e_neg, e_cmp, e_isn, e_isb, e_and, e_or, e_not, e_ite, e_tup, e_val, e_cell, e_idx, e_slc, e_blt, e_isi, e_call, e_word, e_mth, e_rev, e_lenset, e_callv, walkSeq]) (fun p hm => ?_) (by unfold sizeLine; omega)
      have hw := is_within_s p 0 e30 st (List.all_eq_true.mp hp _ hm)
      refine ⟨_, rfl, ?_⟩
      simp [runFn, execs, exec, evalEs, evalEo, evalN_lst, evalN_dct, evalIt, popTo_self, e_var, e_lit, e_gcon, e_gfn, e_bin, e_neg, e_cmp, e_isn, e_isb, e_and, e_or, e_not, e_ite, e_tup, e_val, e_cell, e_idx, e_slc, e_blt, e_isi, e_call, e_word, e_mth, e_rev, e_lenset, e_callv, wipeE, hw, heapV]
    have al : (hs.map heapV).all id = hs.all heapV := by rw [List.all_map]; rfl
    simp [D_raw_is_heap, b_raw_is_heap, runFn, execs, exec, evalEs, evalEo, evalN_lst, evalN_dct, evalIt, popTo_self, e_var, e_lit, e_gcon, e_gfn, e_bin, e_neg, e_cmp, e_isn, e_isb, e_and, e_or, e_not, e_ite, e_tup, e_val, e_cell, e_idx, e_slc, e_blt, e_isi, e_call, e_word, e_mth, e_rev, e_lenset, e_callv, truth, e, idx1, blt, lenOf, c, bools_map, isAll, ht, al]
theorem raw_are_moves_s (g : GB cups sw) (v : Val) (hp : plain2 v = true) (st : Store) : D_raw_are_moves [bd cups sw, v] st = .ok (.bl (isAll numV sw v)) st := by
  have e := is_tuple_of_s v sw.length st (plain2_1 hp)
  cases ht : tupLen v sw.length with
  | false =>
    rw [ht] at e
    simp [D_raw_are_moves, b_raw_are_moves, runFn, execs, exec, evalEs, evalEo, evalN_lst, evalN_dct, evalIt, popTo_self, e_var, e_lit, e_gcon, e_gfn, e_bin, e_neg, e_cmp, e_isn, e_isb, e_and, e_or, e_not, e_ite, e_tup, e_val, e_cell, e_idx, e_slc, e_blt, e_isi, e_call, e_word, e_mth, e_rev, e_lenset, e_callv, truth, e, isAll_no ht, idx1, blt, lenOf]
  | true =>
    rw [ht] at e
    cases v <;> simp [tupLen] at ht
    rename_i hs
    have hl := g.len
    have c : evalN c_raw_are_moves_0 [some (bd cups sw), some (.tup hs), none] st = .ok (.lst (hs.map fun p => .bl (numV p))) st := by
      unfold c_raw_are_moves_0
      refine comp_map (items := hs) (by simp [evalIt, runFn, execs, exec, evalEs, evalEo, evalN_lst, evalN_dct, evalIt, popTo_self, e_var, e_lit, e_gcon, e_gfn, e_bin, e_neg, e_cmp, e_isn, e_isb, e_and, e_or, e_not, e_ite, e_tup, e_val, e_cell, e_idx, e_slc, e_blt, e_isi, e_call, e_word, e_mth, e_rev, e_lenset, e_callv, walkSeq]) (fun p hm => ?_) (by unfold sizeLine; omega)
      have hw := is_number_s p st (List.all_eq_true.mp hp _ hm)
      refine ⟨_, rfl, ?_⟩
      simp [runFn, execs, exec, evalEs, evalEo, evalN_lst, evalN_dct, evalIt, popTo_self, e_var, e_lit, e_gcon, e_gfn, e_bin, e_neg, e_cmp, e_isn, e_isb, e_and, e_or, e_not, e_ite, e_tup, e_val, e_cell, e_idx, e_slc, e_blt, e_isi, e_call, e_word, e_mth, e_rev, e_lenset, e_callv, wipeE, hw]
    have al : (hs.map numV).all id = hs.all numV := by rw [List.all_map]; rfl
    simp [D_raw_are_moves, b_raw_are_moves, runFn, execs, exec, evalEs, evalEo, evalN_lst, evalN_dct, evalIt, popTo_self, e_var, e_lit, e_gcon, e_gfn, e_bin, e_neg, e_cmp, e_isn, e_isb, e_and, e_or, e_not, e_ite, e_tup, e_val, e_cell, e_idx, e_slc, e_blt, e_isi, e_call, e_word, e_mth, e_rev, e_lenset, e_callv, truth, e, idx1, blt, lenOf, c, bools_map, isAll, ht, al]
theorem is_heap_s (g : GB cups sw) (v : Val) (hp : plain2 v = true) (st : Store) : D_is_heap [bd cups sw, v] st = .ok (.bl (isAll heapV sw v)) st := by
  simp [D_is_heap, b_is_heap, runFn, execs, exec, evalEs, evalEo, evalN_lst, evalN_dct, evalIt, popTo_self, e_var, e_lit, e_gcon, e_gfn, e_bin, e_neg, e_cmp, e_isn, e_isb, e_and, e_or, e_not, e_ite, e_tup, e_val, e_cell, e_idx, e_slc, e_blt, e_isi, e_call, e_word, e_mth, e_rev, e_lenset, e_callv, check_ok g, raw_is_heap_s g v hp]
theorem are_moves_s (g : GB cups sw) (v : Val) (hp : plain2 v = true) (st : Store) : D_are_moves [bd cups sw, v] st = .ok (.bl (isAll numV sw v)) st := by
  simp [D_are_moves, b_are_moves, runFn, execs, exec, evalEs, evalEo, evalN_lst, evalN_dct, evalIt, popTo_self, e_var, e_lit, e_gcon, e_gfn, e_bin, e_neg, e_cmp, e_isn, e_isb, e_and, e_or, e_not, e_ite, e_tup, e_val, e_cell, e_idx, e_slc, e_blt, e_isi, e_call, e_word, e_mth, e_rev, e_lenset, e_callv, check_ok g, raw_are_moves_s g v hp]
theorem check_hand_s (g : GB cups sw) (v : Val) (hp : plain2 v = true) (st : Store) : D_check_hand [bd cups sw, v] st = if isHands sw v = true then .ok .non st else .exc "NoHands" [] st := by
  have e := check_hands_s g v hp st
  cases h : isHands sw v <;> rw [h] at e <;> simp [D_check_hand, b_check_hand, runFn, execs, exec, evalEs, evalEo, evalN_lst, evalN_dct, evalIt, popTo_self, e_var, e_lit, e_gcon, e_gfn, e_bin, e_neg, e_cmp, e_isn, e_isb, e_and, e_or, e_not, e_ite, e_tup, e_val, e_cell, e_idx, e_slc, e_blt, e_isi, e_call, e_word, e_mth, e_rev, e_lenset, e_callv, check_ok g, e]
theorem check_moves_s (g : GB cups sw) (v : Val) (hp : plain2 v = true) (st : Store) : D_check_moves [bd cups sw, v] st = if isAll numV sw v = true then .ok .non st else .exc "NoMoves" [] st := by
  have e := raw_are_moves_s g v hp st
  cases h : isAll numV sw v <;> rw [h] at e <;> simp [D_check_moves, b_check_moves, runFn, execs, exec, evalEs, evalEo, evalN_lst, evalN_dct, evalIt, popTo_self, e_var, e_lit, e_gcon, e_gfn, e_bin, e_neg, e_cmp, e_isn, e_isb, e_and, e_or, e_not, e_ite, e_tup, e_val, e_cell, e_idx, e_slc, e_blt, e_isi, e_call, e_word, e_mth, e_rev, e_lenset, e_callv, e, truth]
theorem check_hand_ok (g : GB cups sw) {hs : List Nat} (H : HS sw hs) (st : Store) : D_check_hand [bd cups sw, hv hs] st = .ok .non st := by
  have e := check_hand_s g (hv hs) (hv_plain hs) st
  rw [if_pos (H.is g)] at e
  exact e
theorem check_heap_s (g : GB cups sw) {hs : List Nat} (H : HS sw hs) (v : Val) (hp : plain2 v = true) (st : Store) : D_check_heap [bd cups sw, hv hs, v] st = if isAll heapV sw v = true then .ok .non st else .exc "NoHeap" [] st := by
  have e := raw_is_heap_s g v hp st
  have e2 := fun S => check_hand_ok g H S
  generalize hv hs = HV at *
  cases h : isAll heapV sw v <;> rw [h] at e <;> simp [D_check_heap, b_check_heap, runFn, execs, exec, evalEs, evalEo, evalN_lst, evalN_dct, evalIt, popTo_self, e_var, e_lit, e_gcon, e_gfn, e_bin, e_neg, e_cmp, e_isn, e_isb, e_and, e_or, e_not, e_ite, e_tup, e_val, e_cell, e_idx, e_slc, e_blt, e_isi, e_call, e_word, e_mth, e_rev, e_lenset, e_callv, e, e2, truth]
theorem iv_plain (M : List Int) : plain2 (iv M) = true := by
  simp only [plain2, List.all_map]
  exact List.all_eq_true.mpr fun _ _ => rfl
theorem MO.is {M : List Int} (o : MO sw M) : isAll numV sw (iv M) = true := by
  simp only [isAll, List.length_map, o.len, decide_true, Bool.true_and, List.all_map]
  exact List.all_eq_true.mpr fun x hx => decide_eq_true (o.nn x hx)
theorem MO.heap {M : List Int} (o : MO sw M) (h : ∀ m ∈ M, m ≤ e30) : isAll heapV sw (iv M) = true := by
  simp only [isAll, List.length_map, o.len, decide_true, Bool.true_and, List.all_map]
  exact List.all_eq_true.mpr fun x hx => by
    simp only [Function.comp_apply, heapV, within, Bool.and_eq_true, decide_eq_true_eq]
    exact ⟨o.nn x hx, h x hx⟩
theorem check_moves_ok (g : GB cups sw) {M : List Int} (o : MO sw M) (st : Store) : D_check_moves [bd cups sw, iv M] st = .ok .non st := by
  have e := check_moves_s g (iv M) (iv_plain M) st
  rw [if_pos o.is] at e
  exact e
theorem outflow_s (g : GB cups sw) {hs : List Nat} (H : HS sw hs) {M : List Int} (o : MO sw M) (st : Store) : D_outflow [bd cups sw, hv hs, iv M] st = .ok (flV sw hs M) st := by
  have a := fun S => check_hand_ok g H S
  have b := fun S => check_moves_ok g o S
  have c := fun S => raw_outflow_s g H o S
  generalize flV sw hs M = R at *
  generalize hv hs = HV at *
  generalize iv M = MV at *
  simp [D_outflow, b_outflow, runFn, execs, exec, evalEs, evalEo, evalN_lst, evalN_dct, evalIt, popTo_self, e_var, e_lit, e_gcon, e_gfn, e_bin, e_neg, e_cmp, e_isn, e_isb, e_and, e_or, e_not, e_ite, e_tup, e_val, e_cell, e_idx, e_slc, e_blt, e_isi, e_call, e_word, e_mth, e_rev, e_lenset, e_callv, a, b, c]
theorem hands_behind_s (g : GB cups sw) {hs : List Nat} (H : HS sw hs) {M : List Int} (o : MO sw M) (st : Store) : D_hands_behind_moves [bd cups sw, hv hs, iv M] st = .ok (iv (lastL sw hs M sw.length)) st := by
  have a := fun S => check_hand_ok g H S
  have b := fun S => check_moves_ok g o S
  have c := fun S => raw_hands_by_s g H o S
  generalize iv (lastL sw hs M sw.length) = R at *
  generalize hv hs = HV at *
  generalize iv M = MV at *
  simp [D_hands_behind_moves, b_hands_behind_moves, runFn, execs, exec, evalEs, evalEo, evalN_lst, evalN_dct, evalIt, popTo_self, e_var, e_lit, e_gcon, e_gfn, e_bin, e_neg, e_cmp, e_isn, e_isb, e_and, e_or, e_not, e_ite, e_tup, e_val, e_cell, e_idx, e_slc, e_blt, e_isi, e_call, e_word, e_mth, e_rev, e_lenset, e_callv, a, b, c]
/-! ### errors -/
theorem nb_hand {b : Val} (h : plain3 b = true) (hb : isBoard b = false) (v : Val) (st : Store) : D_check_hand [b, v] st = .exc "NoBoard" [] st := by
  have e := check_board_s b st h
  rw [if_neg (by rw [hb]; exact Bool.false_ne_true)] at e
  simp [D_check_hand, b_check_hand, runFn, execs, exec, evalEs, evalEo, evalN_lst, evalN_dct, evalIt, popTo_self, e_var, e_lit, e_gcon, e_gfn, e_bin, e_neg, e_cmp, e_isn, e_isb, e_and, e_or, e_not, e_ite, e_tup, e_val, e_cell, e_idx, e_slc, e_blt, e_isi, e_call, e_word, e_mth, e_rev, e_lenset, e_callv, e]
theorem nh_hand (g : GB cups sw) {v : Val} (hp : plain2 v = true) (hb : isHands sw v = false) (st : Store) : D_check_hand [bd cups sw, v] st = .exc "NoHands" [] st := by
  have e := check_hand_s g v hp st
  rw [if_neg (by rw [hb]; exact Bool.false_ne_true)] at e
  exact e
theorem nm_moves (g : GB cups sw) {v : Val} (hp : plain2 v = true) (hb : isAll numV sw v = false) (st : Store) : D_check_moves [bd cups sw, v] st = .exc "NoMoves" [] st := by
  have e := check_moves_s g v hp st
  rw [if_neg (by rw [hb]; exact Bool.false_ne_true)] at e
  exact e
theorem nh_heap (g : GB cups sw) {hs : List Nat} (H : HS sw hs) {v : Val} (hp : plain2 v = true) (hb : isAll heapV sw v = false) (st : Store) : D_check_heap [bd cups sw, hv hs, v] st = .exc "NoHeap" [] st := by
  have e := check_heap_s g H v hp st
  rw [if_neg (by rw [hb]; exact Bool.false_ne_true)] at e
  exact e
/-- what three asks have alike -/
structure Asks (D : Den) : Prop where
  nb : ∀ {b : Val} {c : PySem.Str}, (∀ st v, D_check_hand [b, v] st = .exc c [] st) → ∀ v w st, D [b, v, w] st = .exc c [] st
  nh : ∀ {b v : Val} {c : PySem.Str}, (∀ st, D_check_hand [b, v] st = .exc c [] st) → ∀ w st, D [b, v, w] st = .exc c [] st
  nm : ∀ {b v w : Val} {c : PySem.Str}, (∀ st, D_check_hand [b, v] st = .ok .non st) → (∀ st, D_check_moves [b, w] st = .exc c [] st) → ∀ st, D [b, v, w] st = .exc c [] st
theorem asks_outflow : Asks D_outflow := ⟨fun h v w st => by simp [D_outflow, b_outflow, runFn, execs, exec, evalEs, evalEo, evalN_lst, evalN_dct, evalIt, popTo_self, e_var, e_lit, e_gcon, e_gfn, e_bin, e_neg, e_cmp, e_isn, e_isb, e_and, e_or, e_not, e_ite, e_tup, e_val, e_cell, e_idx, e_slc, e_blt, e_isi, e_call, e_word, e_mth, e_rev, e_lenset, e_callv, h], fun h w st => by simp [D_outflow, b_outflow, runFn, execs, exec, evalEs, evalEo, evalN_lst, evalN_dct, evalIt, popTo_self, e_var, e_lit, e_gcon, e_gfn, e_bin, e_neg, e_cmp, e_isn, e_isb, e_and, e_or, e_not, e_ite, e_tup, e_val, e_cell, e_idx, e_slc, e_blt, e_isi, e_call, e_word, e_mth, e_rev, e_lenset, e_callv, h], fun h h2 st => by simp [D_outflow, b_outflow, runFn, execs, exec, evalEs, evalEo, evalN_lst, evalN_dct, evalIt, popTo_self, e_var, e_lit, e_gcon, e_gfn, e_bin, e_neg, e_cmp, e_isn, e_isb, e_and, e_or, e_not, e_ite, e_tup, e_val, e_cell, e_idx, e_slc, e_blt, e_isi, e_call, e_word, e_mth, e_rev, e_lenset, e_callv, h, h2]⟩
theorem asks_behind : Asks D_hands_behind_moves := ⟨fun h v w st => by simp [D_hands_behind_moves, b_hands_behind_moves, runFn, execs, exec, evalEs, evalEo, evalN_lst, evalN_dct, evalIt, popTo_self, e_var, e_lit, e_gcon, e_gfn, e_bin, e_neg, e_cmp, e_isn, e_isb, e_and, e_or, e_not, e_ite, e_tup, e_val, e_cell, e_idx, e_slc, e_blt, e_isi, e_call, e_word, e_mth, e_rev, e_lenset, e_callv, h], fun h w st => by simp [D_hands_behind_moves, b_hands_behind_moves, runFn, execs, exec, evalEs, evalEo, evalN_lst, evalN_dct, evalIt, popTo_self, e_var, e_lit, e_gcon, e_gfn, e_bin, e_neg, e_cmp, e_isn, e_isb, e_and, e_or, e_not, e_ite, e_tup, e_val, e_cell, e_idx, e_slc, e_blt, e_isi, e_call, e_word, e_mth, e_rev, e_lenset, e_callv, h], fun h h2 st => by simp [D_hands_behind_moves, b_hands_behind_moves, runFn, execs, exec, evalEs, evalEo, evalN_lst, evalN_dct, evalIt, popTo_self, e_var, e_lit, e_gcon, e_gfn, e_bin, e_neg, e_cmp, e_isn, e_isb, e_and, e_or, e_not, e_ite, e_tup, e_val, e_cell, e_idx, e_slc, e_blt, e_isi, e_call, e_word, e_mth, e_rev, e_lenset, e_callv, h, h2]⟩
theorem asks_cups : Asks D_cups_by := ⟨fun h v w st => by simp [D_cups_by, b_cups_by, runFn, execs, exec, evalEs, evalEo, evalN_lst, evalN_dct, evalIt, popTo_self, e_var, e_lit, e_gcon, e_gfn, e_bin, e_neg, e_cmp, e_isn, e_isb, e_and, e_or, e_not, e_ite, e_tup, e_val, e_cell, e_idx, e_slc, e_blt, e_isi, e_call, e_word, e_mth, e_rev, e_lenset, e_callv, h], fun h w st => by simp [D_cups_by, b_cups_by, runFn, execs, exec, evalEs, evalEo, evalN_lst, evalN_dct, evalIt, popTo_self, e_var, e_lit, e_gcon, e_gfn, e_bin, e_neg, e_cmp, e_isn, e_isb, e_and, e_or, e_not, e_ite, e_tup, e_val, e_cell, e_idx, e_slc, e_blt, e_isi, e_call, e_word, e_mth, e_rev, e_lenset, e_callv, h], fun h h2 st => by simp [D_cups_by, b_cups_by, runFn, execs, exec, evalEs, evalEo, evalN_lst, evalN_dct, evalIt, popTo_self, e_var, e_lit, e_gcon, e_gfn, e_bin, e_neg, e_cmp, e_isn, e_isb, e_and, e_or, e_not, e_ite, e_tup, e_val, e_cell, e_idx, e_slc, e_blt, e_isi, e_call, e_word, e_mth, e_rev, e_lenset, e_callv, h, h2]⟩
end
end MP.Pk31
set_option maxHeartbeats 1000000
/-! law k31: who waits -/
namespace MP.Pk31
open PySem L2 MP
open Classical
section
variable {cups : Nat} {sw : List Val}
theorem cups_core {B HV MV : Val} {R R2 : List Val} (a : ∀ S, D_check_hand [B, HV] S = Out.ok Val.non S) (b : ∀ S, D_check_moves [B, MV] S = Out.ok Val.non S) (c : ∀ S, D_raw_inflow [B, HV, MV] S = Out.ok (Val.tup [Val.lst R, Val.lst R2]) S) (st : Store) : D_cups_by [B, HV, MV] st = .ok (.tup R) st := by
  have i0 : ∀ S, idxV (.tup [.lst R, .lst R2]) (.int 0) S = some (.lst R) := fun S => rfl
  have hx : execs b_cups_by [some B, some HV, some MV] st = .rt (.tup R) st := by
    unfold b_cups_by
    have t : evalE (.call "raw_inflow" D_raw_inflow (.cons (.var 0) (.cons (.var 1) (.cons (.var 2) .nil)))) [some B, some HV, some MV] st = .ok (Val.tup [Val.lst R, Val.lst R2]) st := by simp [runFn, execs, exec, evalEs, evalEo, evalN_lst, evalN_dct, evalIt, popTo_self, e_var, e_lit, e_gcon, e_gfn, e_bin, e_neg, e_cmp, e_isn, e_isb, e_and, e_or, e_not, e_ite, e_tup, e_val, e_cell, e_idx, e_slc, e_blt, e_isi, e_call, e_word, e_mth, e_rev, e_lenset, e_callv, c]
    refine execs_nx (env' := [some B, some HV, some MV]) (st' := st) (by simp [exec, runFn, execs, exec, evalEs, evalEo, evalN_lst, evalN_dct, evalIt, popTo_self, e_var, e_lit, e_gcon, e_gfn, e_bin, e_neg, e_cmp, e_isn, e_isb, e_and, e_or, e_not, e_ite, e_tup, e_val, e_cell, e_idx, e_slc, e_blt, e_isi, e_call, e_word, e_mth, e_rev, e_lenset, e_callv, a]) ?_
    refine execs_nx (env' := [some B, some HV, some MV]) (st' := st) (by simp [exec, runFn, execs, exec, evalEs, evalEo, evalN_lst, evalN_dct, evalIt, popTo_self, e_var, e_lit, e_gcon, e_gfn, e_bin, e_neg, e_cmp, e_isn, e_isb, e_and, e_or, e_not, e_ite, e_tup, e_val, e_cell, e_idx, e_slc, e_blt, e_isi, e_call, e_word, e_mth, e_rev, e_lenset, e_callv, b]) ?_
    generalize MP.E.call "raw_inflow" D_raw_inflow (.cons (.var 0) (.cons (.var 1) (.cons (.var 2) .nil))) = A at *
    simp [execs, exec, runFn, execs, exec, evalEs, evalEo, evalN_lst, evalN_dct, evalIt, popTo_self, e_var, e_lit, e_gcon, e_gfn, e_bin, e_neg, e_cmp, e_isn, e_isb, e_and, e_or, e_not, e_ite, e_tup, e_val, e_cell, e_idx, e_slc, e_blt, e_isi, e_call, e_word, e_mth, e_rev, e_lenset, e_callv, t, i0, blt, seqOf]
  simp only [D_cups_by, runFn, List.length_cons, List.length_nil, if_true, List.map_cons, List.map_nil, List.replicate, Nat.reduceSub, Nat.reduceAdd, List.cons_append, List.nil_append, hx, popTo_self]
theorem cups_by_s (g : GB cups sw) {hs : List Nat} (H : HS sw hs) {M : List Int} (o : MO sw M) (st : Store) : D_cups_by [bd cups sw, hv hs, iv M] st = .ok (iv (cupL cups (PRn sw hs M sw.length))) st := by
  have a := fun S => check_hand_ok g H S
  have b := fun S => check_moves_ok g o S
  have c := fun S => raw_inflow_s g H o S
  exact cups_core a b c st
theorem trip_ints {n : Nat} {P Q M : List Int} (h1 : P.length = n) (h2 : Q.length = n) (h3 : M.length = n) : tripUp (P.map Val.int) (Q.map Val.int) (M.map Val.int) = (List.range n).map fun k => Val.tup [.int (P.getD k 0), .int (Q.getD k 0), .int (M.getD k 0)] := by
  apply List.ext_getElem?
  intro i
  simp only [tripUp, List.getElem?_map]
  by_cases hi : i < n
  · have a1 : (P.map Val.int)[i]? = some (.int (P.getD i 0)) := by rw [List.getElem?_map, getD_at (l := P) (by omega) 0]; rfl
    have a2 : (Q.map Val.int)[i]? = some (.int (Q.getD i 0)) := by rw [List.getElem?_map, getD_at (l := Q) (by omega) 0]; rfl
    have a3 : (M.map Val.int)[i]? = some (.int (M.getD i 0)) := by rw [List.getElem?_map, getD_at (l := M) (by omega) 0]; rfl
    have b1 : ((Q.map Val.int).zip (M.map Val.int))[i]? = some (.int (Q.getD i 0), .int (M.getD i 0)) := List.getElem?_zip_eq_some.mpr ⟨a2, a3⟩
    have b2 : ((P.map Val.int).zip ((Q.map Val.int).zip (M.map Val.int)))[i]? = some (.int (P.getD i 0), .int (Q.getD i 0), .int (M.getD i 0)) := List.getElem?_zip_eq_some.mpr ⟨a1, b1⟩
    rw [b2, List.getElem?_range hi]
    rfl
  · rw [List.getElem?_eq_none (by simp; omega), List.getElem?_eq_none (by simp; omega)]; rfl
noncomputable def leftI (sw : List Val) (hs : List Nat) (P M : List Int) (k : Nat) : Int := P.getD k 0 + cmO (PRn sw hs M sw.length) (swp k) - M.getD k 0
noncomputable def leftL (sw : List Val) (hs : List Nat) (P M : List Int) : List Int := (List.range sw.length).map (leftI sw hs P M)
theorem raw_waiting_core {B HV PV MV : Val} {R R1 R2 : List Val} (c : ∀ S, D_raw_inflow [B, HV, MV] S = Out.ok (Val.tup [Val.lst R1, Val.lst R2]) S) (st : Store) (k0 : evalN c_raw_waiting_0 [some B, some HV, some PV, some MV, some (.lst R2), none, none, none] st = .ok (.lst R) st) : D_raw_waiting [B, HV, PV, MV] st = .ok (.tup R) st := by
  have i0 : ∀ S, idxV (.tup [.lst R1, .lst R2]) (.int 1) S = some (.lst R2) := fun S => rfl
  have hx : execs b_raw_waiting [some B, some HV, some PV, some MV, none, none, none, none] st = .rt (.tup R) st := by
    unfold b_raw_waiting
    have t : evalE (.call "raw_inflow" D_raw_inflow (.cons (.var 0) (.cons (.var 1) (.cons (.var 3) .nil)))) [some B, some HV, some PV, some MV, none, none, none, none] st = .ok (Val.tup [Val.lst R1, Val.lst R2]) st := by simp [runFn, execs, exec, evalEs, evalEo, evalN_lst, evalN_dct, evalIt, popTo_self, e_var, e_lit, e_gcon, e_gfn, e_bin, e_neg, e_cmp, e_isn, e_isb, e_and, e_or, e_not, e_ite, e_tup, e_val, e_cell, e_idx, e_slc, e_blt, e_isi, e_call, e_word, e_mth, e_rev, e_lenset, e_callv, c]
    generalize MP.E.call "raw_inflow" D_raw_inflow (.cons (.var 0) (.cons (.var 1) (.cons (.var 3) .nil))) = A at *
    refine execs_nx (env' := [some B, some HV, some PV, some MV, some (.lst R2), none, none, none]) (st' := st) (by simp [exec, runFn, execs, exec, evalEs, evalEo, evalN_lst, evalN_dct, evalIt, popTo_self, e_var, e_lit, e_gcon, e_gfn, e_bin, e_neg, e_cmp, e_isn, e_isb, e_and, e_or, e_not, e_ite, e_tup, e_val, e_cell, e_idx, e_slc, e_blt, e_isi, e_call, e_word, e_mth, e_rev, e_lenset, e_callv, t, i0]) ?_
    simp [execs, exec, runFn, execs, exec, evalEs, evalEo, evalN_lst, evalN_dct, evalIt, popTo_self, e_var, e_lit, e_gcon, e_gfn, e_bin, e_neg, e_cmp, e_isn, e_isb, e_and, e_or, e_not, e_ite, e_tup, e_val, e_cell, e_idx, e_slc, e_blt, e_isi, e_call, e_word, e_mth, e_rev, e_lenset, e_callv, k0, blt, seqOf]
  simp only [D_raw_waiting, runFn, List.length_cons, List.length_nil, if_true, List.map_cons, List.map_nil, List.replicate, Nat.reduceSub, Nat.reduceAdd, List.cons_append, List.nil_append, hx, popTo_self]
theorem raw_waiting_s (g : GB cups sw) {hs : List Nat} (H : HS sw hs) {P M : List Int} (oP : MO sw P) (o : MO sw M) (st : Store) : D_raw_waiting [bd cups sw, hv hs, iv P, iv M] st = .ok (iv (leftL sw hs P M)) st := by
  have c := fun S => raw_inflow_s g H o S
  have hl := g.len
  have k0 : evalN c_raw_waiting_0 [some (bd cups sw), some (hv hs), some (iv P), some (iv M), some (.lst ((swL sw.length (PRn sw hs M sw.length)).map Val.int)), none, none, none] st = .ok (.lst ((leftL sw hs P M).map Val.int)) st := by
    unfold leftL
    rw [List.map_map]
    unfold c_raw_waiting_0
    refine comp_dd (v := fun k => Val.tup [.int (P.getD k 0), .int ((swL sw.length (PRn sw hs M sw.length)).getD k 0), .int (M.getD k 0)]) (F := List.range sw.length) (w := fun k => Val.int (leftI sw hs P M k)) ?_ (fun k hk => ⟨_, rfl, ?_⟩) (by rw [List.length_range]; unfold sizeLine; omega)
    · rw [← trip_ints oP.len (by simp [swL]) o.len]
      generalize swL sw.length (PRn sw hs M sw.length) = Q
      generalize hv hs = HV
      simp only [iv]
      generalize P.map Val.int = P1
      generalize M.map Val.int = M1
      generalize Q.map Val.int = Q1
      simp [evalIt, runFn, execs, exec, evalEs, evalEo, evalN_lst, evalN_dct, evalIt, popTo_self, e_var, e_lit, e_gcon, e_gfn, e_bin, e_neg, e_cmp, e_isn, e_isb, e_and, e_or, e_not, e_ite, e_tup, e_val, e_cell, e_idx, e_slc, e_blt, e_isi, e_call, e_word, e_mth, e_rev, e_lenset, e_callv, itemsV]
    · have hk := List.mem_range.mp hk
      have e1 : (swL sw.length (PRn sw hs M sw.length)).getD k 0 = cmO (PRn sw hs M sw.length) (swp k) := by simp [swL, hk]
      have e2 : leftI sw hs P M k = P.getD k 0 + cmO (PRn sw hs M sw.length) (swp k) - M.getD k 0 := rfl
      simp only [e1]
      rw [e2]
      generalize cmO (PRn sw hs M sw.length) (swp k) = z1
      generalize P.getD k 0 = z2
      generalize M.getD k 0 = z3
      generalize hv hs = HV
      generalize iv P = P1
      generalize iv M = M1
      generalize Val.lst ((swL sw.length (PRn sw hs M sw.length)).map Val.int) = Q1
      simp [runFn, execs, exec, evalEs, evalEo, evalN_lst, evalN_dct, evalIt, popTo_self, e_var, e_lit, e_gcon, e_gfn, e_bin, e_neg, e_cmp, e_isn, e_isb, e_and, e_or, e_not, e_ite, e_tup, e_val, e_cell, e_idx, e_slc, e_blt, e_isi, e_call, e_word, e_mth, e_rev, e_lenset, e_callv, wipeE, bop_add, bop_sub]
  exact raw_waiting_core c st k0
theorem waiting_core {B HV PV MV R : Val} (a : ∀ S, D_check_heap [B, HV, PV] S = Out.ok Val.non S) (b : ∀ S, D_check_moves [B, MV] S = Out.ok Val.non S) (c : ∀ S, D_raw_waiting [B, HV, PV, MV] S = Out.ok R S) (st : Store) : D_waiting [B, HV, PV, MV] st = .ok R st := by
  have hx : execs b_waiting [some B, some HV, some PV, some MV] st = .rt R st := by
    unfold b_waiting
    refine execs_nx (env' := [some B, some HV, some PV, some MV]) (st' := st) (by simp [exec, runFn, execs, exec, evalEs, evalEo, evalN_lst, evalN_dct, evalIt, popTo_self, e_var, e_lit, e_gcon, e_gfn, e_bin, e_neg, e_cmp, e_isn, e_isb, e_and, e_or, e_not, e_ite, e_tup, e_val, e_cell, e_idx, e_slc, e_blt, e_isi, e_call, e_word, e_mth, e_rev, e_lenset, e_callv, a]) ?_
    refine execs_nx (env' := [some B, some HV, some PV, some MV]) (st' := st) (by simp [exec, runFn, execs, exec, evalEs, evalEo, evalN_lst, evalN_dct, evalIt, popTo_self, e_var, e_lit, e_gcon, e_gfn, e_bin, e_neg, e_cmp, e_isn, e_isb, e_and, e_or, e_not, e_ite, e_tup, e_val, e_cell, e_idx, e_slc, e_blt, e_isi, e_call, e_word, e_mth, e_rev, e_lenset, e_callv, b]) ?_
    simp [execs, exec, runFn, execs, exec, evalEs, evalEo, evalN_lst, evalN_dct, evalIt, popTo_self, e_var, e_lit, e_gcon, e_gfn, e_bin, e_neg, e_cmp, e_isn, e_isb, e_and, e_or, e_not, e_ite, e_tup, e_val, e_cell, e_idx, e_slc, e_blt, e_isi, e_call, e_word, e_mth, e_rev, e_lenset, e_callv, c]
  simp only [D_waiting, runFn, List.length_cons, List.length_nil, if_true, List.map_cons, List.map_nil, List.replicate, Nat.reduceSub, Nat.reduceAdd, List.cons_append, List.nil_append, hx, popTo_self]
theorem waiting_s (g : GB cups sw) {hs : List Nat} (H : HS sw hs) {P M : List Int} (oP : MO sw P) (hP : ∀ m ∈ P, m ≤ e30) (o : MO sw M) (st : Store) : D_waiting [bd cups sw, hv hs, iv P, iv M] st = .ok (iv (leftL sw hs P M)) st := by
  have a := fun S => check_heap_s g H (iv P) (iv_plain P) S
  simp only [oP.heap hP, if_true] at a
  have b := fun S => check_moves_ok g o S
  have c := fun S => raw_waiting_s g H oP o S
  exact waiting_core a b c st
theorem waiting_heap (g : GB cups sw) {hs : List Nat} (H : HS sw hs) {v : Val} (hp : plain2 v = true) (hb : isAll heapV sw v = false) (w : Val) (st : Store) : D_waiting [bd cups sw, hv hs, v, w] st = .exc "NoHeap" [] st := by
  have a := fun S => nh_heap g H hp hb S
  generalize hv hs = HV at *
  simp [D_waiting, b_waiting, runFn, execs, exec, evalEs, evalEo, evalN_lst, evalN_dct, evalIt, popTo_self, e_var, e_lit, e_gcon, e_gfn, e_bin, e_neg, e_cmp, e_isn, e_isb, e_and, e_or, e_not, e_ite, e_tup, e_val, e_cell, e_idx, e_slc, e_blt, e_isi, e_call, e_word, e_mth, e_rev, e_lenset, e_callv, a]
theorem waiting_moves (g : GB cups sw) {hs : List Nat} (H : HS sw hs) {P : List Int} (oP : MO sw P) (hP : ∀ m ∈ P, m ≤ e30) {v : Val} (hp : plain2 v = true) (hb : isAll numV sw v = false) (st : Store) : D_waiting [bd cups sw, hv hs, iv P, v] st = .exc "NoMoves" [] st := by
  have a := fun S => check_heap_s g H (iv P) (iv_plain P) S
  simp only [oP.heap hP, if_true] at a
  have b := fun S => nm_moves g hp hb S
  generalize hv hs = HV at *
  generalize iv P = PV at *
  simp [D_waiting, b_waiting, runFn, execs, exec, evalEs, evalEo, evalN_lst, evalN_dct, evalIt, popTo_self, e_var, e_lit, e_gcon, e_gfn, e_bin, e_neg, e_cmp, e_isn, e_isb, e_and, e_or, e_not, e_ite, e_tup, e_val, e_cell, e_idx, e_slc, e_blt, e_isi, e_call, e_word, e_mth, e_rev, e_lenset, e_callv, a, b]
end
end MP.Pk31
set_option maxHeartbeats 1000000
/-! law k31: great numbers, their texts; bad heaps -/
namespace MP.Pk31
open PySem L2 MP
open Classical
abbrev n25 : Int := 10000000000000000000000007
abbrev n29 : Int := 100000000000000000000000000002
def N8 : List Int := [0, 1, 2, 3, 5, 8, n25, n29]
theorem N8_le {i : Int} (h : i ∈ N8) : 0 ≤ i ∧ i ≤ n29 := by
  simp only [N8, List.mem_cons, List.not_mem_nil, or_false] at h
  rcases h with rfl | rfl | rfl | rfl | rfl | rfl | rfl | rfl <;> decide
theorem p25 : bop .pow (.int 10) (.int 25) = some (.int 10000000000000000000000000) := by
  rw [bop_pow (by decide) (by decide) (by decide)]; rfl
theorem p29 : bop .pow (.int 10) (.int 29) = some (.int 100000000000000000000000000000) := by
  rw [bop_pow (by decide) (by decide) (by decide)]; rfl
theorem p30 : bop .pow (.int 10) (.int 30) = some (.int e30) := by
  rw [bop_pow (by decide) (by decide) (by decide)]; rfl
theorem a25 : bop .add (.int 10000000000000000000000000) (.int 7) = some (.int n25) := rfl
theorem a29 : bop .add (.int 100000000000000000000000000000) (.int 2) = some (.int n29) := rfl
theorem a30 : bop .add (.int e30) (.int 1) = some (.int 1000000000000000000000000000001) := rfl
theorem law_number_s {n : Nat} {hc : Cell} (h : IsH n hc) (hn : n < 1000000000000) (st : Store) :
    ∃ (z : Int) (hc' : Cell), D_law_number [.ref 0] (hc :: st) = .ok (.int z) (hc' :: st) ∧ z ∈ N8 ∧ IsH (n + 1) hc' := by
  obtain ⟨v, hc', e, hv, ih⟩ := law_some_s h hn (N8.map Val.int) (by simp [N8]) (by simp [N8]) (noRefs_ints _) st
  obtain ⟨z, hz, rfl⟩ := List.mem_map.mp hv
  refine ⟨z, hc', ?_, hz, ih⟩
  have pp := pop_hand (hc := hc) (st := st) (v := .int z) ih rfl
  simp only [N8, List.map_cons, List.map_nil] at e
  have hx : execs b_law_number [some (.ref 0)] (hc :: st) = .rt (.int z) (hc' :: st) := by
    unfold b_law_number
    simp [execs, exec, runFn, execs, exec, evalEs, evalEo, evalN_lst, evalN_dct, evalIt, popTo_self, e_var, e_lit, e_gcon, e_gfn, e_bin, e_neg, e_cmp, e_isn, e_isb, e_and, e_or, e_not, e_ite, e_tup, e_val, e_cell, e_idx, e_slc, e_blt, e_isi, e_call, e_word, e_mth, e_rev, e_lenset, e_callv, sizeLine, p25, p29, a25, a29, e]
  simp only [D_law_number, runFn, List.length_cons, List.length_nil, if_true, List.map_cons, List.map_nil, List.replicate, Nat.reduceSub, Nat.reduceAdd, List.cons_append, List.nil_append, hx, pp]
theorem ys_ints : ∀ {ys : List Val}, (∀ y ∈ ys, ∃ z : Int, y = .int z ∧ z ∈ N8) → ∃ P : List Int, ys = P.map Val.int ∧ ∀ z ∈ P, z ∈ N8
  | [], _ => ⟨[], rfl, fun z hz => by cases hz⟩
  | y :: ys, h => by
    obtain ⟨z, rfl, hz⟩ := h y (.head _)
    obtain ⟨P, rfl, hP⟩ := ys_ints (ys := ys) fun x hx => h x (.tail _ hx)
    exact ⟨z :: P, rfl, fun x hx => by
      rcases List.mem_cons.mp hx with rfl | hx
      · exact hz
      · exact hP x hx⟩
/-! ### texts of great numbers -/
abbrev Big (i : Int) : Prop := -100000000000000000000000000000000 < i ∧ i < 100000000000000000000000000000000
theorem sh_gr {i : Int} (h : Big i) : Sh (.int i) (.int i) 0 125 := by
  have hl : i.natAbs.log2 < 120 := by
    by_cases h0 : i.natAbs = 0
    · rw [h0]; decide
    · refine (Nat.log2_lt h0).mpr ?_
      have e : (2 : Nat) ^ 120 = 1329227995784915872903807060280344576 := by decide
      rw [e]; obtain ⟨h1, h2⟩ := h; omega
  have hs : (PyData.int i).showable = true := by
    show decide (i.natAbs.log2 < 1920) = true
    exact decide_eq_true (by omega)
  refine ⟨rfl, rfl, Nat.le_refl _, hs, rfl, ?_⟩
  have e := int_text_length_le (a := i) (k := 120) (by decide) hl
  have e2 : (PyData.shown (.int i)).length = (toString i).length := by
    show (PySem.Str.ofString (toString i)).length = _
    exact ofString_length _
  rw [e2]; omega
theorem shl_gr : ∀ {L : List Int}, (∀ i ∈ L, Big i) → ShL (L.map Val.int) (L.map PyData.int) 0 125
  | [], _ => .nil
  | i :: L, q => .cons (sh_gr (q i (.head _))) (shl_gr fun x hx => q x (.tail _ hx))
theorem sh_iv {L : List Int} (h : ∀ i ∈ L, Big i) {n : Nat} (hl : L.length ≤ n) : ∃ d, Sh (iv L) d 1 (n * 127 + 3) :=
  ⟨_, (sh_tup (shl_gr h)).mono (Nat.le_refl _) (by rw [List.length_map]; have := Nat.mul_le_mul_right 127 hl; omega)⟩
theorem shl_rows : ∀ {LL : List (List Int)}, (∀ L ∈ LL, (∀ i ∈ L, Big i) ∧ L.length ≤ 4) → ∃ ds, ShL (LL.map iv) ds 1 511
  | [], _ => ⟨_, .nil⟩
  | L :: LL, q => by
    obtain ⟨d, h1⟩ := sh_iv (q L (.head _)).1 (q L (.head _)).2
    obtain ⟨ds, h2⟩ := shl_rows (LL := LL) fun x hx => q x (.tail _ hx)
    exact ⟨_, .cons h1 h2⟩
theorem sh_rows {LL : List (List Int)} (h : ∀ L ∈ LL, (∀ i ∈ L, Big i) ∧ L.length ≤ 4) (hl : LL.length ≤ 24) : ∃ d, Sh (.tup (LL.map iv)) d 2 12400 := by
  obtain ⟨ds, s⟩ := shl_rows h
  exact ⟨_, (sh_tup s).mono (Nat.le_refl _) (by rw [List.length_map]; omega)⟩
theorem is_four {a b c e : Val} {da db dc de : PyData} {k B : Nat} (ha : Sh a da k B) (hb : Sh b db k B) (hc : Sh c dc k B) (he : Sh e de k B) (hk : k ≤ 50) (hB : B ≤ 20000) (st : Store) : D_law_is [.lst [a, b, c, e], .lst [a, b, c, e]] st = .ok (.bl true) st :=
  is_lst (sh_lst (.cons ha (.cons hb (.cons hc (.cons he .nil))))) (by omega) (by simp only [List.length_cons, List.length_nil]; omega) st
theorem cmO_cons (q : Val × Int) (A : List (Val × Int)) (p : Val) : cmO (q :: A) p = (if q.1 = p then q.2 else 0) + cmO A p := by
  have := cmO_app [q] A p
  rw [cmO_one] at this
  exact this
theorem cmO_nn {K : Int} (hK : 0 ≤ K) : ∀ {A : List (Val × Int)}, (∀ q ∈ A, 0 ≤ q.2 ∧ q.2 ≤ K) → ∀ p, 0 ≤ cmO A p ∧ cmO A p ≤ (A.length : Int) * K
  | [], _, p => by simp [cmO]
  | q :: A, h, p => by
    have ih := cmO_nn hK (A := A) (fun x hx => h x (.tail _ hx)) p
    have h1 := h q (.head _)
    rw [cmO_cons, List.length_cons]
    have e : ((A.length + 1 : Nat) : Int) * K = (A.length : Int) * K + K := by push_cast; rw [Int.add_mul, Int.one_mul]
    rw [e]
    generalize (A.length : Int) * K = X at *
    split <;> omega
section
variable {cups : Int} {sw : List Val}
theorem row_big (g : GB cups sw) {hs : List Nat} {M : List Int} (o : MO sw M) (hM : ∀ m ∈ M, m ≤ n29) {k : Nat} (hk : k < sw.length) : ∀ i ∈ rowF sw hs M k, 0 ≤ i ∧ i ≤ n29 + 1 := fun i hi => by
  obtain ⟨e, _, rfl⟩ := List.mem_map.mp hi
  have h1 := fl_nn (n := szN sw k) (h := hs.getD k 0) (o.at_ hk).1 e
  have h2 := hM _ (List.mem_of_getElem? (o.at_ hk).2)
  exact ⟨h1.1, by have := h1.2; omega⟩
theorem row_len (g : GB cups sw) {hs : List Nat} {M : List Int} {k : Nat} (hk : k < sw.length) : (rowF sw hs M k).length ≤ 4 := by
  obtain ⟨xs, e1, e2, l1, l4, hx, hp⟩ := sz_ok g hk
  simp only [rowF, List.length_map, List.length_range]; omega
theorem sh_flow (g : GB cups sw) {hs : List Nat} {M : List Int} (o : MO sw M) (hM : ∀ m ∈ M, m ≤ n29) : ∃ d, Sh (flV sw hs M) d 2 12400 := by
  refine sh_rows (fun L hL => ?_) (by rw [fl_len]; exact g.len.2)
  obtain ⟨k, hk, rfl⟩ := List.mem_map.mp hL
  have hk := List.mem_range.mp hk
  exact ⟨fun i hi => by have := row_big g o hM hk i hi; have e : n29 = 100000000000000000000000000002 := rfl; constructor <;> omega, row_len g hk⟩
theorem pr_all (g : GB cups sw) {hs : List Nat} {M : List Int} (o : MO sw M) (hM : ∀ m ∈ M, m ≤ n29) : ∀ q ∈ PRn sw hs M sw.length, 0 ≤ q.2 ∧ q.2 ≤ n29 + 1 := fun q hq => by
  obtain ⟨k, hk, hq⟩ := List.mem_flatMap.mp hq
  exact row_big g o hM (List.mem_range.mp hk) _ (List.of_mem_zip hq).2
theorem pr_all_len (g : GB cups sw) {hs : List Nat} {M : List Int} : ∀ {n : Nat}, n ≤ sw.length → (PRn sw hs M n).length ≤ 4 * n
  | 0, _ => by simp [PRn]
  | n + 1, h => by
    rw [PRn_succ, List.length_append]
    have h1 := pr_all_len g (hs := hs) (M := M) (n := n) (by omega)
    have h2 : (prK sw hs M n).length ≤ 4 := by
      have := row_len g (hs := hs) (M := M) (k := n) (by omega)
      simp only [prK, List.length_zip]; omega
    omega
theorem cm_big (g : GB cups sw) {hs : List Nat} {M : List Int} (o : MO sw M) (hM : ∀ m ∈ M, m ≤ n29) (p : Val) : 0 ≤ cmO (PRn sw hs M sw.length) p ∧ cmO (PRn sw hs M sw.length) p ≤ 10000000000000000000000000000000 := by
  obtain ⟨h1, h2⟩ := cmO_nn (K := n29 + 1) (by decide) (pr_all g (hs := hs) o hM) p
  have hl := pr_all_len g (hs := hs) (M := M) (Nat.le_refl sw.length)
  have := g.len.2
  refine ⟨h1, Int.le_trans h2 ?_⟩
  have e : n29 + 1 = 100000000000000000000000000003 := rfl
  rw [e]; omega
theorem sh_last (g : GB cups sw) {hs : List Nat} {M : List Int} : ∃ d, Sh (iv (lastL sw hs M sw.length)) d 2 12400 := by
  obtain ⟨d, s⟩ := sh_iv (L := lastL sw hs M sw.length) (n := 24) (fun i hi => by
    obtain ⟨k, hk, rfl⟩ := List.mem_map.mp hi
    obtain ⟨xs, e1, e2, l1, l4, hx, hp⟩ := sz_ok g (List.mem_range.mp hk)
    unfold lastI
    rw [e2]
    generalize ((hs.getD k 0 : Nat) : Int) + M.getD k 0 = z
    have h1 := Int.emod_nonneg z (show (xs.length : Int) ≠ 0 by omega)
    have h2 := Int.emod_lt_of_pos z (show (0 : Int) < xs.length by omega)
    constructor <;> omega) (by simp only [lastL, List.length_map, List.length_range]; exact g.len.2)
  exact ⟨d, s.mono (by decide) (by decide)⟩
theorem sh_cups {cups : Nat} (g : GB cups sw) {hs : List Nat} {M : List Int} (o : MO sw M) (hM : ∀ m ∈ M, m ≤ n29) : ∃ d, Sh (iv (cupL cups (PRn sw hs M sw.length))) d 2 12400 := by
  obtain ⟨d, s⟩ := sh_iv (L := cupL cups (PRn sw hs M sw.length)) (n := 24) (fun i hi => by
    obtain ⟨k, hk, rfl⟩ := List.mem_map.mp hi
    have := cm_big g (hs := hs) o hM (cpp k)
    constructor <;> omega) (by simp only [cupL, List.length_map, List.length_range]; have := g.cups; omega)
  exact ⟨d, s.mono (by decide) (by decide)⟩
theorem sh_left (g : GB cups sw) {hs : List Nat} {P M : List Int} (oP : MO sw P) (hP : ∀ m ∈ P, m ≤ n29) (o : MO sw M) (hM : ∀ m ∈ M, m ≤ n29) : ∃ d, Sh (iv (leftL sw hs P M)) d 2 12400 := by
  obtain ⟨d, s⟩ := sh_iv (L := leftL sw hs P M) (n := 24) (fun i hi => by
    obtain ⟨k, hk, rfl⟩ := List.mem_map.mp hi
    have hk := List.mem_range.mp hk
    have h0 := cm_big g (hs := hs) o hM (swp k)
    have h1 := oP.at_ hk
    have h2 := hP _ (List.mem_of_getElem? h1.2)
    have h3 := o.at_ hk
    have h4 := hM _ (List.mem_of_getElem? h3.2)
    have e : n29 = 100000000000000000000000000002 := rfl
    unfold leftI
    have h1 := h1.1
    have h3 := h3.1
    generalize cmO (PRn sw hs M sw.length) (swp k) = z at *
    generalize P.getD k 0 = z1 at *
    generalize M.getD k 0 = z2 at *
    constructor <;> omega) (by simp only [leftL, List.length_map, List.length_range]; exact g.len.2)
  exact ⟨d, s.mono (by decide) (by decide)⟩
/-! ### sums -/
theorem list_getD : ∀ (M : List Int), (List.range M.length).map (fun k => M.getD k 0) = M := fun M => by
  apply List.ext_getElem?
  intro i
  by_cases hi : i < M.length
  · rw [List.getElem?_map, List.getElem?_range hi, getD_at hi 0]; rfl
  · rw [List.getElem?_eq_none (by simp; omega), List.getElem?_eq_none (by omega)]
theorem flow_sum (g : GB cups sw) {hs : List Nat} (H : HS sw hs) {M : List Int} (o : MO sw M) : ((flL sw hs M).map List.sum).sum = M.sum := by
  have e : (flL sw hs M).map List.sum = M := by
    refine Eq.trans ?_ (list_getD M)
    rw [o.len]
    unfold flL
    rw [List.map_map]
    refine List.map_congr_left fun k hk => ?_
    have hk := List.mem_range.mp hk
    obtain ⟨xs, e1, e2, l1, l4, hx, hp⟩ := sz_ok g hk
    have hh := (hand_ok H hk).1
    rw [e2] at hh
    show (rowF sw hs M k).sum = _
    unfold rowF
    rw [e2]
    exact fl_sum l1 l4 hh (o.at_ hk).1
  rw [e]
/-! ### no heaps, no moves -/
def badM (P : List Int) (m : Nat) : List Val := [.non, .tup [], .str "?", .lst (P.map Val.int), .tup (P.map Val.int ++ [.int 0]), .tup (List.replicate m (.int (-1))), .tup (List.replicate m (.bl true)), .tup (List.replicate m .non), .dK []]
theorem rep_all {f : Val → Bool} (g : GB cups sw) {v : Val} (h : f v = false) : isAll f sw (.tup (List.replicate sw.length v)) = false := by
  have hl := g.len.1
  obtain ⟨m, hm⟩ : ∃ m, sw.length = m + 1 := ⟨sw.length - 1, by omega⟩
  simp only [isAll, List.length_replicate, decide_true, Bool.true_and]
  rw [hm, List.replicate_succ, List.all_cons, h]; rfl
theorem rep_yes {f : Val → Bool} {v : Val} (h : f v = true) : isAll f sw (.tup (List.replicate sw.length v)) = true := by
  simp only [isAll, List.length_replicate, decide_true, Bool.true_and]
  exact List.all_eq_true.mpr fun x hx => by rw [(List.mem_replicate.mp hx).2]; exact h
theorem bad_ok (g : GB cups sw) {P : List Int} (hl : P.length = sw.length) : ∀ v ∈ badM P sw.length, plain2 v = true ∧ isAll heapV sw v = false ∧ isAll numV sw v = false ∧ noRef v = true := by
  intro v hm
  have h1 := g.len.1
  simp only [badM, List.mem_cons, List.not_mem_nil, or_false] at hm
  rcases hm with rfl | rfl | rfl | rfl | rfl | rfl | rfl | rfl | rfl
  · exact ⟨rfl, rfl, rfl, rfl⟩
  · refine ⟨rfl, ?_, ?_, rfl⟩ <;> simp [isAll] <;> omega
  · exact ⟨rfl, rfl, rfl, rfl⟩
  · refine ⟨rfl, rfl, rfl, ?_⟩
    simp only [noRef]; exact noRefs_ints P
  · refine ⟨?_, ?_, ?_, ?_⟩
    · simp only [plain2]
      exact List.all_eq_true.mpr fun x hx => by
        rcases List.mem_append.mp hx with z | z
        · obtain ⟨n, _, rfl⟩ := List.mem_map.mp z; rfl
        · rw [List.mem_singleton.mp z]; rfl
    · simp only [isAll, List.length_append, List.length_map, List.length_singleton, Bool.and_eq_false_iff, decide_eq_false_iff_not]
      left; omega
    · simp only [isAll, List.length_append, List.length_map, List.length_singleton, Bool.and_eq_false_iff, decide_eq_false_iff_not]
      left; omega
    · simp only [noRef]
      rw [noRefs_append, noRefs_ints]; rfl
  · exact ⟨plain_rep rfl _, rep_all g rfl, rep_all g rfl, noRef_rep rfl _⟩
  · exact ⟨plain_rep rfl _, rep_all g rfl, rep_all g rfl, noRef_rep rfl _⟩
  · exact ⟨plain_rep rfl _, rep_all g rfl, rep_all g rfl, noRef_rep rfl _⟩
  · exact ⟨rfl, rfl, rfl, rfl⟩
end
/-! ### words -/
theorem word_exc {th : Store → Out Val} {c : PySem.Str} {st st' : Store} (h : th st = .exc c [] st') (hc : c = "NoBoard" ∨ c = "NoHands" ∨ c = "NoHeap" ∨ c = "NoMoves") : W_law_word th st = .ok (.tup [.str c, .non]) (popTo st st' (some (.tup [.str c, .non]))) := by
  have e1 : (([w0].map some ++ List.replicate (1 - 1) none) : Env).getD 0 none = some w0 := rfl
  rcases hc with rfl | rfl | rfl | rfl <;>
    simp [W_law_word, wb_law_word, runFn, execs, exec, execH, h, mt_NoBoard, mt_NoHands, mt_NoHeap, mt_NoMoves, List.lookup, Res.noEx, e_tup, evalEs, e_lit, sizeLine] <;> rfl
end MP.Pk31
set_option maxHeartbeats 1000000
/-! law k31: what is refused -/
namespace MP.Pk31
open PySem L2 MP
open Classical
noncomputable abbrev fns3 : List (PySem.Str × Den) := [("outflow", D_outflow), ("hands_behind_moves", D_hands_behind_moves), ("cups_by", D_cups_by)]
abbrev envL (B : Val) (v2 v3 v4 v5 v6 v7 v8 bad : Val) (o10 : Option Val) (m : Nat) (HV : Val) (o13 o14 o15 : Option Val) : Env := [some (.ref 0), some B, some v2, some v3, some v4, some v5, some v6, some v7, some v8, some bad, o10, some (.int m), some HV, o13, o14, o15]
theorem e_w {D : Den} {x : Val} {a b c : Val} {n : Nat} {env : Env} {S S' : Store} {cl : PySem.Str} {e1 e2 e3 : E} (hx : env.getD n none = some x) (hd : fnIn fns3 x = some D) (h1 : evalE e1 env S = .ok a S') (h2 : evalE e2 env S' = .ok b S') (h3 : evalE e3 env S' = .ok c S') (h : D [a, b, c] S' = .exc cl [] S') :
    evalE (.callv n fns3 (.cons e1 (.cons e2 (.cons e3 .nil)))) env S = .exc cl [] S' := by
  generalize fns3 = F at *
  simp only [e_callv, hx, Out.of_some, Out.bind_ok, evalEs, Option.bind_some, hd]
  simp only [h1, Out.bind_ok, h2, h3, h]
theorem fn_turn {D : Den} (ad : Asks D) {x : Val} (hd : fnIn fns3 x = some D) {cups : Int} {sw : List Val} (g : GB cups sw) {hs : List Nat} (H : HS sw hs) {v2 v3 v4 v5 v6 v7 v8 bad : Val} (b1 : plain2 bad = true) (b2 : isAll numV sw bad = false) (o10 o13 o14 o15 : Option Val) {n : Nat} {hc : Cell} (h : IsH n hc) (hn : n < 1000000000000) (st : Store) :
    ∃ hc', turnL (.name 10) lb_law_right_0 x (envL (bd cups sw) v2 v3 v4 v5 v6 v7 v8 bad o10 sw.length (hv hs) o13 o14 o15) (hc :: st) = .nx (envL (bd cups sw) v2 v3 v4 v5 v6 v7 v8 bad (some x) sw.length (hv hs) o13 o14 o15) (hc' :: st) ∧ IsH (n + 1) hc' := by
  have hl := g.len
  obtain ⟨nb, hc1, e1, p1, p2, ih⟩ := no_board_s h hn st
  refine ⟨hc1, ?_, ih⟩
  have eb : bindT (.name 10) x (envL (bd cups sw) v2 v3 v4 v5 v6 v7 v8 bad o10 sw.length (hv hs) o13 o14 o15) = some (envL (bd cups sw) v2 v3 v4 v5 v6 v7 v8 bad (some x) sw.length (hv hs) o13 o14 o15) := rfl
  refine (turnL_eq eb).trans ?_
  have m9 := mul1 (a := .int 9) hl.1 (by omega)
  have n9 : isHands sw (.tup (List.replicate sw.length (.int 9))) = false := rep_bad g fun k hk => by simp [within]; omega
  have x1 := ad.nm (fun S => check_hand_ok g H S) (fun S => nm_moves g b1 b2 S) (hc :: st)
  have x2 := ad.nb (fun S v => nb_hand p1 p2 v S) (.str "?") (.str "?") (hc1 :: st)
  have x3 := ad.nh (fun S => nh_hand g (plain_rep rfl _) n9 S) bad (hc1 :: st)
  have pp := pop_hand (hc := hc) (st := st) (v := .tup [.str "NoBoard", .non]) ih rfl
  generalize hE : envL (bd cups sw) v2 v3 v4 v5 v6 v7 v8 bad (some x) sw.length (hv hs) o13 o14 o15 = env
  have ex : env.getD 10 none = some x := by subst hE; rfl
  have g1 : ∀ S, evalE (.var 1) env S = .ok (bd cups sw) S := fun S => by subst hE; rfl
  have g12 : ∀ S, evalE (.var 12) env S = .ok (hv hs) S := fun S => by subst hE; rfl
  have g9 : ∀ S, evalE (.var 9) env S = .ok bad S := fun S => by subst hE; rfl
  have g0 : ∀ S, evalE (.var 0) env S = .ok (.ref 0) S := fun S => by subst hE; rfl
  have g11 : ∀ S, evalE (.var 11) env S = .ok (.int sw.length) S := fun S => by subst hE; rfl
  have gq : ∀ S, evalE (.lit (.str "?")) env S = .ok (.str "?") S := fun S => by simp only [e_lit]
  have gn : evalE (.call "_law_no_board" D_law_no_board (.cons (.var 0) .nil)) env (hc :: st) = .ok nb (hc1 :: st) := by
    simp only [e_call, evalEs, g0, Out.bind_ok, e1]
  have g9s : evalE (.bin .mul (.tup (.cons (.lit (.int 9)) .nil)) (.var 11)) env (hc1 :: st) = .ok (.tup (List.replicate sw.length (.int 9))) (hc1 :: st) := by
    simp only [e_bin, e_tup, evalEs, e_lit, Out.bind_ok, g11]
    rw [if_pos (by simp [sizeLine])]
    simp only [Out.bind_ok, m9, Out.of_some]
  have w1 := word_exc (c := "NoMoves") (st := hc :: st) (st' := hc :: st) (th := fun st' => evalE (.callv 10 fns3 (.cons (.var 1) (.cons (.var 12) (.cons (.var 9) .nil)))) env st') (e_w ex hd (g1 _) (g12 _) (g9 _) x1) (.inr (.inr (.inr rfl)))
  rw [popTo_self] at w1
  have w2 := word_exc (c := "NoBoard") (st := hc :: st) (st' := hc1 :: st) (th := fun st' => evalE (.callv 10 fns3 (.cons (.call "_law_no_board" D_law_no_board (.cons (.var 0) .nil)) (.cons (.lit (.str "?")) (.cons (.lit (.str "?")) .nil)))) env st') (e_w ex hd gn (gq _) (gq _) x2) (.inl rfl)
  rw [pp] at w2
  have w3 := word_exc (c := "NoHands") (st := hc1 :: st) (st' := hc1 :: st) (th := fun st' => evalE (.callv 10 fns3 (.cons (.var 1) (.cons (.bin .mul (.tup (.cons (.lit (.int 9)) .nil)) (.var 11)) (.cons (.var 9) .nil)))) env st') (e_w ex hd (g1 _) g9s (g9 _) x3) (.inr (.inl rfl))
  rw [popTo_self] at w3
  unfold lb_law_right_0
  refine execs_nx (ite_no (word_ne w1)) ?_
  refine execs_nx (ite_no (word_ne w2)) ?_
  exact execs_nx (ite_no (word_ne w3)) execs_nil
theorem fn_walk {cups : Int} {sw : List Val} (g : GB cups sw) {hs : List Nat} (H : HS sw hs) {v2 v3 v4 v5 v6 v7 v8 bad : Val} (b1 : plain2 bad = true) (b2 : isAll numV sw bad = false) (o13 o14 o15 : Option Val) {n : Nat} {hc : Cell} (h : IsH n hc) (hn : n < 100000000000) (st : Store) :
    ∃ hc' o10, exec l_law_right_0 (envL (bd cups sw) v2 v3 v4 v5 v6 v7 v8 bad none sw.length (hv hs) o13 o14 o15) (hc :: st) = .nx (envL (bd cups sw) v2 v3 v4 v5 v6 v7 v8 bad o10 sw.length (hv hs) o13 o14 o15) (hc' :: st) ∧ IsH (n + 3) hc' := by
  have key := forL_pre (f := turnL (.name 10) lb_law_right_0) (all := [.fn "outflow", .fn "hands_behind_moves", .fn "cups_by"]) (env := envL (bd cups sw) v2 v3 v4 v5 v6 v7 v8 bad none sw.length (hv hs) o13 o14 o15) (st := hc :: st)
    (P := fun ys env st' => ys.length ≤ 3 → ∃ hc' o10, st' = hc' :: st ∧ IsH (n + ys.length) hc' ∧ env = envL (bd cups sw) v2 v3 v4 v5 v6 v7 v8 bad o10 sw.length (hv hs) o13 o14 o15) (fun _ => ⟨hc, none, rfl, h, rfl⟩) (fun ys x zs env st' e hq => ?_)
  · obtain ⟨env', st', f1, hp⟩ := key
    obtain ⟨hc', o10, rfl, ih, rfl⟩ := hp (by decide)
    refine ⟨hc', o10, ?_, ih⟩
    unfold l_law_right_0
    rw [exec_loop]
    have ei : evalIt (.seq (.tup (.cons (.gfn "outflow") (.cons (.gfn "hands_behind_moves") (.cons (.gfn "cups_by") .nil))))) (envL (bd cups sw) v2 v3 v4 v5 v6 v7 v8 bad none sw.length (hv hs) o13 o14 o15) (hc :: st) = .ok [.fn "outflow", .fn "hands_behind_moves", .fn "cups_by"] (hc :: st) := by
      generalize envL (bd cups sw) v2 v3 v4 v5 v6 v7 v8 bad none sw.length (hv hs) o13 o14 o15 = env
      simp [runFn, execs, exec, evalEs, evalEo, evalN_lst, evalN_dct, evalIt, popTo_self, e_var, e_lit, e_gcon, e_gfn, e_bin, e_neg, e_cmp, e_isn, e_isb, e_and, e_or, e_not, e_ite, e_tup, e_val, e_cell, e_idx, e_slc, e_blt, e_isi, e_call, e_word, e_mth, e_rev, e_lenset, e_callv, sizeLine, walkSeq]
    rw [ei, Out.res_ok]
    exact f1
  · have hy : ys.length + 1 ≤ 3 := by have := congrArg List.length e; simp at this; omega
    obtain ⟨hc', o10, rfl, ih, rfl⟩ := hq (by omega)
    have hx : x ∈ [Val.fn "outflow", Val.fn "hands_behind_moves", Val.fn "cups_by"] := by rw [e]; simp
    have hd : ∃ D, fnIn fns3 x = some D ∧ Asks D := by
      simp only [List.mem_cons, List.not_mem_nil, or_false] at hx
      rcases hx with rfl | rfl | rfl
      · exact ⟨D_outflow, rfl, asks_outflow⟩
      · exact ⟨D_hands_behind_moves, rfl, asks_behind⟩
      · exact ⟨D_cups_by, rfl, asks_cups⟩
    obtain ⟨D, hd, ad⟩ := hd
    obtain ⟨hc2, t, ih2⟩ := fn_turn ad hd g H (v2 := v2) (v3 := v3) (v4 := v4) (v5 := v5) (v6 := v6) (v7 := v7) (v8 := v8) b1 b2 o10 o13 o14 o15 ih (by omega) st
    exact ⟨_, _, t, fun _ => ⟨hc2, some x, rfl, by rw [List.length_append, List.length_singleton]; exact ih2, rfl⟩⟩
end MP.Pk31
set_option maxHeartbeats 1000000
/-! law k31: the law's own lists -/
namespace MP.Pk31
open PySem L2 MP
open Classical
theorem num_list {n k m : Nat} {hc : Cell} (h : IsH k hc) (hk : k < 100000000) (hm : m ≤ 24) (o1 o2 o3 o4 o5 o6 o7 o8 o9 o10 o12 o13 o14 o15 : Option Val) (st : Store) :
    ∃ (P : List Int) (hc' : Cell), evalN c_law_right_0 [some (.ref 0), o1, o2, o3, o4, o5, o6, o7, o8, o9, o10, some (.int m), o12, o13, o14, o15] (hc :: st) = .ok (.lst (P.map Val.int)) (hc' :: st) ∧ P.length = m ∧ (∀ z ∈ P, z ∈ N8) ∧ IsH (k + 24) hc' := by
  obtain ⟨ys, st', e1, ⟨c, rfl, ih⟩, l4, q⟩ := comp_st (e := .call "_law_number" D_law_number (.cons (.var 0) .nil)) (t := .name 13) (it := .range1 (.var 11)) (own := [("s", 13)]) (env := [some (.ref 0), o1, o2, o3, o4, o5, o6, o7, o8, o9, o10, some (.int m), o12, o13, o14, o15]) (st := hc :: st) (st1 := hc :: st) (items := rangeVs 0 m) (I := fun j s => ∃ c, s = c :: st ∧ IsH (k + j) c) (Q := fun v => ∃ z : Int, v = .int z ∧ z ∈ N8) (n := 0) (by simp [evalIt, runFn, execs, exec, evalEs, evalEo, evalN_lst, evalN_dct, evalIt, popTo_self, e_var, e_lit, e_gcon, e_gfn, e_bin, e_neg, e_cmp, e_isn, e_isb, e_and, e_or, e_not, e_ite, e_tup, e_val, e_cell, e_idx, e_slc, e_blt, e_isi, e_call, e_word, e_mth, e_rev, e_lenset, e_callv, smallI_nat (show m ≤ 1000 by omega)]) (fun x hx j s hj ⟨c, ec, hck⟩ => by
    subst ec
    have hj2 : j < m := by simpa [rangeVs] using hj
    obtain ⟨z, c2, a1, a2, a3⟩ := law_number_s hck (by omega) st
    exact ⟨_, .int z, c2 :: st, rfl, by simp [runFn, execs, exec, evalEs, evalEo, evalN_lst, evalN_dct, evalIt, popTo_self, e_var, e_lit, e_gcon, e_gfn, e_bin, e_neg, e_cmp, e_isn, e_isb, e_and, e_or, e_not, e_ite, e_tup, e_val, e_cell, e_idx, e_slc, e_blt, e_isi, e_call, e_word, e_mth, e_rev, e_lenset, e_callv, wipeE, a1], ⟨c2, rfl, a3⟩, z, rfl, a2⟩) (by simp [rangeVs]; unfold sizeLine; omega) ⟨hc, rfl, h⟩
  obtain ⟨P, rfl, hP⟩ := ys_ints q
  have lm : (rangeVs 0 m).length = m := by simp [rangeVs]
  rw [lm] at l4 ih
  exact ⟨P, c, e1, by simpa using l4, hP, ih.mono (by omega)⟩
theorem num_list2 {n k m : Nat} {hc : Cell} (h : IsH k hc) (hk : k < 100000000) (hm : m ≤ 24) (o1 o2 o3 o4 o5 o6 o7 o8 o9 o10 o12 o13 o14 o15 : Option Val) (st : Store) :
    ∃ (P : List Int) (hc' : Cell), evalN c_law_right_1 [some (.ref 0), o1, o2, o3, o4, o5, o6, o7, o8, o9, o10, some (.int m), o12, o13, o14, o15] (hc :: st) = .ok (.lst (P.map Val.int)) (hc' :: st) ∧ P.length = m ∧ (∀ z ∈ P, z ∈ N8) ∧ IsH (k + 24) hc' := num_list (n := n) h hk hm o1 o2 o3 o4 o5 o6 o7 o8 o9 o10 o12 o13 o14 o15 st
theorem last_turn {B HV MV xv : Val} {env : Env} {S : Store} {h m : Int} {l : Nat} {k : Nat} (e1 : env.getD 1 none = some B) (e3 : env.getD 3 none = some MV) (e12 : env.getD 12 none = some HV) (e13 : env.getD 13 none = some (.int k))
    (i1 : idxV HV (.int k) S = some (.int h)) (i2 : idxV MV (.int k) S = some (.int m)) {SV : Val} (i3 : idxV B (.int 1) S = some SV) (i4 : idxV SV (.int k) S = some xv) (i5 : lenOf xv S = some (l : Int)) (l1 : 1 ≤ l) :
    evalE (.bin .mod (.blt .int (.cons (.bin .add (.idx (.var 12) (.var 13)) (.idx (.var 3) (.var 13))) .nil)) (.blt .len (.cons (.idx (.idx (.var 1) (.lit (.int 1))) (.var 13)) .nil))) env S = .ok (.int ((h + m) % (l : Int))) S := by
  have b := bop_mod (i := h + m) (j := (l : Int)) (by omega)
  simp only [e_bin, e_blt, evalEs, e_idx, e_var, e1, e3, e12, e13, Out.of_some, Out.bind_ok, i1, i2, e_lit, i3, i4, bop_add, blt, i5, Option.map_some, b]
section
variable {cups : Nat} {sw : List Val}
theorem last_list (g : GB cups sw) {hs : List Nat} (H : HS sw hs) {M : List Int} (o : MO sw M) (o0 o2 o4 o5 o6 o7 o8 o9 o10 o13 o14 o15 : Option Val) (S : Store) :
    evalN c_law_right_2 [o0, some (bd cups sw), o2, some (iv M), o4, o5, o6, o7, o8, o9, o10, some (.int sw.length), some (hv hs), o13, o14, o15] S = .ok (.lst ((lastL sw hs M sw.length).map Val.int)) S := by
  have hl := g.len
  unfold lastL
  rw [List.map_map]
  unfold c_law_right_2
  refine comp_dd (v := fun (t : Nat) => Val.int (0 + (t : Int))) (F := List.range sw.length) (w := fun k => Val.int (lastI sw hs M k)) (by simp [evalIt, runFn, execs, exec, evalEs, evalEo, evalN_lst, evalN_dct, evalIt, popTo_self, e_var, e_lit, e_gcon, e_gfn, e_bin, e_neg, e_cmp, e_isn, e_isb, e_and, e_or, e_not, e_ite, e_tup, e_val, e_cell, e_idx, e_slc, e_blt, e_isi, e_call, e_word, e_mth, e_rev, e_lenset, e_callv, smallI_nat (show sw.length ≤ 1000 by omega), rangeVs_map]) (fun k hk => ⟨_, rfl, ?_⟩) (by rw [List.length_range]; unfold sizeLine; omega)
  have hk := List.mem_range.mp hk
  obtain ⟨xs, e1, e2, l1, l4, hx, hp⟩ := sz_ok g hk
  rw [Int.zero_add]
  unfold lastI
  rw [e2]
  exact last_turn (B := bd cups sw) (HV := hv hs) (MV := iv M) (xv := .tup xs) rfl rfl rfl rfl (idx_tup (by rw [List.getElem?_map, (hand_ok H hk).2]; rfl)) (idx_tup (by rw [List.getElem?_map, (o.at_ hk).2]; rfl)) idx1 (idx_tup hx) rfl l1
theorem come_turn {B FV p : Val} {env : Env} {S : Store} {n : Nat} {w : PySem.Str} {z : Int} {k : Nat} (e1 : env.getD 1 none = some B) (e4 : env.getD 4 none = some FV) (e : env.getD n none = some (.int k))
    (c : D_law_come [B, FV, .tup [.str w, .int k]] S = .ok (.int z) S) :
    evalE (.call "_law_come" D_law_come (.cons (.var 1) (.cons (.var 4) (.cons (.tup (.cons (.lit (.str w)) (.cons (.var n) .nil))) .nil)))) env S = .ok (.int z) S := by
  simp only [e_call, evalEs, e_tup, e_var, e_lit, e1, e4, e, Out.of_some, Out.bind_ok]
  rw [if_pos (by simp [sizeLine])]
  simp only [Out.bind_ok, c]
theorem cup_place {c : Nat} (g : GB cups sw) (hc : c < cups) : isPlace cups sw.length (cpp c) = true := by
  have := within_nat hc
  simp [cpp, isPlace, cup_ne, this]
theorem sw_place {c : Nat} (hc : c < sw.length) : isPlace cups sw.length (swp c) = true := by
  have := within_nat hc
  simp [swp, isPlace, this]
theorem cup_list (g : GB cups sw) {hs : List Nat} (H : HS sw hs) {M : List Int} (o0 o2 o3 o5 o6 o7 o8 o9 o10 o11 o12 o13 o14 o15 : Option Val) (S : Store) :
    evalN c_law_right_3 [o0, some (bd cups sw), o2, o3, some (flV sw hs M), o5, o6, o7, o8, o9, o10, o11, o12, o13, o14, o15] S = .ok (.lst ((cupL cups (PRn sw hs M sw.length)).map Val.int)) S := by
  have hc := g.cups
  unfold cupL
  rw [List.map_map]
  unfold c_law_right_3
  refine comp_dd (v := fun (t : Nat) => Val.int (0 + (t : Int))) (F := List.range cups) (w := fun c => Val.int (cmO (PRn sw hs M sw.length) (cpp c))) (by
    generalize flV sw hs M = FV
    simp [evalIt, runFn, execs, exec, evalEs, evalEo, evalN_lst, evalN_dct, evalIt, popTo_self, e_var, e_lit, e_gcon, e_gfn, e_bin, e_neg, e_cmp, e_isn, e_isb, e_and, e_or, e_not, e_ite, e_tup, e_val, e_cell, e_idx, e_slc, e_blt, e_isi, e_call, e_word, e_mth, e_rev, e_lenset, e_callv, idx0, smallI_nat (show cups ≤ 1000 by omega), rangeVs_map]) (fun k hk => ⟨_, rfl, ?_⟩) (by rw [List.length_range]; unfold sizeLine; omega)
  have hk := List.mem_range.mp hk
  have lc := law_come_s g H (M := M) (cup_place g hk) S
  rw [Int.zero_add]
  exact come_turn (p := .non) rfl rfl rfl lc
theorem left_turn {PV MV : Val} {A : E} {env : Env} {S : Store} {p m z : Int} {k : Nat} (e2 : env.getD 2 none = some PV) (e3 : env.getD 3 none = some MV) (e13 : env.getD 13 none = some (.int k)) (i1 : idxV PV (.int k) S = some (.int p)) (i2 : idxV MV (.int k) S = some (.int m)) (hA : evalE A env S = .ok (.int z) S) :
    evalE (.bin .sub (.bin .add (.idx (.var 2) (.var 13)) A) (.idx (.var 3) (.var 13))) env S = .ok (.int (p + z - m)) S := by
  simp only [e_bin, e_idx, e_var, e2, e3, e13, Out.of_some, Out.bind_ok, i1, i2, hA, bop_add, bop_sub]
theorem left_list (g : GB cups sw) {hs : List Nat} (H : HS sw hs) {P M : List Int} (oP : MO sw P) (o : MO sw M) (o0 o5 o6 o7 o8 o9 o10 o12 o13 o14 o15 : Option Val) (S : Store) :
    evalN c_law_right_4 [o0, some (bd cups sw), some (iv P), some (iv M), some (flV sw hs M), o5, o6, o7, o8, o9, o10, some (.int sw.length), o12, o13, o14, o15] S = .ok (.lst ((leftL sw hs P M).map Val.int)) S := by
  have hl := g.len
  unfold leftL
  rw [List.map_map]
  unfold c_law_right_4
  refine comp_dd (v := fun (t : Nat) => Val.int (0 + (t : Int))) (F := List.range sw.length) (w := fun k => Val.int (leftI sw hs P M k)) (by
    generalize flV sw hs M = FV
    simp [evalIt, runFn, execs, exec, evalEs, evalEo, evalN_lst, evalN_dct, evalIt, popTo_self, e_var, e_lit, e_gcon, e_gfn, e_bin, e_neg, e_cmp, e_isn, e_isb, e_and, e_or, e_not, e_ite, e_tup, e_val, e_cell, e_idx, e_slc, e_blt, e_isi, e_call, e_word, e_mth, e_rev, e_lenset, e_callv, smallI_nat (show sw.length ≤ 1000 by omega), rangeVs_map]) (fun k hk => ⟨_, rfl, ?_⟩) (by rw [List.length_range]; unfold sizeLine; omega)
  have hk := List.mem_range.mp hk
  have lc := law_come_s g H (M := M) (sw_place (cups := cups) hk) S
  rw [Int.zero_add]
  exact left_turn (PV := iv P) (MV := iv M) rfl rfl rfl (idx_tup (by rw [List.getElem?_map, (oP.at_ hk).2]; rfl)) (idx_tup (by rw [List.getElem?_map, (o.at_ hk).2]; rfl)) (come_turn (p := .non) rfl rfl rfl lc)
theorem sum_turn {env : Env} {S : Store} {L : List Int} (e : env.getD 15 none = some (iv L)) : evalE (.blt .sum (.cons (.var 15) .nil)) env S = .ok (.int L.sum) S := by
  simp only [e_blt, evalEs, e_var, e, Out.of_some, Out.bind_ok, blt, ints_all, Option.map_some]
theorem sum_list (g : GB cups sw) {hs : List Nat} {M : List Int} (o0 o1 o2 o3 o5 o6 o7 o8 o9 o10 o11 o12 o13 o14 o15 : Option Val) (S : Store) :
    evalN c_law_right_5 [o0, o1, o2, o3, some (flV sw hs M), o5, o6, o7, o8, o9, o10, o11, o12, o13, o14, o15] S = .ok (.lst (((flL sw hs M).map List.sum).map Val.int)) S := by
  rw [List.map_map]
  unfold c_law_right_5
  refine comp_dd (v := iv) (F := flL sw hs M) (w := fun r => Val.int r.sum) (by
    show evalIt _ [o0, o1, o2, o3, some (Val.tup ((flL sw hs M).map iv)), o5, o6, o7, o8, o9, o10, o11, o12, o13, o14, o15] S = _
    generalize (flL sw hs M).map iv = FV
    simp [evalIt, runFn, execs, exec, evalEs, evalEo, evalN_lst, evalN_dct, evalIt, popTo_self, e_var, e_lit, e_gcon, e_gfn, e_bin, e_neg, e_cmp, e_isn, e_isb, e_and, e_or, e_not, e_ite, e_tup, e_val, e_cell, e_idx, e_slc, e_blt, e_isi, e_call, e_word, e_mth, e_rev, e_lenset, e_callv, walkSeq]) (fun r hr => ⟨_, rfl, ?_⟩) (by rw [fl_len]; have := g.len; unfold sizeLine; omega)
  exact sum_turn rfl
end
end MP.Pk31
set_option maxHeartbeats 1000000
/-! small steps as lemmas: each is used by unification, nothing is unfolded again -/
namespace MP
open PySem L2
theorem asg_ok {i : Nat} {e : E} {env : Env} {S S' : Store} {v : Val} (h : evalE e env S = .ok v S') : exec (.asg i e) env S = .nx (env.set i (some v)) S' := by
  simp only [exec, h, Out.res_ok]
theorem v_ {n : Nat} {env : Env} {S : Store} {v : Val} (h : env.getD n none = some v) : evalE (.var n) env S = .ok v S := by
  simp only [e_var, h, Out.of_some]
theorem call1 {x : PySem.Str} {D : Den} {e1 : E} {env : Env} {a v : Val} {S S1 S' : Store} (h1 : evalE e1 env S = .ok a S1) (h : D [a] S1 = .ok v S') : evalE (.call x D (.cons e1 .nil)) env S = .ok v S' := by
  simp only [e_call, evalEs, h1, Out.bind_ok, h]
theorem call2 {x : PySem.Str} {D : Den} {e1 e2 : E} {env : Env} {a b v : Val} {S S1 S2 S' : Store} (h1 : evalE e1 env S = .ok a S1) (h2 : evalE e2 env S1 = .ok b S2) (h : D [a, b] S2 = .ok v S') : evalE (.call x D (.cons e1 (.cons e2 .nil))) env S = .ok v S' := by
  simp only [e_call, evalEs, h1, h2, Out.bind_ok, h]
theorem call3 {x : PySem.Str} {D : Den} {e1 e2 e3 : E} {env : Env} {a b c v : Val} {S S' : Store} (h1 : evalE e1 env S = .ok a S) (h2 : evalE e2 env S = .ok b S) (h3 : evalE e3 env S = .ok c S) (h : D [a, b, c] S = .ok v S') : evalE (.call x D (.cons e1 (.cons e2 (.cons e3 .nil)))) env S = .ok v S' := by
  simp only [e_call, evalEs, h1, h2, h3, Out.bind_ok, h]
theorem call4 {x : PySem.Str} {D : Den} {e1 e2 e3 e4 : E} {env : Env} {a b c d : Val} {r : Out Val} {S : Store} (h1 : evalE e1 env S = .ok a S) (h2 : evalE e2 env S = .ok b S) (h3 : evalE e3 env S = .ok c S) (h4 : evalE e4 env S = .ok d S) (h : D [a, b, c, d] S = r) : evalE (.call x D (.cons e1 (.cons e2 (.cons e3 (.cons e4 .nil))))) env S = r := by
  simp only [e_call, evalEs, h1, h2, h3, h4, Out.bind_ok, h]
theorem tupc {c : Nw} {env : Env} {xs : List Val} {S S' : Store} (h : evalN c env S = .ok (.lst xs) S') : evalE (.blt .tuple (.cons (.val c) .nil)) env S = .ok (.tup xs) S' := by
  simp only [e_blt, evalEs, e_val, h, Out.bind_ok, blt, seqOf, Option.map_some, Out.of_some]
theorem two_ {e1 e2 : E} {env : Env} {a b : Val} {S : Store} (h1 : evalE e1 env S = .ok a S) (h2 : evalE e2 env S = .ok b S) : evalE (.val (.lst (.cons e1 (.cons e2 .nil)))) env S = .ok (.lst [a, b]) S := by
  simp [e_val, evalN_lst, evalEs, h1, h2, sizeLine]
theorem four_ {e1 e2 e3 e4 : E} {env : Env} {a b c d : Val} {S : Store} (h1 : evalE e1 env S = .ok a S) (h2 : evalE e2 env S = .ok b S) (h3 : evalE e3 env S = .ok c S) (h4 : evalE e4 env S = .ok d S) : evalE (.val (.lst (.cons e1 (.cons e2 (.cons e3 (.cons e4 .nil)))))) env S = .ok (.lst [a, b, c, d]) S := by
  simp [e_val, evalN_lst, evalEs, h1, h2, h3, h4, sizeLine]
theorem bin_ {o : Bop} {e1 e2 : E} {env : Env} {a b v : Val} {S S1 S2 : Store} (h1 : evalE e1 env S = .ok a S1) (h2 : evalE e2 env S1 = .ok b S2) (h : bop o a b = some v) : evalE (.bin o e1 e2) env S = .ok v S2 := by
  simp only [e_bin, h1, h2, Out.bind_ok, h, Out.of_some]
theorem or_no {a b : E} {env : Env} {S S1 S2 : Store} (h1 : evalE a env S = .ok (.bl false) S1) (h2 : evalE b env S1 = .ok (.bl false) S2) : evalE (.or a b) env S = .ok (.bl false) S2 := by
  simp [e_or, h1, h2, truth]
end MP
set_option maxHeartbeats 1000000
/-! law k31: one turn of the law -/
namespace MP.Pk31
open PySem L2 MP
open Classical
theorem rep1 {e1 : E} {n : Nat} {env : Env} {a : Val} {m : Nat} {S : Store} (h1 : evalE e1 env S = .ok a S) (h2 : env.getD n none = some (.int m)) (m1 : 1 ≤ m) (m2 : m ≤ 1000) : evalE (.bin .mul (.tup (.cons e1 .nil)) (.var n)) env S = .ok (.tup (List.replicate m a)) S := by
  refine bin_ (a := .tup [a]) (S1 := S) ?_ (v_ h2) (mul1 m1 m2)
  simp [e_tup, evalEs, h1, sizeLine]
theorem bad_list {env : Env} {P : List Int} {m : Nat} (e2 : env.getD 2 none = some (iv P)) (e11 : env.getD 11 none = some (.int m)) (m1 : 1 ≤ m) (m2 : m ≤ 24) (lP : P.length = m) (S : Store) :
    evalE (.val (.lst (.cons (.lit .non) (.cons (.tup (.nil)) (.cons (.lit (.str "?")) (.cons (.blt .list (.cons (.var 2) .nil)) (.cons (.bin .add (.var 2) (.tup (.cons (.lit (.int 0)) .nil))) (.cons (.bin .mul (.tup (.cons (.neg (.lit (.int 1))) .nil)) (.var 11)) (.cons (.bin .mul (.tup (.cons (.lit (.bl true)) .nil)) (.var 11)) (.cons (.bin .mul (.tup (.cons (.lit .non) .nil)) (.var 11)) (.cons (.val (.dct false)) .nil))))))))))) env S = .ok (.lst (badM P m)) S := by
  have r1 := rep1 (e1 := .neg (.lit (.int 1))) (a := .int (-1)) (S := S) (by simp [runFn, execs, exec, evalEs, evalEo, evalN_lst, evalN_dct, evalIt, popTo_self, e_var, e_lit, e_gcon, e_gfn, e_bin, e_neg, e_cmp, e_isn, e_isb, e_and, e_or, e_not, e_ite, e_tup, e_val, e_cell, e_idx, e_slc, e_blt, e_isi, e_call, e_word, e_mth, e_rev, e_lenset, e_callv]) e11 m1 (by omega)
  have r2 := rep1 (e1 := .lit (.bl true)) (a := .bl true) (S := S) (by simp only [e_lit]) e11 m1 (by omega)
  have r3 := rep1 (e1 := .lit .non) (a := .non) (S := S) (by simp only [e_lit]) e11 m1 (by omega)
  have r4 : evalE (.blt .list (.cons (.var 2) .nil)) env S = .ok (.lst (P.map Val.int)) S := by
    simp only [e_blt, evalEs, e_var, e2, Out.of_some, Out.bind_ok, blt, seqOf, Option.map_some]
  have r5 : evalE (.bin .add (.var 2) (.tup (.cons (.lit (.int 0)) .nil))) env S = .ok (.tup (P.map Val.int ++ [.int 0])) S := by
    refine bin_ (b := .tup [.int 0]) (v_ e2) (S2 := S) ?_ (bop_tadd (by rw [List.length_map]; simp; unfold sizeLine; omega))
    simp [e_tup, evalEs, e_lit, sizeLine]
  generalize MP.E.bin .mul (.tup (.cons (.neg (.lit (.int 1))) .nil)) (.var 11) = A1 at *
  generalize MP.E.bin .mul (.tup (.cons (.lit (.bl true)) .nil)) (.var 11) = A2 at *
  generalize MP.E.bin .mul (.tup (.cons (.lit .non) .nil)) (.var 11) = A3 at *
  generalize MP.E.blt .list (.cons (.var 2) .nil) = A4 at *
  generalize MP.E.bin .add (.var 2) (.tup (.cons (.lit (.int 0)) .nil)) = A5 at *
  unfold badM
  generalize P.map Val.int = P1 at *
  simp [e_val, evalN_lst, evalEs, e_lit, e_tup, r1, r2, r3, r4, r5, sizeLine, evalN_dct]
end MP.Pk31
set_option maxHeartbeats 1000000
/-! law k31: one turn of the law -/
namespace MP.Pk31
open PySem L2 MP
open Classical
theorem law_is_bl (a b : Bool) (S : Store) : D_law_is [.lst [.bl a, .bl b], .lst [.bl a, .bl b]] S = .ok (.bl true) S :=
  is_two (sh_bl a) (sh_bl b) (by decide) (by decide) S
theorem lit_ {v : Val} {env : Env} {S : Store} : evalE (.lit v) env S = .ok v S := by simp only [e_lit]
theorem n8_mo {sw : List Val} {P : List Int} (l : P.length = sw.length) (h : ∀ z ∈ P, z ∈ N8) : MO sw P := ⟨l, fun m hm => (N8_le (h m hm)).1⟩
theorem n8_le {P : List Int} (h : ∀ z ∈ P, z ∈ N8) : ∀ m ∈ P, m ≤ n29 := fun m hm => (N8_le (h m hm)).2
theorem n8_e30 {P : List Int} (h : ∀ z ∈ P, z ∈ N8) : ∀ m ∈ P, m ≤ e30 := fun m hm => Int.le_trans (n8_le h m hm) (by decide)
theorem ret_ {e : E} {env : Env} {S S' : Store} {v : Val} (h : evalE e env S = .ok v S') : execs (.cons (.ret e) .nil) env S = .rt v S' := by
  simp only [execs, exec, h, Out.res_ok, Res.seq_rt]
theorem ladd2 {a b c d : Val} : bop .add (.lst [a, b]) (.lst [c, d]) = some (.lst [a, b, c, d]) := bop_ladd (by simp [sizeLine])
theorem idx_of {e i : E} {env : Env} {S : Store} {a b v : Val} (h1 : evalE e env S = .ok a S) (h2 : evalE i env S = .ok b S) (h : idxV a b S = some v) : evalE (.idx e i) env S = .ok v S := by
  simp only [e_idx, h1, h2, Out.bind_ok, h, Out.of_some]
theorem big1 {env : Env} {S : Store} : evalE (.bin .add (.bin .pow (.lit (.int 10)) (.lit (.int 30))) (.lit (.int 1))) env S = .ok (.int 1000000000000000000000000000001) S := bin_ (bin_ lit_ lit_ p30) lit_ a30
theorem big2 {env : Env} {S : Store} : evalE (.bin .pow (.lit (.int 10)) (.lit (.int 30))) env S = .ok (.int e30) S := bin_ lit_ lit_ p30
theorem len1 {env : Env} {S : Store} {cups : Int} {sw : List Val} (e1 : env.getD 1 none = some (bd cups sw)) : evalE (.blt .len (.cons (.idx (.var 1) (.lit (.int 1))) .nil)) env S = .ok (.int sw.length) S := by
  have h := idx_of (v_ (S := S) e1) (lit_ (v := .int 1)) idx1
  simp only [e_blt, evalEs, h, Out.bind_ok, blt, lenOf, Option.map_some, Out.of_some]
theorem ne_sum {env : Env} {S : Store} {L M : List Int} {c : Nw} (h : evalN c env S = .ok (.lst (L.map Val.int)) S) (e3 : env.getD 3 none = some (iv M)) (hs : L.sum = M.sum) : evalE (.cmp .ne (.blt .sum (.cons (.val c) .nil)) (.blt .sum (.cons (.var 3) .nil))) env S = .ok (.bl false) S := by
  have h1 : evalE (.blt .sum (.cons (.val c) .nil)) env S = .ok (.int L.sum) S := by
    simp only [e_blt, evalEs, e_val, h, Out.bind_ok, blt, ints_all, Option.map_some, Out.of_some]
  have h2 : evalE (.blt .sum (.cons (.var 3) .nil)) env S = .ok (.int M.sum) S := by
    simp only [e_blt, evalEs, e_var, e3, Out.bind_ok, blt, ints_all, Option.map_some, Out.of_some]
  simp [e_cmp, h1, h2, hs, cop, eqV]
theorem law_right_s {n : Nat} {hc : Cell} (h : IsH n hc) (hn : n < 10000000) (st : Store) : ∃ hc', D_law_right [.ref 0] (hc :: st) = .ok (.bl true) (hc' :: st) ∧ IsH (n + 120) hc' := by
  obtain ⟨cups, sw, hc1, e1, g, c3, s5, ih1⟩ := law_board_s h (by omega) st
  obtain ⟨hs, hc2, e2, H, ih2⟩ := law_hands_s ih1 (by omega) g st
  have hl := g.len
  obtain ⟨P, hc3, e3, lP, hP, ih3⟩ := num_list (n := 0) (m := sw.length) ih2 (by omega) hl.2 (some (bd cups sw)) none none none none none none none none none (some (hv hs)) none none none st
  obtain ⟨M, hc4, e4, lM, hM, ih4⟩ := num_list2 (n := 0) (m := sw.length) ih3 (by omega) hl.2 (some (bd cups sw)) (some (iv P)) none none none none none none none none (some (hv hs)) none none none st
  have oP := n8_mo lP hP
  have o := n8_mo lM hM
  have k1 := law_outflow_s g H o (hc4 :: st)
  have k2 := last_list g H o (some (.ref 0)) (some (iv P)) (some (flV sw hs M)) none none none none none none none none none (hc4 :: st)
  have k3 := cup_list g H (M := M) (some (.ref 0)) (some (iv P)) (some (iv M)) (some (iv (lastL sw hs M sw.length))) none none none none none (some (.int sw.length)) (some (hv hs)) none none none (hc4 :: st)
  have k4 := left_list g H oP o (some (.ref 0)) (some (iv (lastL sw hs M sw.length))) (some (iv (cupL cups (PRn sw hs M sw.length)))) none none none none (some (hv hs)) none none none (hc4 :: st)
  have t1 := outflow_s g H o (hc4 :: st)
  have t2 := hands_behind_s g H o (hc4 :: st)
  have t3 := cups_by_s g H o (hc4 :: st)
  have t4 := waiting_s g H oP (n8_e30 hP) o (hc4 :: st)
  obtain ⟨d1, s1⟩ := sh_flow g (hs := hs) o (n8_le hM)
  obtain ⟨d2, s2⟩ := sh_last g (hs := hs) (M := M)
  obtain ⟨d3, s3⟩ := sh_cups g (hs := hs) o (n8_le hM)
  obtain ⟨d4, s4⟩ := sh_left g (hs := hs) oP (n8_le hP) o (n8_le hM)
  have tl := is_four s1 s2 s3 s4 (by decide) (by decide) (hc4 :: st)
  have k5 := sum_list g (hs := hs) (M := M) (some (.ref 0)) (some (bd cups sw)) (some (iv P)) (some (iv M)) (some (iv (lastL sw hs M sw.length))) (some (iv (cupL cups (PRn sw hs M sw.length)))) (some (iv (leftL sw hs P M))) (some (.lst [flV sw hs M, iv (lastL sw hs M sw.length), iv (cupL cups (PRn sw hs M sw.length)), iv (leftL sw hs P M)])) none none (some (.int sw.length)) (some (hv hs)) none none none (hc4 :: st)
  have fs := flow_sum g H o
  have u1 := is_heap_s g (iv P) (iv_plain P) (hc4 :: st)
  rw [oP.heap (n8_e30 hP)] at u1
  have u2 := are_moves_s g (iv M) (iv_plain M) (hc4 :: st)
  rw [o.is] at u2
  obtain ⟨bad, hc5, e5, hbad, ih5⟩ := law_some_s ih4 (by omega) (badM P sw.length) (by simp [badM]) (by simp [badM]) (noRefs_all fun x hx => (bad_ok g lP x hx).2.2.2) st
  obtain ⟨b1, b2, b3, b4⟩ := bad_ok g lP bad hbad
  have u3 := is_heap_s g bad b1 (hc5 :: st)
  rw [b2] at u3
  have u4 := are_moves_s g bad b1 (hc5 :: st)
  rw [b3] at u4
  have u5 := is_heap_s g _ (plain_rep (v := .int 1000000000000000000000000000001) rfl sw.length) (hc5 :: st)
  rw [rep_all g (by decide)] at u5
  have u6 := is_heap_s g _ (plain_rep (v := .int e30) rfl sw.length) (hc5 :: st)
  rw [rep_yes (by decide)] at u6
  obtain ⟨hc6, o10, e6, ih6⟩ := fn_walk g H (v2 := iv P) (v3 := iv M) (v4 := flV sw hs M) (v5 := iv (lastL sw hs M sw.length)) (v6 := iv (cupL cups (PRn sw hs M sw.length))) (v7 := iv (leftL sw hs P M)) (v8 := .lst [flV sw hs M, iv (lastL sw hs M sw.length), iv (cupL cups (PRn sw hs M sw.length)), iv (leftL sw hs P M)]) b1 b3 none none none ih5 (by omega) st
  have x1 := waiting_heap g H b1 b2 (.str "?") (hc6 :: st)
  have x2 := waiting_moves g H oP (n8_e30 hP) b1 b3 (hc6 :: st)
  refine ⟨hc6, ?_, ih6.mono (by omega)⟩
  have pp := pop_hand (hc := hc) (st := st) (v := .bl true) ih6 rfl
  clear h hn ih1 ih2 ih3 ih4 ih5 ih6 oP o lM hP hM hbad s1 s2 s3 s4 H
  have lw := law_is_bl
  generalize leftL sw hs P M = left at *
  generalize cupL cups (PRn sw hs M sw.length) = cupl at *
  generalize lastL sw hs M sw.length = last at *
  generalize hFL : (flL sw hs M).map List.sum = FLs at *
  generalize flV sw hs M = FV at *
  have hx : execs b_law_right [some (.ref 0), none, none, none, none, none, none, none, none, none, none, none, none, none, none, none] (hc :: st) = .rt (.bl true) (hc6 :: st) := by
    unfold b_law_right
    refine execs_nx (env' := [some (.ref 0), some (bd cups sw), none, none, none, none, none, none, none, none, none, none, none, none, none, none]) (asg_ok (call1 (v_ rfl) e1)) ?_
    refine execs_nx (env' := [some (.ref 0), some (bd cups sw), none, none, none, none, none, none, none, none, none, some (.int sw.length), some (hv hs), none, none, none]) (st' := hc2 :: st) ?_ ?_
    · have z1 := len1 (env := [some (.ref 0), some (bd cups sw), none, none, none, none, none, none, none, none, none, none, none, none, none, none]) (S := hc1 :: st) rfl
      have z2 := call2 (x := "_law_hands") (v_ (n := 0) (env := [some (.ref 0), some (bd cups sw), none, none, none, none, none, none, none, none, none, none, none, none, none, none]) rfl) (v_ (n := 1) rfl) e2
      simp [exec, e_tup, evalEs, z1, z2, sizeLine, bindTs, bindT]
    refine execs_nx (env' := [some (.ref 0), some (bd cups sw), some (iv P), none, none, none, none, none, none, none, none, some (.int sw.length), some (hv hs), none, none, none]) (asg_ok (tupc e3)) ?_
    refine execs_nx (env' := [some (.ref 0), some (bd cups sw), some (iv P), some (iv M), none, none, none, none, none, none, none, some (.int sw.length), some (hv hs), none, none, none]) (asg_ok (tupc e4)) ?_
    refine execs_nx (env' := [some (.ref 0), some (bd cups sw), some (iv P), some (iv M), some FV, none, none, none, none, none, none, some (.int sw.length), some (hv hs), none, none, none]) (asg_ok (call3 (v_ rfl) (v_ rfl) (v_ rfl) k1)) ?_
    refine execs_nx (env' := [some (.ref 0), some (bd cups sw), some (iv P), some (iv M), some FV, some (iv last), none, none, none, none, none, some (.int sw.length), some (hv hs), none, none, none]) (asg_ok (tupc k2)) ?_
    refine execs_nx (env' := [some (.ref 0), some (bd cups sw), some (iv P), some (iv M), some FV, some (iv last), some (iv cupl), none, none, none, none, some (.int sw.length), some (hv hs), none, none, none]) (asg_ok (tupc k3)) ?_
    refine execs_nx (env' := [some (.ref 0), some (bd cups sw), some (iv P), some (iv M), some FV, some (iv last), some (iv cupl), some (iv left), none, none, none, some (.int sw.length), some (hv hs), none, none, none]) (asg_ok (tupc k4)) ?_
    refine execs_nx (env' := [some (.ref 0), some (bd cups sw), some (iv P), some (iv M), some FV, some (iv last), some (iv cupl), some (iv left), some (.lst [FV, iv last]), none, none, some (.int sw.length), some (hv hs), none, none, none]) (asg_ok (two_ (call3 (v_ rfl) (v_ rfl) (v_ rfl) t1) (call3 (v_ rfl) (v_ rfl) (v_ rfl) t2))) ?_
    refine execs_nx (env' := [some (.ref 0), some (bd cups sw), some (iv P), some (iv M), some FV, some (iv last), some (iv cupl), some (iv left), some (.lst [FV, iv last, iv cupl, iv left]), none, none, some (.int sw.length), some (hv hs), none, none, none]) (asg_ok (bin_ (v_ rfl) (two_ (call3 (v_ rfl) (v_ rfl) (v_ rfl) t3) (call4 (v_ rfl) (v_ rfl) (v_ rfl) (v_ rfl) t4)) ladd2)) ?_
    refine execs_nx (ite_no (or_no (not_yes (call2 (v_ rfl) (four_ (v_ rfl) (v_ rfl) (v_ rfl) (v_ rfl)) tl)) (ne_sum k5 rfl fs))) ?_
    refine execs_nx (ite_no (not_yes (call2 (two_ (call2 (v_ rfl) (v_ rfl) u1) (call2 (v_ rfl) (v_ rfl) u2)) (two_ lit_ lit_) (lw true true _)))) ?_
    refine execs_nx (env' := [some (.ref 0), some (bd cups sw), some (iv P), some (iv M), some FV, some (iv last), some (iv cupl), some (iv left), some (.lst [FV, iv last, iv cupl, iv left]), some bad, none, some (.int sw.length), some (hv hs), none, none, none]) (asg_ok (call2 (v_ rfl) (bad_list rfl rfl hl.1 hl.2 lP _) e5)) ?_
    refine execs_nx (ite_no (not_yes (call2 (two_ (call2 (v_ rfl) (v_ rfl) u3) (call2 (v_ rfl) (v_ rfl) u4)) (two_ lit_ lit_) (lw false false _)))) ?_
    refine execs_nx (ite_no (not_yes (call2 (two_ (call2 (v_ rfl) (rep1 big1 rfl hl.1 (by omega)) u5) (call2 (v_ rfl) (rep1 big2 rfl hl.1 (by omega)) u6)) (two_ lit_ lit_) (lw false true _)))) ?_
    refine execs_nx e6 ?_
    have w1 := word_exc (c := "NoHeap") (st := hc6 :: st) (st' := hc6 :: st) (th := fun st' => evalE (.call "waiting" D_waiting (.cons (.var 1) (.cons (.var 12) (.cons (.var 9) (.cons (.lit (.str "?")) .nil))))) (envL (bd cups sw) (iv P) (iv M) FV (iv last) (iv cupl) (iv left) (.lst [FV, iv last, iv cupl, iv left]) bad o10 sw.length (hv hs) none none none) st') (call4 (v_ rfl) (v_ rfl) (v_ rfl) lit_ x1) (.inr (.inr (.inl rfl)))
    rw [popTo_self] at w1
    have w2 := word_exc (c := "NoMoves") (st := hc6 :: st) (st' := hc6 :: st) (th := fun st' => evalE (.call "waiting" D_waiting (.cons (.var 1) (.cons (.var 12) (.cons (.var 2) (.cons (.var 9) .nil))))) (envL (bd cups sw) (iv P) (iv M) FV (iv last) (iv cupl) (iv left) (.lst [FV, iv last, iv cupl, iv left]) bad o10 sw.length (hv hs) none none none) st') (call4 (v_ rfl) (v_ rfl) (v_ rfl) (v_ rfl) x2) (.inr (.inr (.inr rfl)))
    rw [popTo_self] at w2
    refine execs_nx (ite_no (word_ne w1)) ?_
    exact ret_ (word_eq w2)
  simp only [D_law_right, runFn, List.length_cons, List.length_nil, if_true, List.map_cons, List.map_nil, List.replicate, Nat.reduceSub, Nat.reduceAdd, List.cons_append, List.nil_append, hx, pp]
end MP.Pk31
set_option maxHeartbeats 0
namespace MP.Pk31
open PySem PySem.Spec PyProof.Rows L2 MP
def fa : List (PySem.W.Frag → Bool) := [fBlt, fGlo "is_integer", fGlo "is_within", fGlo "is_tuple_of", fGlo "is_place_of", fGlo "is_board", fGlo "check_board", fGlo "raw_is_hands", fGlo "check_hands", fGlo "is_number", fGlo "raw_is_heap", fGlo "is_heap", fGlo "raw_are_moves", fGlo "are_moves", fGlo "check_hand", fGlo "check_moves", fGlo "check_heap", fGlo "along_exits", fGlo "raw_outflow", fGlo "outflow", fGlo "raw_hands_by", fGlo "hands_behind_moves", fGlo "raw_inflow", fGlo "cups_by", fGlo "raw_waiting", fGlo "waiting", fGlo "_law_hand", fGlo "_law_draw", fGlo "_law_some", fGlo "_law_is", fGlo "_law_place", fGlo "_law_board", fGlo "_law_hands", fGlo "_law_word", fGlo "_law_no_board", fGlo "_law_number", fGlo "_law_outflow", fGlo "_law_come", fGlo "_law_right", fGlo "law", fStr "CUP" "cup", fInt "MOST_CUPS" 4, fInt "MOST_EXITS" 4, fInt "MOST_SWITCHES" 24, fInt "MOST_WAIT" 1000000000000000000000000000000, fStr "SWITCH" "switch", fExc "NoBoard", fExc "NoHands", fExc "NoHeap", fExc "NoMoves", fCls "BallError" mt_BallError, fCls "NoBoard" mt_NoBoard, fCls "NoHands" mt_NoHands, fCls "NoHeap" mt_NoHeap, fCls "NoMoves" mt_NoMoves]
def fn : List He.DefD := [⟨("is_integer", none), "is_integer", "is_integer", defArgs (top 12), defBody (top 12), defScope (top 12), [], []⟩, ⟨("is_within", none), "is_within", "is_within", defArgs (top 13), defBody (top 13), defScope (top 13), [], []⟩, ⟨("is_tuple_of", none), "is_tuple_of", "is_tuple_of", defArgs (top 14), defBody (top 14), defScope (top 14), [], []⟩, ⟨("is_place_of", none), "is_place_of", "is_place_of", defArgs (top 15), defBody (top 15), defScope (top 15), [], []⟩, ⟨("is_board", none), "is_board", "is_board", defArgs (top 16), defBody (top 16), defScope (top 16), [], []⟩, ⟨("check_board", none), "check_board", "check_board", defArgs (top 17), defBody (top 17), defScope (top 17), [], []⟩, ⟨("raw_is_hands", none), "raw_is_hands", "raw_is_hands", defArgs (top 20), defBody (top 20), defScope (top 20), [], []⟩, ⟨("check_hands", none), "check_hands", "check_hands", defArgs (top 21), defBody (top 21), defScope (top 21), [], []⟩, ⟨("is_number", none), "is_number", "is_number", defArgs (top 22), defBody (top 22), defScope (top 22), [], []⟩, ⟨("raw_is_heap", none), "raw_is_heap", "raw_is_heap", defArgs (top 24), defBody (top 24), defScope (top 24), [], []⟩, ⟨("is_heap", none), "is_heap", "is_heap", defArgs (top 25), defBody (top 25), defScope (top 25), [], []⟩, ⟨("raw_are_moves", none), "raw_are_moves", "raw_are_moves", defArgs (top 26), defBody (top 26), defScope (top 26), [], []⟩, ⟨("are_moves", none), "are_moves", "are_moves", defArgs (top 27), defBody (top 27), defScope (top 27), [], []⟩, ⟨("check_hand", none), "check_hand", "check_hand", defArgs (top 28), defBody (top 28), defScope (top 28), [], []⟩, ⟨("check_moves", none), "check_moves", "check_moves", defArgs (top 29), defBody (top 29), defScope (top 29), [], []⟩, ⟨("check_heap", none), "check_heap", "check_heap", defArgs (top 30), defBody (top 30), defScope (top 30), [], []⟩, ⟨("along_exits", none), "along_exits", "along_exits", defArgs (top 31), defBody (top 31), defScope (top 31), [], []⟩, ⟨("raw_outflow", none), "raw_outflow", "raw_outflow", defArgs (top 32), defBody (top 32), defScope (top 32), [], []⟩, ⟨("outflow", none), "outflow", "outflow", defArgs (top 33), defBody (top 33), defScope (top 33), [], []⟩, ⟨("raw_hands_by", none), "raw_hands_by", "raw_hands_by", defArgs (top 34), defBody (top 34), defScope (top 34), [], []⟩, ⟨("hands_behind_moves", none), "hands_behind_moves", "hands_behind_moves", defArgs (top 35), defBody (top 35), defScope (top 35), [], []⟩, ⟨("raw_inflow", none), "raw_inflow", "raw_inflow", defArgs (top 36), defBody (top 36), defScope (top 36), [], []⟩, ⟨("cups_by", none), "cups_by", "cups_by", defArgs (top 37), defBody (top 37), defScope (top 37), [], []⟩, ⟨("raw_waiting", none), "raw_waiting", "raw_waiting", defArgs (top 38), defBody (top 38), defScope (top 38), [], []⟩, ⟨("waiting", none), "waiting", "waiting", defArgs (top 39), defBody (top 39), defScope (top 39), [], []⟩, ⟨("_law_hand", none), "_law_hand", "_law_hand", defArgs (top 41), defBody (top 41), defScope (top 41), [], []⟩, ⟨("_law_draw", none), "_law_draw", "_law_draw", defArgs (top 42), defBody (top 42), defScope (top 42), [], []⟩, ⟨("_law_some", none), "_law_some", "_law_some", defArgs (top 43), defBody (top 43), defScope (top 43), [], []⟩, ⟨("_law_is", none), "_law_is", "_law_is", defArgs (top 44), defBody (top 44), defScope (top 44), [], []⟩, ⟨("_law_place", none), "_law_place", "_law_place", defArgs (top 45), defBody (top 45), defScope (top 45), [], []⟩, ⟨("_law_board", none), "_law_board", "_law_board", defArgs (top 46), defBody (top 46), defScope (top 46), [], []⟩, ⟨("_law_hands", none), "_law_hands", "_law_hands", defArgs (top 47), defBody (top 47), defScope (top 47), [], []⟩, ⟨("_law_word", none), "_law_word", "_law_word", defArgs (top 48), defBody (top 48), defScope (top 48), [], []⟩, ⟨("_law_no_board", none), "_law_no_board", "_law_no_board", defArgs (top 49), defBody (top 49), defScope (top 49), [], []⟩, ⟨("_law_number", none), "_law_number", "_law_number", defArgs (top 50), defBody (top 50), defScope (top 50), [], []⟩, ⟨("_law_outflow", none), "_law_outflow", "_law_outflow", defArgs (top 51), defBody (top 51), defScope (top 51), [], []⟩, ⟨("_law_come", none), "_law_come", "_law_come", defArgs (top 52), defBody (top 52), defScope (top 52), [], []⟩, ⟨("_law_right", none), "_law_right", "_law_right", defArgs (top 53), defBody (top 53), defScope (top 53), [], []⟩, ⟨("law", none), "law", "law", defArgs (top 54), defBody (top 54), defScope (top 54), [], []⟩]
def tb : List (PySem.Str × Option PySem.Str) := [("_law_right", none)]
def A : Ask := ⟨fa, fn, tb⟩
def gfs : List PySem.Str := ["cups_by", "hands_behind_moves", "outflow"]
def gx (K : PySem.W.Frag) : GX := ⟨fun x => if x ∈ gfs then some (He.ga (cutK K) x) else none, A.tT K⟩
def names0 : List PySem.Str := ["BallError", "NoBoard", "NoHands", "NoHeap", "NoMoves", "SWITCH", "CUP", "MOST_CUPS", "MOST_SWITCHES", "MOST_EXITS", "is_integer", "is_within", "is_tuple_of", "is_place_of", "is_board", "check_board", "MOST_WAIT", "raw_is_hands", "check_hands", "is_number"]
def names1 : List PySem.Str := ["raw_is_heap", "is_heap", "raw_are_moves", "are_moves", "check_hand", "check_moves", "check_heap", "along_exits", "raw_outflow", "outflow", "raw_hands_by", "hands_behind_moves", "raw_inflow", "cups_by", "raw_waiting", "waiting", "_law_hand", "_law_draw", "_law_some", "_law_is"]
def names2 : List PySem.Str := ["_law_place", "_law_board", "_law_hands", "_law_word", "_law_no_board", "_law_number", "_law_outflow", "_law_come", "_law_right"]
def names : List PySem.Str := names0 ++ names1 ++ names2
abbrev Rw : PySem.W.OpenRow := PySem.W.OpenLaw.row R
def ob (s : PySem.W.SharedT) : He.AlD := A.obs (He.frG (HandSHeadRun.getT s) (He.asD (HandSHeadRun.getT s) 5))
theorem run (w : World) : HandSHeadRun.RunEq Rw (PySem.W.view R.prog [54]) (A.hook 5) ob 6000 names w := by
  intro os
  kernel_rfl
theorem pg {P : Program} {w : World} {K : PySem.W.Frag} {h : Heap} {mg : PySem.Str → Option Value} {base : Heap} (c : A.Says K) (hm : ∀ p ∈ K, h.get? p.1 = some p.2) (Gm : h.Ns mainGlobals mg) (TB : ∀ c t, t ∈ A.tabs K → PySem.W.CodeHd h c t → LamX.TabB base mg c t) : Pg ⟨P, w, cutK K, mg, base⟩ (gx K) where
  tk := ⟨gf_of (List.forall_mem_cons.mpr ⟨He.glo_ok (cut_in hm) Gm (c.fact 23 rfl), (List.forall_mem_cons.mpr ⟨He.glo_ok (cut_in hm) Gm (c.fact 21 rfl), (List.forall_mem_cons.mpr ⟨He.glo_ok (cut_in hm) Gm (c.fact 19 rfl), (fun _ h => by cases h)⟩)⟩)⟩), bltN_of (T := ⟨P, w, cutK K, mg, base⟩) (cut_in hm) Gm (c.fact 0 rfl)⟩
  g_cups_by := ⟨He.ga (cutK K) "cups_by", (show (if ("cups_by" : PySem.Str) ∈ gfs then some (He.ga (cutK K) "cups_by") else none) = some (He.ga (cutK K) "cups_by") from if_pos (by decide)), He.glo_ok (cut_in hm) Gm (c.fact 23 rfl)⟩
  g_hands_behind_moves := ⟨He.ga (cutK K) "hands_behind_moves", (show (if ("hands_behind_moves" : PySem.Str) ∈ gfs then some (He.ga (cutK K) "hands_behind_moves") else none) = some (He.ga (cutK K) "hands_behind_moves") from if_pos (by decide)), He.glo_ok (cut_in hm) Gm (c.fact 21 rfl)⟩
  g_outflow := ⟨He.ga (cutK K) "outflow", (show (if ("outflow" : PySem.Str) ∈ gfs then some (He.ga (cutK K) "outflow") else none) = some (He.ga (cutK K) "outflow") from if_pos (by decide)), He.glo_ok (cut_in hm) Gm (c.fact 19 rfl)⟩
  c_CUP := str_of (T := ⟨P, w, cutK K, mg, base⟩) (cut_in hm) Gm (c.fact 40 rfl)
  c_MOST_CUPS := int_of (T := ⟨P, w, cutK K, mg, base⟩) (cut_in hm) Gm (c.fact 41 rfl)
  c_MOST_EXITS := int_of (T := ⟨P, w, cutK K, mg, base⟩) (cut_in hm) Gm (c.fact 42 rfl)
  c_MOST_SWITCHES := int_of (T := ⟨P, w, cutK K, mg, base⟩) (cut_in hm) Gm (c.fact 43 rfl)
  c_MOST_WAIT := int_of (T := ⟨P, w, cutK K, mg, base⟩) (cut_in hm) Gm (c.fact 44 rfl)
  c_SWITCH := str_of (T := ⟨P, w, cutK K, mg, base⟩) (cut_in hm) Gm (c.fact 45 rfl)
  r_NoBoard := exc_of (T := ⟨P, w, cutK K, mg, base⟩) (cut_in hm) Gm (c.fact 46 rfl)
  r_NoHands := exc_of (T := ⟨P, w, cutK K, mg, base⟩) (cut_in hm) Gm (c.fact 47 rfl)
  r_NoHeap := exc_of (T := ⟨P, w, cutK K, mg, base⟩) (cut_in hm) Gm (c.fact 48 rfl)
  r_NoMoves := exc_of (T := ⟨P, w, cutK K, mg, base⟩) (cut_in hm) Gm (c.fact 49 rfl)
  h_BallError := cls_of (T := ⟨P, w, cutK K, mg, base⟩) (cut_in hm) Gm (c.fact 50 rfl)
  h_NoBoard := cls_of (T := ⟨P, w, cutK K, mg, base⟩) (cut_in hm) Gm (c.fact 51 rfl)
  h_NoHands := cls_of (T := ⟨P, w, cutK K, mg, base⟩) (cut_in hm) Gm (c.fact 52 rfl)
  h_NoHeap := cls_of (T := ⟨P, w, cutK K, mg, base⟩) (cut_in hm) Gm (c.fact 53 rfl)
  h_NoMoves := cls_of (T := ⟨P, w, cutK K, mg, base⟩) (cut_in hm) Gm (c.fact 54 rfl)
  f_is_integer := by
    obtain ⟨fd, F⟩ := c.def_ 0 rfl
    exact ⟨_, fd, He.glo_ok (cut_in hm) Gm (c.fact 1 rfl), F⟩
  f_is_within := by
    obtain ⟨fd, F⟩ := c.def_ 1 rfl
    exact ⟨_, fd, He.glo_ok (cut_in hm) Gm (c.fact 2 rfl), F⟩
  f_is_tuple_of := by
    obtain ⟨fd, F⟩ := c.def_ 2 rfl
    exact ⟨_, fd, He.glo_ok (cut_in hm) Gm (c.fact 3 rfl), F⟩
  f_is_place_of := by
    obtain ⟨fd, F⟩ := c.def_ 3 rfl
    exact ⟨_, fd, He.glo_ok (cut_in hm) Gm (c.fact 4 rfl), F⟩
  f_is_board := by
    obtain ⟨fd, F⟩ := c.def_ 4 rfl
    exact ⟨_, fd, He.glo_ok (cut_in hm) Gm (c.fact 5 rfl), F⟩
  f_check_board := by
    obtain ⟨fd, F⟩ := c.def_ 5 rfl
    exact ⟨_, fd, He.glo_ok (cut_in hm) Gm (c.fact 6 rfl), F⟩
  f_raw_is_hands := by
    obtain ⟨fd, F⟩ := c.def_ 6 rfl
    exact ⟨_, fd, He.glo_ok (cut_in hm) Gm (c.fact 7 rfl), F⟩
  f_check_hands := by
    obtain ⟨fd, F⟩ := c.def_ 7 rfl
    exact ⟨_, fd, He.glo_ok (cut_in hm) Gm (c.fact 8 rfl), F⟩
  f_is_number := by
    obtain ⟨fd, F⟩ := c.def_ 8 rfl
    exact ⟨_, fd, He.glo_ok (cut_in hm) Gm (c.fact 9 rfl), F⟩
  f_raw_is_heap := by
    obtain ⟨fd, F⟩ := c.def_ 9 rfl
    exact ⟨_, fd, He.glo_ok (cut_in hm) Gm (c.fact 10 rfl), F⟩
  f_is_heap := by
    obtain ⟨fd, F⟩ := c.def_ 10 rfl
    exact ⟨_, fd, He.glo_ok (cut_in hm) Gm (c.fact 11 rfl), F⟩
  f_raw_are_moves := by
    obtain ⟨fd, F⟩ := c.def_ 11 rfl
    exact ⟨_, fd, He.glo_ok (cut_in hm) Gm (c.fact 12 rfl), F⟩
  f_are_moves := by
    obtain ⟨fd, F⟩ := c.def_ 12 rfl
    exact ⟨_, fd, He.glo_ok (cut_in hm) Gm (c.fact 13 rfl), F⟩
  f_check_hand := by
    obtain ⟨fd, F⟩ := c.def_ 13 rfl
    exact ⟨_, fd, He.glo_ok (cut_in hm) Gm (c.fact 14 rfl), F⟩
  f_check_moves := by
    obtain ⟨fd, F⟩ := c.def_ 14 rfl
    exact ⟨_, fd, He.glo_ok (cut_in hm) Gm (c.fact 15 rfl), F⟩
  f_check_heap := by
    obtain ⟨fd, F⟩ := c.def_ 15 rfl
    exact ⟨_, fd, He.glo_ok (cut_in hm) Gm (c.fact 16 rfl), F⟩
  f_along_exits := by
    obtain ⟨fd, F⟩ := c.def_ 16 rfl
    exact ⟨_, fd, He.glo_ok (cut_in hm) Gm (c.fact 17 rfl), F⟩
  f_raw_outflow := by
    obtain ⟨fd, F⟩ := c.def_ 17 rfl
    exact ⟨_, fd, He.glo_ok (cut_in hm) Gm (c.fact 18 rfl), F⟩
  f_outflow := by
    obtain ⟨fd, F⟩ := c.def_ 18 rfl
    exact ⟨_, fd, He.glo_ok (cut_in hm) Gm (c.fact 19 rfl), F⟩
  f_raw_hands_by := by
    obtain ⟨fd, F⟩ := c.def_ 19 rfl
    exact ⟨_, fd, He.glo_ok (cut_in hm) Gm (c.fact 20 rfl), F⟩
  f_hands_behind_moves := by
    obtain ⟨fd, F⟩ := c.def_ 20 rfl
    exact ⟨_, fd, He.glo_ok (cut_in hm) Gm (c.fact 21 rfl), F⟩
  f_raw_inflow := by
    obtain ⟨fd, F⟩ := c.def_ 21 rfl
    exact ⟨_, fd, He.glo_ok (cut_in hm) Gm (c.fact 22 rfl), F⟩
  f_cups_by := by
    obtain ⟨fd, F⟩ := c.def_ 22 rfl
    exact ⟨_, fd, He.glo_ok (cut_in hm) Gm (c.fact 23 rfl), F⟩
  f_raw_waiting := by
    obtain ⟨fd, F⟩ := c.def_ 23 rfl
    exact ⟨_, fd, He.glo_ok (cut_in hm) Gm (c.fact 24 rfl), F⟩
  f_waiting := by
    obtain ⟨fd, F⟩ := c.def_ 24 rfl
    exact ⟨_, fd, He.glo_ok (cut_in hm) Gm (c.fact 25 rfl), F⟩
  f_law_hand := by
    obtain ⟨fd, F⟩ := c.def_ 25 rfl
    exact ⟨_, fd, He.glo_ok (cut_in hm) Gm (c.fact 26 rfl), F⟩
  f_law_draw := by
    obtain ⟨fd, F⟩ := c.def_ 26 rfl
    exact ⟨_, fd, He.glo_ok (cut_in hm) Gm (c.fact 27 rfl), F⟩
  f_law_some := by
    obtain ⟨fd, F⟩ := c.def_ 27 rfl
    exact ⟨_, fd, He.glo_ok (cut_in hm) Gm (c.fact 28 rfl), F⟩
  f_law_is := by
    obtain ⟨fd, F⟩ := c.def_ 28 rfl
    exact ⟨_, fd, He.glo_ok (cut_in hm) Gm (c.fact 29 rfl), F⟩
  f_law_place := by
    obtain ⟨fd, F⟩ := c.def_ 29 rfl
    exact ⟨_, fd, He.glo_ok (cut_in hm) Gm (c.fact 30 rfl), F⟩
  f_law_board := by
    obtain ⟨fd, F⟩ := c.def_ 30 rfl
    exact ⟨_, fd, He.glo_ok (cut_in hm) Gm (c.fact 31 rfl), F⟩
  f_law_hands := by
    obtain ⟨fd, F⟩ := c.def_ 31 rfl
    exact ⟨_, fd, He.glo_ok (cut_in hm) Gm (c.fact 32 rfl), F⟩
  f_law_word := by
    obtain ⟨fd, F⟩ := c.def_ 32 rfl
    exact ⟨_, fd, He.glo_ok (cut_in hm) Gm (c.fact 33 rfl), F⟩
  f_law_no_board := by
    obtain ⟨fd, F⟩ := c.def_ 33 rfl
    exact ⟨_, fd, He.glo_ok (cut_in hm) Gm (c.fact 34 rfl), F⟩
  f_law_number := by
    obtain ⟨fd, F⟩ := c.def_ 34 rfl
    exact ⟨_, fd, He.glo_ok (cut_in hm) Gm (c.fact 35 rfl), F⟩
  f_law_outflow := by
    obtain ⟨fd, F⟩ := c.def_ 35 rfl
    exact ⟨_, fd, He.glo_ok (cut_in hm) Gm (c.fact 36 rfl), F⟩
  f_law_come := by
    obtain ⟨fd, F⟩ := c.def_ 36 rfl
    exact ⟨_, fd, He.glo_ok (cut_in hm) Gm (c.fact 37 rfl), F⟩
  f_law_right := by
    obtain ⟨fd, F⟩ := c.def_ 37 rfl
    exact ⟨_, fd, He.glo_ok (cut_in hm) Gm (c.fact 38 rfl), F, c.lamF hm (p := ("_law_right", none)) (by decide) rfl TB F⟩
  f_law := by
    obtain ⟨fd, F⟩ := c.def_ 38 rfl
    exact ⟨_, fd, He.glo_ok (cut_in hm) Gm (c.fact 39 rfl), F⟩
theorem holds_of (hD : ∀ ns : List Int, ns.length ≤ 63 → (∀ z ∈ ns, Builtin.Int.intBits z ≤ 1048576) → ∃ st, D_law [.slst ns] [] = .ok (.bl true) st) : R.Holds := by
  w_on; o_law
  refine HandSHeadRun.head_any (r := Rw) (q := PySem.W.view R.prog [54]) (H := A.hook 5) (ob := ob) (M := 6000) (loose := names) (d := HandSHeadRun.topDef R.prog 54) (kwd := []) (fun s => Ask.obs_eq (n := 5) (A := A) s)
    (by kernel_rfl) (fun s => by kernel_rfl) run (by kernel_rfl) (by kernel_rfl) (by kernel_rfl) (by rfl) (by first | assumption | decide +kernel) (by decide +kernel) ⟨rfl, rfl, rfl, rfl, rfl, by decide +kernel⟩ ?hw ?hc
  case hw => w_witness2
  case hc =>
    refine walk_G (l := R) (n := 63) (k := 13) (x := "script") rfl (by decide) (by kernel_rfl) ⟨rfl, by decide, by decide⟩ ?F
    intro w mg fa h Y Gm hmg0
    obtain ⟨K, KX, hm, c⟩ := Y
    have hmg : mg ("law" : PySem.Str) = some (.ref fa) := by
      have e : (HandSHeadRun.topDef R.prog 54).name = ("law" : PySem.Str) := by kernel_rfl
      rw [← e]; exact hmg0
    obtain ⟨fd, F⟩ := c.def_ 38 rfl
    have e := hmg.symm.trans (He.glo_ok (cut_in hm) Gm (c.fact 39 rfl))
    cases e
    have b := FunD.bindsA (ps := ["script"]) F fun _ _ _ _ _ _ us hl => match us, hl with | [_], _ => rfl
    refine lawG_of c hm (G := gx K) rfl (g := true) (fd := fd) (fun s v => b s [v] rfl) hD fun base _ _ TB => ?_
    have P := pg (P := R.prog) (w := w) (base := base) c hm Gm TB
    obtain ⟨f, fd2, h1, h2⟩ := P.f_law
    have e2 := hmg.symm.trans h1
    cases e2
    have ed : fd2 = fd := fund_eq h2 F
    subst ed
    exact fn_ok P.tk (v := ⟨12, true, false, true, none, none⟩) (ps := ["script"]) (N := N_law) b_law h2 sc_law m_law (ok_law P) rfl ⟨rfl, rfl⟩ (fun z => by cases z)
end MP.Pk31
set_option maxHeartbeats 1000000
/-! law k31: the law tells True of every script -/
namespace MP.Pk31
open PySem L2 MP
theorem law_rights {hc : Cell} (h : IsH 0 hc) (o2 : Option Val) (v : Val) : ∃ hc', evalN c_law_0 [some v, some (.ref 0), o2] [hc] = .ok (.lst [.bl true, .bl true, .bl true]) [hc'] ∧ IsH 360 hc' := by
  obtain ⟨ys, st', e1, ⟨c, rfl, ih⟩, l4, q⟩ := comp_st (e := .call "_law_right" D_law_right (.cons (.var 1) .nil)) (t := .name 2) (it := .range1 (.lit (.int 3))) (own := [("turn", 2)]) (env := [some v, some (.ref 0), o2]) (st := [hc]) (st1 := [hc]) (items := rangeVs 0 3) (I := fun j s => ∃ c, s = [c] ∧ IsH (120 * j) c) (Q := fun v => v = .bl true) (n := 0) (by simp [evalIt, runFn, execs, exec, evalEs, evalEo, evalN_lst, evalN_dct, evalIt, popTo_self, e_var, e_lit, e_gcon, e_gfn, e_bin, e_neg, e_cmp, e_isn, e_isb, e_and, e_or, e_not, e_ite, e_tup, e_val, e_cell, e_idx, e_slc, e_blt, e_isi, e_call, e_word, e_mth, e_rev, e_lenset, e_callv, smallI]) (fun x hx k st hk ⟨c, ec, hck⟩ => by
    subst ec
    have hk4 : k < 3 := by simpa [rangeVs] using hk
    obtain ⟨c2, a1, a2⟩ := law_right_s hck (by omega) []
    exact ⟨_, .bl true, [c2], rfl, by simp [runFn, execs, exec, evalEs, evalEo, evalN_lst, evalN_dct, evalIt, popTo_self, e_var, e_lit, e_gcon, e_gfn, e_bin, e_neg, e_cmp, e_isn, e_isb, e_and, e_or, e_not, e_ite, e_tup, e_val, e_cell, e_idx, e_slc, e_blt, e_isi, e_call, e_word, e_mth, e_rev, e_lenset, e_callv, wipeE, a1], ⟨c2, rfl, by rw [Nat.mul_add]; exact a2⟩, rfl⟩) (by simp [rangeVs]; unfold sizeLine; omega) ⟨hc, rfl, h⟩
  have ey : ys = [.bl true, .bl true, .bl true] := by
    have l : ys.length = 3 := by rw [l4]; rfl
    match ys, l with
    | [a, b, d], _ =>
      have q1 := q a (by simp); have q2 := q b (by simp); have q3 := q d (by simp)
      rw [q1, q2, q3]
  refine ⟨c, ?_, ih⟩
  have e2 : evalN c_law_0 [some v, some (.ref 0), o2] [hc] = .ok (.lst ys) [c] := e1
  rw [e2, ey]
theorem law_true (ns : List Int) (h : ns.length ≤ 63) : ∃ st, D_law [.slst ns] [] = .ok (.bl true) st := by
  obtain ⟨hc0, e0, ih0⟩ := law_hand_s ns h
  obtain ⟨hc1, e1, ih1⟩ := law_rights ih0 none (.slst ns)
  have hx : execs b_law [some (.slst ns), none, none] [] = .rt (.bl true) [hc1] := by
    unfold b_law
    refine execs_nx (env' := [some (.slst ns), some (.ref 0), none]) (asg_ok (call1 (v_ rfl) e0)) (ret_ ?_)
    simp [e_blt, evalEs, e_val, e1, blt, boolsOf]
  have pp : popTo [] [hc1] (some (.bl true)) = [] := by
    rw [popTo_pre (fun x hx => by cases hx; rfl) (fun k c hk _ => by simp at hk)]; rfl
  refine ⟨[], ?_⟩
  simp only [D_law, runFn, List.length_cons, List.length_nil, if_true, List.map_cons, List.map_nil, List.replicate, Nat.reduceSub, Nat.reduceAdd, List.cons_append, List.nil_append, hx, pp]
end MP.Pk31
theorem PySem.Challenge.cw_arrivalboards_k31_whole_moves_of_heaps_c_holds : PySem.Challenge.rw_arrivalboards_k31_whole_moves_of_heaps_c.Holds :=
  MP.Pk31.holds_of fun ns h _ => MP.Pk31.law_true ns h
