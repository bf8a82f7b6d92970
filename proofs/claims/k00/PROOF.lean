import PyProof.Rows.All
import Wide.All
import OpenK.AllK
import Wide.FinOn
import HandS.Defaults
import HandS.List
import PyProof.ReprRoads
import HandS.ForMost
import KE.KeyNested
import KE.KDictKeyed
import HandS.Exc
import HandS.TryMany
import HandS.Lambda
import HandS.WordsExc
import HandS.TupAny
import HandS.TupMul
import HandS.TupLe
import HandS.Style
import HandS.Conv
import HandS.IsInst
import HandS.Flow
import HandS.Dict
import HandS.Call
import PyProof.CallStr
import HandS.RaiseMore
import HandS.SortKw
import KE.SortKeyHeap
import KE.KSortKey
import PyProof.Rows.ConstEval
import HandS.CallLocal
import HandS.Iter
import KE.GoesEnum
import HandS.Walk
import KE.KExcSuper
import HandS.ExcSuper
import HandS.Head0
import HandS.Head1
import HandS.Head2
import HandS.HeadEnd
import HandS.HeadHook1
import HandS.HeadHook2
import HandS.HeadHook3
import HandS.HeadHook4
import HandS.HeadWalk
import KE.KStateDown
import PySem.Challenge.RW_squaresneeded_k00_commons_squares_and_wh
set_option Elab.async false
set_option linter.all false
set_option maxRecDepth 100000
set_option maxHeartbeats 1000000
/-! Fv, 1: binding of a def's arguments, no defaults, by place and by name. -/
namespace Fv
open PySem PySem.Spec PyProof.Rows L2
theorem lookup_none {α : Type} {x : Str} : ∀ {l : List (Str × α)}, x ∉ l.map (·.1) → l.lookup x = none
  | [], _ => rfl
  | (y, v) :: l, h => by
    simp only [List.map_cons, List.mem_cons, not_or] at h
    rw [List.lookup_cons, beq_eq_false_iff_ne.mpr h.1]
    exact lookup_none h.2
theorem kw_loop {f : Str × Value → List (Str × Value) × List (Str × Value) → Sem (ForInStep (List (Str × Value) × List (Str × Value)))} {ps : List Str}
    (hf : ∀ (x : Str × Value) (sl : List (Str × Value)), x.1 ∈ ps → sl.lookup x.1 = none → f x (sl, []) = pure (.yield (sl ++ [x], []))) :
    ∀ (kw sl : List (Str × Value)), ((sl ++ kw).map (·.1)).Nodup → (∀ x ∈ kw, x.1 ∈ ps) → forIn kw (sl, []) f = (pure (sl ++ kw, []) : Sem (List (Str × Value) × List (Str × Value)))
  | [], sl, _, _ => by rw [List.forIn_nil, List.append_nil]
  | x :: kw, sl, nd, h => by
    rw [List.forIn_cons, hf x sl (h x (List.mem_cons_self ..)) ?_, pure_bind]
    · show forIn kw (sl ++ [x], []) f = _
      rw [kw_loop hf kw (sl ++ [x]) (by simpa using nd) fun y hy => h y (List.mem_cons_of_mem _ hy)]
      simp
    · refine lookup_none fun z => ?_
      rw [List.map_append, List.nodup_append] at nd
      exact nd.2.2 _ z _ (by simp) rfl
theorem fm_zip {α : Type} {l : List (Str × α)} : ∀ {ps : List Str} {as : List α}, as.length = ps.length → (∀ (i : Nat) (p : Str) (a : α), ps[i]? = some p → as[i]? = some a → l.lookup p = some a) →
    ps.filterMap (fun n => (l.lookup n).map fun x => (n, x)) = ps.zip as
  | [], _, _, _ => by simp
  | _ :: _, [], h, _ => by simp at h
  | p :: ps, a :: as, h, k => by
    have e := k 0 p a rfl rfl
    rw [List.filterMap_cons, e]
    show (p, a) :: _ = _
    rw [fm_zip (by simpa using h) fun i p' a' h1 h2 => k (i + 1) p' a' (by simpa using h1) (by simpa using h2)]
    rfl
theorem binds_gen (fd : FuncData) (ar : List Arg) (hp : fd.params = ⟨[], ar, none, [], [], none, []⟩) (hd : fd.defaults = .none) {ps : List Str} (hps : ar.map (·.arg) = ps) (us : List Value) (kw : List (Str × Value)) (as : List Value)
    (h1 : us.length ≤ ps.length) (h2 : ((ps.zip us ++ kw).map (·.1)).Nodup) (h3 : ∀ x ∈ kw, x.1 ∈ ps) (h4 : as.length = ps.length) (h5 : ∀ (i : Nat) (p : Str) (a : Value), ps[i]? = some p → as[i]? = some a → (ps.zip us ++ kw).lookup p = some a) :
    bindArgs fd ⟨us, kw⟩ = pure (ps.zip as) := by
  unfold bindArgs
  rw [hp, hd]
  simp only [List.map_nil, List.nil_append, Option.isSome_none, Option.isNone_none, List.append_nil, List.contains_nil, Bool.or_false, hps]
  rw [kw_loop (ps := ps) (fun x sl hx hl => ?_) kw (ps.zip us) h2 h3]
  · rw [pure_bind, show seqItems? Value.none = pure none from rfl, pure_bind]
    have e1 : (decide (us.length > ps.length) && true) = false := by
      rw [Bool.and_true]
      exact decide_eq_false (by omega)
    rw [e1, if_neg Bool.false_ne_true]
    have e2 : (List.filter (fun n => (List.lookup n (ps.zip us ++ kw)).isNone) (List.take (ps.length - ((none : Option (Array Value)).getD #[]).toList.length) ps)) = [] := by
      rw [List.filter_eq_nil_iff]
      intro p hp2
      obtain ⟨i, hi, e⟩ := List.mem_iff_getElem.mp (List.mem_of_mem_take hp2)
      have := h5 i p (as[i]'(by omega)) (by rw [List.getElem?_eq_getElem hi, e]) (List.getElem?_eq_getElem (by omega))
      rw [this]
      simp
    simp only [Option.getD_none, List.length_nil, List.drop_nil, Nat.sub_zero, List.take_length, List.drop_length, List.zip_nil_left] at e2 ⊢
    simp only [e2]
    simp [fm_zip h4 h5]
  · have hx' : ps.contains x.1 = true := by simpa using hx
    simp only [hx', if_true, hl, Option.isSome_none]
    rfl
end Fv
set_option Elab.async false
set_option linter.all false
set_option maxRecDepth 100000
/-! Fv: a small language of plain data (no heap addresses), its run. -/
namespace Fv
open PySem
abbrev so (x : String) : Str := Str.ofString x

/-- plain data: ref n is the n-th list or dict that was made; fn x a def or class of the module; frl a list that nobody changes (the script) -/
inductive D where
  | non | bl (b : Bool) | int (i : Int) | str (x : Str) | tup (ds : List D) | ref (n : Nat) | fn (x : String) | frl (ds : List D)
  deriving Inhabited
/-- what a ref stands for -/
inductive FO where
  | lst (ds : List D)
  /-- ep: how often keys were put in -/
  | dic (ep : Nat) (kvs : List (D × D))
abbrev FH := List FO

inductive BO where
  | add | sub | mul | fdiv | mod | pow
  deriving DecidableEq
inductive CO where
  | eq | ne | lt | le | gt | ge | is | isn | mem | nmem
  deriving DecidableEq
/-- what is walked -/
inductive IK where
  | plain | range | enum | zip
  deriving DecidableEq
/-- built-in functions, methods -/
inductive Bi where
  | len | tuple | list | int | max | min | str | sorted | sortedK (f : String) | dict0
  deriving DecidableEq
inductive Mt where
  | append | extend | get | pop | index
  deriving DecidableEq
inductive Tg where
  | nm (i : Nat) | tup (is : List Nat)
  deriving DecidableEq

inductive FE where
  | var (i : Nat) | non | bl (b : Bool) | int (i : Int) | str (x : String) | glob (x : String) | fn (x : String)
  | tup (es : List FE) | lst (es : List FE)
  | bin (o : BO) (a b : FE) | neg (a : FE) | not (a : FE) | cmp (o : CO) (a b : FE) | chain (o o' : CO) (a b c : FE)
  | and (a b : FE) | or (a b : FE) | ite (c a b : FE)
  | call (f : String) (es : List FE) | callK (f : String) (es : List FE) (pm : List Nat) (ws : List FE) | callV (i : Nat) (es : List FE) | callL (f : String) (b : FE) (cs : List Nat) (es : List FE)
  | bi (b : Bi) (es : List FE) | isi (a : FE) (t : String) | meth (m : Mt) (o : FE) (es : List FE)
  | idx (a i : FE) | slc (a : FE) (lo hi : FE)
  | comp (vs : List Nat) (elt : FE) (tg : Tg) (k : IK) (its : List FE) (ifs : List FE)
  | comp2 (vs : List Nat) (elt : FE) (tg : Tg) (k : IK) (its : List FE) (ifs : List FE) (tg2 : Tg) (k2 : IK) (its2 : List FE) (ifs2 : List FE)
  | what (i : Nat)
  deriving Inhabited

inductive FS where
  | ex (e : FE) | ret (e : FE) | asg (t : Tg) (e : FE) | par (i j : Nat) (a b : FE) | setI (o i v : FE)
  | ite (c : FE) (a b : List FS) | whl (n : Nat) (c : FE) (b : List FS) | for_ (t : Tg) (k : IK) (its : List FE) (b : List FS)
  | brk | cnt | pass | raise (c : String) (e : FE)
  | try_ (b : List FS) (hs : List FS) | hnd (c : String) (i : Nat) (b : List FS)
  deriving Inhabited
structure FD where
  ps : List String
  nl : Nat
  body : List FS

/-- what a slot holds: data, a function without parameters made in place, a caught exception -/
inductive SV where
  | d (x : D)
  | clo (b : FE) (cap : List (Option D))
  | exc (c : String) (w : D)
abbrev Ls := List (Option SV)

inductive R (α : Type) where
  | ok (a : α) (F : FH)
  | exc (c : String) (w : D) (F : FH)
  | bad
def R.bind {α β : Type} (r : R α) (f : α → FH → R β) : R β := match r with
  | .ok a F => f a F
  | .exc c w F => .exc c w F
  | .bad => .bad
def lift {α : Type} (o : Option α) (F : FH) : R α := match o with
  | some a => .ok a F
  | none => .bad

/-! ### data -/
mutual
def D.beq : D → D → Bool
  | .non, .non => true
  | .bl a, .bl b => a == b
  | .int a, .int b => a == b
  | .str a, .str b => a == b
  | .tup a, .tup b => D.beqs a b
  | .ref a, .ref b => a == b
  | .fn a, .fn b => a == b
  | .frl a, .frl b => D.beqs a b
  | _, _ => false
def D.beqs : List D → List D → Bool
  | [], [] => true
  | a :: r, b :: t => D.beq a b && D.beqs r t
  | _, _ => false
end
/-! data without refs and defs -/
mutual
def D.pl : D → Bool
  | .tup ds => D.pls ds
  | .ref _ => false
  | .fn _ => false
  | .frl _ => false
  | _ => true
def D.pls : List D → Bool
  | [] => true
  | d :: r => D.pl d && D.pls r
end
/-! as the library's data -/
mutual
def toP : D → PyData
  | .non => .none
  | .bl b => .bool b
  | .int i => .int i
  | .str x => .str x
  | .tup ds => .tuple (toPs ds)
  | _ => .none
def toPs : List D → List PyData
  | [] => []
  | d :: r => toP d :: toPs r
end
def sok (x : Str) : Bool := x.cps.all (· < 0x110000)
/-! nested at most k deep -/
mutual
def D.le : D → Nat → Bool
  | .tup ds, k => (match k with
    | 0 => false
    | k + 1 => D.les ds k)
  | _, _ => true
def D.les : List D → Nat → Bool
  | [], _ => true
  | d :: r, k => D.le d k && D.les r k
end
/-! == of plain data -/
mutual
def D.eq : D → D → Bool
  | .non, .non => true
  | .bl a, .bl b => a == b
  | .bl a, .int j => (if a then 1 else 0) == j
  | .int i, .bl b => i == (if b then 1 else 0)
  | .int i, .int j => i == j
  | .str x, .str y => x == y
  | .tup a, .tup b => D.eqs a b
  | _, _ => false
def D.eqs : List D → List D → Bool
  | [], [] => true
  | a :: r, b :: t => D.eq a b && D.eqs r t
  | _, _ => false
end
/-- the items of a list; of a list or a tuple -/
def lis (F : FH) : D → Option (List D)
  | .ref n => (match F[n]? with
    | some (.lst ds) => some ds
    | _ => none)
  | .frl ds => some ds
  | _ => none
def items (F : FH) : D → Option (List D)
  | .tup ds => some ds
  | d => lis F d
/-- a list of plain data against such a list; plain data against plain data; the lesser depth at most 50 -/
def eqd (F : FH) (a b : D) : Option Bool := match lis F a, lis F b with
  | some x, some y => if D.pls x && D.pls y && (D.les x 50 || D.les y 50) then some (D.eqs x y) else none
  | some x, none => if D.pls x && D.pl b && (D.les x 50 || D.le b 50) then some false else none
  | none, some y => if D.pl a && D.pls y && (D.le a 50 || D.les y 50) then some false else none
  | none, none => if D.pl a && D.pl b && (D.le a 50 || D.le b 50) then some (D.eq a b) else none
/-- is: with None, True, False alone -/
def isd : D → D → Option Bool
  | .non, b => (match b with
    | .non => some true
    | .bl _ => some false
    | _ => none)
  | .bl a, b => (match b with
    | .non => some false
    | .bl c => some (a == c)
    | _ => none)
  | _, b => (match b with
    | .non => some false
    | .bl _ => some false
    | _ => none)
def truth (F : FH) : D → Option Bool
  | .non => some false
  | .bl b => some b
  | .int i => some (i != 0)
  | .str x => if x.length ≤ 16777216 then some ((x.length : Int) != 0) else none
  | .tup ds => some (!ds.isEmpty)
  | .fn _ => none
  | d => (lis F d).map fun ds => !ds.isEmpty
def big (n : Nat) : Bool := decide (n ≤ 16777216)
/-- a new list, a new dict -/
def new (o : FO) (F : FH) : R D := .ok (.ref F.length) (F ++ [o])
def newL (ds : List D) (F : FH) : R D := if big ds.length then new (.lst ds) F else .bad
def newT (ds : List D) (F : FH) : R D := if big ds.length then .ok (.tup ds) F else .bad
def reps {α : Type} (ds : List α) (n : Nat) : List α := (List.replicate n ds).flatten
def small (i : Int) : Bool := decide (-(2 ^ 64) < i) && decide (i < 2 ^ 64)
def binop (o : BO) (a b : D) (F : FH) : R D := match o, a, b with
  | .add, .int i, .int j => .ok (.int (i + j)) F
  | .sub, .int i, .int j => .ok (.int (i - j)) F
  | .mul, .int i, .int j => if small i || small j then .ok (.int (i * j)) F else .bad
  | .fdiv, .int i, .int j => if decide (0 < j) && decide (j < 1073741824) then .ok (.int (i / j)) F else .bad
  | .mod, .int i, .int j => if decide (0 < j) then .ok (.int (i % j)) F else .bad
  | .pow, .int i, .int j => if decide (0 ≤ j) && decide (j ≤ 1000000) && small i then .ok (.int (i ^ j.toNat)) F else .bad
  | .add, .str x, .str y => if big (x.length + y.length) then .ok (.str (x ++ y)) F else .bad
  | .add, .tup x, .tup y => newT (x ++ y) F
  | .mul, .tup x, .int j => if !x.isEmpty && decide (x.length ≤ 1000) && decide (2 ≤ j) && decide (j ≤ 1000) then .ok (.tup (reps x j.toNat)) F else .bad
  | .add, .ref m, .ref n => (match F[m]?, F[n]? with
    | some (.lst x), some (.lst y) => newL (x ++ y) F
    | _, _ => .bad)
  | .mul, .ref m, .int j => (match F[m]? with
    | some (.lst x) => if decide (x.length ≤ 1000) && decide (0 ≤ j) && decide (j ≤ 1000) then newL (reps x j.toNat) F else .bad
    | _ => .bad)
  | _, _, _ => .bad
def memD (F : FH) (a b : D) : Option Bool := match items F b with
  | some ds => if D.pl a && D.pls ds && (D.le a 50 || D.les ds 50) then some (ds.any fun x => D.eq x a) else none
  | none => none
def cmpop (o : CO) (a b : D) (F : FH) : Option Bool := match o with
  | .eq => eqd F a b
  | .ne => (eqd F a b).map (!·)
  | .is => isd a b
  | .isn => (isd a b).map (!·)
  | .mem => memD F a b
  | .nmem => (memD F a b).map (!·)
  | .lt => (match a, b with | .int i, .int j => some (decide (i < j)) | _, _ => none)
  | .le => (match a, b with | .int i, .int j => some (decide (i ≤ j)) | _, _ => none)
  | .gt => (match a, b with | .int i, .int j => some (decide (j < i)) | _, _ => none)
  | .ge => (match a, b with | .int i, .int j => some (decide (j ≤ i)) | _, _ => none)
/-- the place of index i in n items -/
abbrev at_ (n : Nat) (i : Int) : Option Nat := L2.ixN n i
def cut {α : Type} (xs : List α) (lo hi : Option Int) : List α := (xs.drop (HT.sIx xs.length 0 lo)).take (HT.sIx xs.length xs.length hi - HT.sIx xs.length 0 lo)
def oint : D → Option (Option Int)
  | .non => some none
  | .int i => some (some i)
  | _ => none
def typOk (t : String) : D → FH → Option Bool
  | .non, _ => some false
  | .bl _, _ => some (t == "bool" || t == "int")
  | .int _, _ => some (t == "int")
  | .str _, _ => some (t == "str")
  | .tup _, _ => some (t == "tuple")
  | .fn _, _ => none
  | d, F => (lis F d).map fun _ => t == "list"

/-! ### the run -/
structure Pg where
  fn : String → Option FD
  con : String → Option D
  exc : List String
/-- what is called: a def of the module, a function made in place -/
inductive Ce where
  | fn (x : String)
  | clo (b : FE) (cap : List (Option D))
abbrev CT := Ce → List SV → FH → R D
def setAll : List Nat → List D → Ls → Ls
  | i :: is, x :: xs, ls => setAll is xs (ls.set i (some (.d x)))
  | _, _, ls => ls
def bindT : Tg → D → Ls → Option Ls
  | .nm i, x, ls => some (ls.set i (some (.d x)))
  | .tup is, .tup xs, ls => if xs.length = is.length then some (setAll is xs ls) else none
  | _, _, _ => none
def wipeL (ls : Ls) : List Nat → Ls
  | [] => ls
  | v :: vs => (wipeL ls vs).set v none
def capL (cs : List Nat) (ls : Ls) : List (Option D) := (List.range ls.length).map fun i => if cs.contains i then (match ls[i]? with
  | some (some (.d x)) => some x
  | _ => none) else none
def tgS : Tg → List Nat
  | .nm i => [i]
  | .tup is => is
/-- what stays while it is walked -/
inductive GE where
  | lst (ds : List D) | dic (ep : Nat) (ks : List D)
abbrev Gd := List (Nat × GE)
def lstIs (F : FH) (n : Nat) (ds : List D) : Bool := match F[n]? with
  | some (.lst es) => D.beqs es ds
  | _ => false
def dicIs (F : FH) (n : Nat) (ep : Nat) (ks : List D) : Bool := match F[n]? with
  | some (.dic e kvs) => e == ep && D.beqs (kvs.map (·.1)) ks
  | _ => false
def gok1 (F : FH) (n : Nat) : GE → Bool
  | .lst ds => lstIs F n ds
  | .dic ep ks => dicIs F n ep ks
def gok (g : Gd) (F : FH) : Bool := g.all fun p => gok1 F p.1 p.2
def rng (i j : Int) : List D := (List.range (j - i).toNat).map fun (k : Nat) => .int (i + k)
def bnd (i : Int) : Bool := decide (-(2 ^ 62) ≤ i) && decide (i < 2 ^ 62)
def seqG : D → FH → Option (List D × Gd)
  | .tup ds, _ => some (ds, [])
  | .frl ds, _ => some (ds, [])
  | .ref n, F => (match F[n]? with
    | some (.lst ds) => some (ds, [(n, .lst ds)])
    | _ => none)
  | _, _ => none
/-- a dict's keys -/
def dicG : D → FH → Option (List D × Gd)
  | .ref n, F => (match F[n]? with
    | some (.dic ep kvs) => some (kvs.map (·.1), [(n, .dic ep (kvs.map (·.1)))])
    | _ => none)
  | _, _ => none
def enumL (ds : List D) : List D := (List.range ds.length).zipWith (fun (k : Nat) d => .tup [.int k, d]) ds
def zipL (xs ys : List D) : List D := xs.zipWith (fun x y => .tup [x, y]) ys
def walk (k : IK) (ds : List D) (F : FH) : Option (List D × Gd) := match k, ds with
  | .plain, [d] => (match seqG d F with
    | some p => some p
    | none => dicG d F)
  | .range, [.int j] => if bnd j then some (rng 0 j, []) else none
  | .range, [.int i, .int j] => if bnd i && bnd j then some (rng i j, []) else none
  | .enum, [d] => (seqG d F).map fun p => (enumL p.1, p.2)
  | .zip, [a, b] => (match seqG a F, seqG b F with
    | some p, some q => some (zipL p.1 q.1, p.2 ++ q.2)
    | _, _ => none)
  | _, _ => none
inductive O where
  | nx (ls : Ls) | rt (d : D) | bk (ls : Ls) | ct (ls : Ls)
def forL (g : Gd) (body : D → Ls → FH → R O) : List D → Ls → FH → R O
  | [], ls, F => if gok g F then .ok (.nx ls) F else .bad
  | x :: xs, ls, F => if gok g F then (match body x ls F with
    | .ok (.nx ls') F' => forL g body xs ls' F'
    | .ok (.ct ls') F' => forL g body xs ls' F'
    | .ok (.bk ls') F' => .ok (.nx ls') F'
    | .ok (.rt d) F' => .ok (.rt d) F'
    | .exc c w F' => .exc c w F'
    | .bad => .bad) else .bad
def whlL (test : Ls → FH → R Bool) (body : Ls → FH → R O) : Nat → Ls → FH → R O
  | 0, _, _ => .bad
  | n + 1, ls, F => (test ls F).bind fun b F => if b then (match body ls F with
    | .ok (.nx ls') F' => whlL test body n ls' F'
    | .ok (.ct ls') F' => whlL test body n ls' F'
    | .ok (.bk ls') F' => .ok (.nx ls') F'
    | .ok (.rt d) F' => .ok (.rt d) F'
    | .exc c w F' => .exc c w F'
    | .bad => .bad) else .ok (.nx ls) F
/-- the turns of a comprehension: what it makes behind acc -/
def compL (g : Gd) (body : D → FH → R (List D)) : List D → List D → FH → R (List D)
  | [], acc, F => if gok g F then .ok acc F else .bad
  | x :: xs, acc, F => if gok g F then (match body x F with
    | .ok ys F' => compL g body xs (acc ++ ys) F'
    | _ => .bad) else .bad
/-- the arguments in the parameters' order -/
def permA (pm : List Nat) (vs : List SV) : List SV := pm.filterMap fun i => vs[i]?
def svD : SV → Option D
  | .d x => some x
  | _ => none
/-! dicts: keys are plain data but texts -/
def kOk (k : D) : Bool := D.pl k && (D.le k 8 && (match k with
  | .str _ => false
  | _ => true))
def dget (kvs : List (D × D)) (k : D) : Option D := (kvs.find? fun p => D.eq p.1 k).map (·.2)
def dput (kvs : List (D × D)) (k v : D) : List (D × D) := if (dget kvs k).isSome then kvs.map fun p => if D.eq p.1 k then (p.1, v) else p else kvs ++ [(k, v)]
def dicOf (F : FH) : D → Option (Nat × List (D × D))
  | .ref n => (match F[n]? with
    | some (.dic ep kvs) => some (ep, kvs)
    | _ => none)
  | _ => none
def setF (F : FH) (n : Nat) (o : FO) : FH := F.set n o
def methop (m : Mt) (o : D) (es : List D) (F : FH) : R D := match m, o, es with
  | .append, .ref n, [x] => (match F[n]? with
    | some (.lst ds) => if big (ds.length + 1) then .ok .non (F.set n (.lst (ds ++ [x]))) else .bad
    | _ => .bad)
  | .extend, .ref n, [.ref m] => (match F[n]?, F[m]? with
    | some (.lst ds), some (.lst xs) => if big (ds.length + xs.length) then .ok .non (F.set n (.lst (ds ++ xs))) else .bad
    | _, _ => .bad)
  | .pop, .ref n, [.int i] => (match F[n]? with
    | some (.lst ds) => (match at_ ds.length i with
      | some j => (match ds[j]? with
        | some x => .ok x (F.set n (.lst (ds.eraseIdx j)))
        | none => .bad)
      | none => .bad)
    | _ => .bad)
  | .get, d, [k, v] => (match dicOf F d with
    | some p => if kOk k then .ok ((dget p.2 k).getD v) F else .bad
    | none => .bad)
  | _, _, _ => .bad
/-- what a method is looked up in -/
def rcv (m : Mt) (F : FH) (x : D) : Bool := match m with
  | .get => (dicOf F x).isSome
  | _ => (lis F x).isSome
/-- what str(d) can tell here -/
def strOk (d : D) : Bool := D.pl d && (D.le d 40 && ((toP d).showable && (decide ((toP d).shown.length ≤ 16777216) && sok (toP d).shown)))
/-! the order of places: the floor first -/
def keyOf : D → Int × Int
  | .tup [.int a, .int b] => (a, b)
  | _ => (-1, -1)
def keyOkD : D → Bool
  | .non => true
  | .tup [.int _, .int _] => true
  | _ => false
def leKey (x y : D) : Bool := !(decide ((keyOf y).1 < (keyOf x).1) || (decide ((keyOf y).1 = (keyOf x).1) && decide ((keyOf y).2 < (keyOf x).2)))
/-- the def by which places are sorted -/
def isKey : FD → Bool
  | ⟨[p], _, [.ret (.ite (.cmp .is (.var 0) .non) (.tup [.neg (.int i), .neg (.int j)]) (.var 0))]⟩ => p == "place" && (i == 1 && j == 1)
  | _ => false
def biop (b : Bi) (es : List D) (F : FH) : R D := match b, es with
  | .len, [.str x] => if big x.length then .ok (.int x.length) F else .bad
  | .len, [d] => (match items F d with
    | some ds => .ok (.int ds.length) F
    | none => .bad)
  | .tuple, [d] => (match items F d with
    | some ds => .ok (.tup ds) F
    | none => .bad)
  | .list, [d] => (match items F d with
    | some ds => newL ds F
    | none => .bad)
  | .int, [.int i] => .ok (.int i) F
  | .int, [.bl k] => .ok (.int (if k then 1 else 0)) F
  | .max, [.int i, .int j] => .ok (.int (if j > i then j else i)) F
  | .min, [.int i, .int j] => .ok (.int (if j < i then j else i)) F
  | .dict0, [] => new (.dic 0 []) F
  | .sortedK _, [d] => (match lis F d with
    | some ds => if ds.all keyOkD then newL (ds.mergeSort leKey) F else .bad
    | none => .bad)
  | .str, [.str x] => .ok (.str x) F
  | .str, [d] => if strOk d then .ok (.str (toP d).shown) F else .bad
  | _, _ => .bad
def idxL (a i : D) (F : FH) : R D := match i with
  | .int j => (match items F a with
    | some ds => (match at_ ds.length j with
      | some k => lift ds[k]? F
      | none => .bad)
    | none => .bad)
  | _ => .bad
def idxop (a i : D) (F : FH) : R D := match dicOf F a with
  | some p => if kOk i then lift (dget p.2 i) F else .bad
  | none => idxL a i F
/-- a[lo:hi], the bounds told -/
def slc1 (a : D) (l h : Option Int) (F : FH) : R D := match a with
    | .tup ds => .ok (.tup (cut ds l h)) F
    | .str x => if big x.length then .ok (.str ⟨(cut x.cps.toList l h).toArray⟩) F else .bad
    | a => (match lis F a with
      | some ds => newL (cut ds l h) F
      | none => .bad)
section
variable (C : CT) (P : Pg)
/-- what may be called -/
def calb (v : SV) (n : Nat) : Bool := match v with
  | .d (.fn f) => (P.fn f).isSome
  | .clo _ _ => n == 0
  | _ => false
def callVal (v : SV) (us : List SV) (F : FH) : R D := match v with
  | .d (.fn f) => C (.fn f) us F
  | .clo b cap => (match us with
    | [] => C (.clo b cap) [] F
    | _ => .bad)
  | _ => .bad
mutual
def ev : FE → Ls → FH → R D
  | .var i, ls, F => (match ls[i]? with
    | some (some (.d x)) => .ok x F
    | _ => .bad)
  | .what i, ls, F => (match ls[i]? with
    | some (some (.exc _ w)) => .ok w F
    | _ => .bad)
  | .non, _, F => .ok .non F
  | .bl b, _, F => .ok (.bl b) F
  | .int i, _, F => .ok (.int i) F
  | .str x, _, F => .ok (.str (Str.ofString x)) F
  | .glob x, _, F => lift (P.con x) F
  | .fn x, _, F => .ok (.fn x) F
  | .tup es, ls, F => (evs es ls F).bind newT
  | .lst es, ls, F => (evs es ls F).bind newL
  | .bin o a b, ls, F => (ev a ls F).bind fun x F => (ev b ls F).bind fun y F => binop o x y F
  | .neg a, ls, F => (ev a ls F).bind fun x F => (match x with
    | .int i => .ok (.int (-i)) F
    | _ => .bad)
  | .not a, ls, F => (ev a ls F).bind fun x F => (lift (truth F x) F).bind fun b F => .ok (.bl (!b)) F
  | .cmp o a b, ls, F => (ev a ls F).bind fun x F => (ev b ls F).bind fun y F => (lift (cmpop o x y F) F).bind fun b F => .ok (.bl b) F
  | .chain o o' a b c, ls, F => (ev a ls F).bind fun x F => (ev b ls F).bind fun y F => (lift (cmpop o x y F) F).bind fun k F =>
      if k then (ev c ls F).bind fun z F => (lift (cmpop o' y z F) F).bind fun b F => .ok (.bl b) F else .ok (.bl false) F
  | .and a b, ls, F => (ev a ls F).bind fun x F => (lift (truth F x) F).bind fun k F => if k then ev b ls F else .ok x F
  | .or a b, ls, F => (ev a ls F).bind fun x F => (lift (truth F x) F).bind fun k F => if k then .ok x F else ev b ls F
  | .ite c a b, ls, F => (ev c ls F).bind fun x F => (lift (truth F x) F).bind fun k F => if k then ev a ls F else ev b ls F
  | .call f es, ls, F => (eva es ls F).bind fun us F => C (.fn f) us F
  | .callK f es pm ws, ls, F => (eva es ls F).bind fun us F => (eva ws ls F).bind fun vs F => C (.fn f) (permA pm (us ++ vs)) F
  | .callL f b cs es, ls, F => (eva es ls F).bind fun us F => C (.fn f) (.clo b (capL cs ls) :: us) F
  | .callV i es, ls, F => (match ls[i]? with
    | some (some v) => if calb P v es.length then (eva es ls F).bind fun us F => callVal C v us F else .bad
    | _ => .bad)
  | .bi b es, ls, F => (evs es ls F).bind fun ds F => biop b ds F
  | .isi a t, ls, F => (ev a ls F).bind fun x F => (lift (typOk t x F) F).bind fun b F => .ok (.bl b) F
  | .meth m o es, ls, F => (ev o ls F).bind fun x F => if rcv m F x then (evs es ls F).bind fun ds F => methop m x ds F else .bad
  | .idx a i, ls, F => (ev a ls F).bind fun x F => (ev i ls F).bind fun y F => idxop x y F
  | .slc a lo hi, ls, F => (ev a ls F).bind fun x F => (ev lo ls F).bind fun l F => (lift (oint l) F).bind fun l F => (ev hi ls F).bind fun h F => (lift (oint h) F).bind fun h F => slc1 x l h F
  | .comp vs elt tg k its ifs, ls, F => (evs its ls F).bind fun ds F => (match walk k ds F with
    | some (xs, g) => (compL g (fun x F => (match bindT tg x (wipeL ls vs) with
      | some ls' => (evt ifs ls' F).bind fun b F => if b then (ev elt ls' F).bind fun y F => .ok [y] F else .ok [] F
      | none => .bad)) xs [] F).bind newL
    | none => .bad)
  | .comp2 vs elt tg k its ifs tg2 k2 its2 ifs2, ls, F => (evs its ls F).bind fun ds F => (match walk k ds F with
    | some (xs, g) => (compL g (fun x F => (match bindT tg x (wipeL ls vs) with
      | some ls' => (evt ifs ls' F).bind fun b F => if b then (evs its2 ls' F).bind fun ds2 F => (match walk k2 ds2 F with
          | some (xs2, g2) => compL g2 (fun x2 F => (match bindT tg2 x2 (wipeL ls' (tgS tg2)) with
            | some ls2 => (evt ifs2 ls2 F).bind fun b F => if b then (ev elt ls2 F).bind fun y F => .ok [y] F else .ok [] F
            | none => .bad)) xs2 [] F
          | none => .bad) else .ok [] F
      | none => .bad)) xs [] F).bind newL
    | none => .bad)
def evs : List FE → Ls → FH → R (List D)
  | [], _, F => .ok [] F
  | e :: r, ls, F => (ev e ls F).bind fun x F => (evs r ls F).bind fun xs F => .ok (x :: xs) F
def evt : List FE → Ls → FH → R Bool
  | [], _, F => .ok true F
  | e :: r, ls, F => (ev e ls F).bind fun x F => (lift (truth F x) F).bind fun b F => if b then evt r ls F else .ok false F
def eva : List FE → Ls → FH → R (List SV)
  | [], _, F => .ok [] F
  | e :: r, ls, F => R.bind (match e with
    | .var i => (match ls[i]? with
      | some (some v) => R.ok v F
      | _ => R.bad)
    | e => (ev e ls F).bind fun x F => R.ok (SV.d x) F) fun v F => (eva r ls F).bind fun vs F => .ok (v :: vs) F
end
def setL (o i v : D) (F : FH) : Option FH := match o, i with
  | .ref n, .int j => (match F[n]? with
    | some (.lst ds) => (at_ ds.length j).map fun k => F.set n (.lst (ds.set k v))
    | _ => none)
  | _, _ => none
def setIop (o i v : D) (F : FH) : Option FH := match o with
  | .ref n => (match F[n]? with
    | some (.dic ep kvs) => if kOk i && big kvs.length then some (F.set n (.dic (if (dget kvs i).isSome then ep else ep + 1) (dput kvs i v))) else none
    | _ => setL o i v F)
  | _ => setL o i v F
mutual
def ex : FS → Ls → FH → R O
  | .ex e, ls, F => (ev C P e ls F).bind fun _ F => .ok (.nx ls) F
  | .ret e, ls, F => (ev C P e ls F).bind fun x F => .ok (.rt x) F
  | .asg t e, ls, F => (ev C P e ls F).bind fun x F => (lift (bindT t x ls) F).bind fun ls F => .ok (.nx ls) F
  | .par i j a b, ls, F => (ev C P a ls F).bind fun x F => (ev C P b ls F).bind fun y F => .ok (.nx ((ls.set i (some (.d x))).set j (some (.d y)))) F
  | .setI o i v, ls, F => (ev C P v ls F).bind fun z F => (ev C P o ls F).bind fun x F => (ev C P i ls F).bind fun y F => (match setIop x y z F with
    | some F => .ok (.nx ls) F
    | none => .bad)
  | .ite c a b, ls, F => (ev C P c ls F).bind fun x F => (lift (truth F x) F).bind fun k F => if k then exs a ls F else exs b ls F
  | .whl n c b, ls, F => whlL (fun ls F => (ev C P c ls F).bind fun x F => lift (truth F x) F) (fun ls F => exs b ls F) n ls F
  | .for_ t k its b, ls, F => (evs C P its ls F).bind fun ds F => (match walk k ds F with
    | some (xs, g) => forL g (fun x ls F => (match bindT t x ls with
      | some ls => exs b ls F
      | none => .bad)) xs ls F
    | none => .bad)
  | .brk, ls, F => .ok (.bk ls) F
  | .cnt, ls, F => .ok (.ct ls) F
  | .pass, ls, F => .ok (.nx ls) F
  | .raise c e, ls, F => (ev C P e ls F).bind fun x F => .exc c x F
  | .try_ b hs, ls, F => (match exs b ls F with
    | .exc c w F' => hds hs c w ls F'
    | r => r)
  | .hnd _ _ _, _, _ => .bad
def exs : List FS → Ls → FH → R O
  | [], ls, F => .ok (.nx ls) F
  | s :: r, ls, F => (match ex s ls F with
    | .ok (.nx ls') F' => exs r ls' F'
    | r => r)
def hds : List FS → String → D → Ls → FH → R O
  | [], c, w, _, F => .exc c w F
  | h :: r, c, w, ls, F => (match h with
    | .hnd c' i b => if c = c' ∨ c' = "Refused" then (match exs b (ls.set i (some (.exc c w))) F with
        | .ok (.rt d) F' => .ok (.rt d) F'
        | _ => .bad) else hds r c w ls F
    | _ => .bad)
end
end
def runC (C : CT) (P : Pg) : Ce → List SV → FH → R D
  | .fn f, us, F => (match P.fn f with
    | some fd => if us.length = fd.ps.length then (match exs C P fd.body (us.map some ++ List.replicate (fd.nl - us.length) none) F with
        | .ok (.rt d) F' => .ok d F'
        | .ok (.nx _) F' => .ok .non F'
        | .exc c w F' => .exc c w F'
        | _ => .bad) else .bad
    | none => .bad)
  | .clo b cap, us, F => (match us with
    | [] => ev C P b (cap.map fun o => o.map SV.d) F
    | _ => .bad)
def run (P : Pg) : Nat → CT
  | 0 => fun _ _ _ => .bad
  | n + 1 => runC (run P n) P
end Fv
set_option Elab.async false
set_option linter.all false
set_option maxRecDepth 100000
/-! Fv, 3: a text of the program is such a term. -/
namespace Fv
open PySem L2
/-- where one stands: calm: not within an except suite; top: a def's own body (no comprehension's block, no lambda) -/
structure Fl where
  calm : Bool
  top : Bool
  lam : Bool
abbrev Fl.in_ : Fl := ⟨true, false, false⟩
def knd (sc : Scope) (x : Str) : Option NameKind := sc.names.lookup x
def visB (sc : Scope) (x : Str) : Bool := match knd sc x with
  | some .local => true
  | some .cell => true
  | some .free => true
  | _ => false
def locB (fl : Fl) (sc : Scope) (x : Str) : Bool := match knd sc x with
  | some .local => true
  | some .cell => fl.top
  | _ => false
def glB (sc : Scope) (x : Str) : Bool := decide (knd sc x = some .globalImplicit) && !(x == ("__debug__" : Str)) && !decide (x = ("__name__" : Str))
def nmB (N : List Str) (sc : Scope) (i : Nat) (x : Str) : Bool := decide (N[i]? = some x) && visB sc x && !(x == ("__debug__" : Str)) && !(x == ("__classdict__" : Str))
def isSet : Expr → Bool
  | .Set _ _ _ => true
  | _ => false
def isStar : Expr → Bool
  | .Starred _ _ => true
  | _ => false
def isCompr : Expr → Bool
  | .ListComp _ _ _ _ => true
  | .SetComp _ _ _ _ => true
  | .DictComp _ _ _ _ _ => true
  | _ => false
/-- no call of a bare name without arguments (super) -/
def noSuper : Expr → Bool
  | .Call (.Name _ _) [] [] _ => false
  | _ => true
/-- its test is its value's truth -/
def plainT : Expr → Bool
  | .UnaryOp _ _ _ => false
  | .BoolOp _ _ _ => false
  | .IfExp _ _ _ _ => false
  | .Compare _ _ _ _ => false
  | _ => true
def isSlice : Expr → Bool
  | .Slice _ _ _ _ => true
  | _ => false
def BO.op : BO → Operator
  | .add => .Add | .sub => .Sub | .mul => .Mult | .fdiv => .FloorDiv | .mod => .Mod | .pow => .Pow
def CO.op : CO → CmpOp
  | .eq => .Eq | .ne => .NotEq | .lt => .Lt | .le => .LtE | .gt => .Gt | .ge => .GtE | .is => .Is | .isn => .IsNot | .mem => .In | .nmem => .NotIn
def isConst : FE → Bool
  | .non => true
  | .bl _ => true
  | _ => false
def isNon : FE → Bool
  | .non => true
  | _ => false
def CO.fit (o : CO) (b : FE) : Bool := match o with
  | .is => isConst b
  | .isn => isConst b
  | _ => true
def Bi.nm : Bi → String
  | .len => "len" | .tuple => "tuple" | .list => "list" | .int => "int" | .max => "max" | .min => "min" | .str => "str" | .sorted => "sorted" | .sortedK _ => "sorted" | .dict0 => "dict"
def Mt.nm : Mt → String
  | .append => "append" | .extend => "extend" | .get => "get" | .pop => "pop" | .index => "index"
def isiT (t : String) : Bool := t == "int" || t == "bool" || t == "str" || t == "tuple" || t == "list"
def chkT (fl : Fl) (N : List Str) (sc : Scope) : Tg → Expr → Bool
  | .nm i, .Name x _ => decide (N[i]? = some x) && locB fl sc x
  | .tup is, .Tuple es _ _ => goT fl N sc is es
  | _, _ => false
where goT (fl : Fl) (N : List Str) (sc : Scope) : List Nat → List Expr → Bool
  | [], [] => true
  | i :: is, .Name x _ :: es => decide (N[i]? = some x) && locB fl sc x && goT fl N sc is es
  | _, _ => false
/-- a comprehension's own names, with their places -/
def ownOf (N : List Str) (vs : List Nat) : List (Str × Nat) := vs.filterMap fun v => (N[v]?).map fun x => (x, v)
def lamB (sc scope : Scope) : Bool := LamB sc scope
where LamB (sc scope : Scope) : Bool :=
  decide (scope.kind = .function) && !scope.isCoroutine && !scope.isGenerator && scope.names.all fun y => !decide (y.2 = .local) && !decide (y.2 = .cell) && (!decide (y.2 = .free) || decide (sc.names.lookup y.1 = some .cell) || decide (sc.names.lookup y.1 = some .free))
/-- the slots that are captured -/
def capB (N : List Str) (scope : Scope) (ds : List Nat) : Bool := ds.all fun i => (match N[i]? with
  | some x => decide (scope.names.lookup x = some .free)
  | none => false)
def chkI0 (k : IK) (t : Expr) : Bool := match k, t with
  | .plain, _ => true
  | .range, _ => true
  | _, .Tuple _ _ _ => true
  | _, _ => false
def tgIn (vs : List Nat) : Tg → Bool
  | .nm i => vs.contains i
  | .tup is => is.all fun i => vs.contains i
def noArgs : Arguments → Bool
  | ⟨[], [], none, [], [], none, []⟩ => true
  | _ => false
def isTup : Expr → Bool
  | .Tuple _ _ _ => true
  | _ => false
/-- an expression that may stand as a test -/
def tOk : FE → Bool
  | .ite _ _ _ => false
  | .neg _ => false
  | .and a b => tOk a && tOk b
  | .or a b => tOk a && tOk b
  | .not a => tOk a
  | _ => true
/-- how the arguments stand in the parameters' order -/
def permB (ps : List Str) (n : Nat) (ks : List Str) (pm : List Nat) : Bool :=
  decide (ps.Nodup) && decide (ks.Nodup) && decide (n + ks.length = ps.length) && decide (pm.length = ps.length) && ks.all (fun k => ps.contains k && !(ps.take n).contains k) &&
    (List.range ps.length).all fun i => (match pm[i]? with
      | some j => if i < n then j == i else decide (n ≤ j) && decide (ks[j - n]? = ps[i]?)
      | none => false)
def biOk : Bi → Bool
  | .sortedK _ => false
  | .dict0 => false
  | .sorted => false
  | _ => true
def mtOk : Mt → Bool
  | .index => false
  | _ => true
def isNm : Expr → Bool
  | .Name _ _ => true
  | _ => false
def keyB (P : Pg) (b : Bi) (z : Str) : Bool := match b with
  | .sortedK f => decide (so f = z) && (match P.fn f with
    | some fd => isKey fd
    | none => false)
  | _ => false
mutual
def chk (P : Pg) (fl : Fl) (N : List Str) (sc : Scope) : FE → Expr → Bool
  | .var i, e => (match e with | .Name x _ => nmB N sc i x | _ => false)
  | .what i, e => (match e with | .Attribute (.Name x _) a _ => !fl.calm && nmB N sc i x && decide (a = so "what") | _ => false)
  | .non, e => (match e with | .Constant .none _ _ => true | _ => false)
  | .bl b, e => (match e with | .Constant (.bool c) _ _ => b == c | _ => false)
  | .int i, e => (match e with | .Constant (.int j) _ _ => decide (i = j) | _ => false)
  | .str x, e => (match e with | .Constant (.str y) _ _ => decide (so x = y) && sok y | _ => false)
  | .glob x, e => (match e with | .Name y _ => decide (so x = y) && glB sc y | _ => false)
  | .fn x, e => (match e with | .Name y _ => decide (so x = y) && glB sc y && (P.fn x).isSome | _ => false)
  | .tup es, e => (match e with | .Tuple xs _ _ => chks P fl N sc es xs | _ => false)
  | .lst es, e => (match e with | .List xs _ => fl.calm && chks P fl N sc es xs | _ => false)
  | .bin o a b, e => (match e with | .BinOp x p y _ => fl.calm && decide (o.op = p) && chk P fl N sc a x && chk P fl N sc b y | _ => false)
  | .neg a, e => (match e with | .UnaryOp p x _ => fl.calm && decide (p = .USub) && chk P fl N sc a x | _ => false)
  | .not a, e => (match e with | .UnaryOp p x _ => fl.calm && decide (p = .Not) && chk P fl N sc a x | _ => false)
  | .cmp o a b, e => (match e with
    | .Compare x [p] [y] _ => fl.calm && decide (o.op = p) && !isSet y && chk P fl N sc a x && chk P fl N sc b y
    | _ => false)
  | .chain o o' a b c, e => (match e with
    | .Compare x [p, p'] [y, z] _ => fl.calm && decide (o.op = p) && decide (o'.op = p') && !isSet z && chk P fl N sc a x && chk P fl N sc b y && chk P fl N sc c z
    | _ => false)
  | .and a b, e => (match e with
    | .BoolOp p [x, y] _ => fl.calm && decide (p = .And) && chk P fl N sc a x && chk P fl N sc b y
    | .BoolOp p (x :: y :: z :: r) pos => fl.calm && decide (p = .And) && chk P fl N sc a x && chk P fl N sc b (.BoolOp .And (y :: z :: r) pos)
    | _ => false)
  | .or a b, e => (match e with
    | .BoolOp p [x, y] _ => fl.calm && decide (p = .Or) && chk P fl N sc a x && chk P fl N sc b y
    | .BoolOp p (x :: y :: z :: r) pos => fl.calm && decide (p = .Or) && chk P fl N sc a x && chk P fl N sc b (.BoolOp .Or (y :: z :: r) pos)
    | _ => false)
  | .ite c a b, e => (match e with | .IfExp x y z _ => fl.calm && tOk c && chk P fl N sc c x && chk P fl N sc a y && chk P fl N sc b z | _ => false)
  | .call f es, e => (match e with | .Call (.Name y _) xs [] _ => fl.calm && (P.fn f).isSome && decide (so f = y) && glB sc y && chks P fl N sc es xs | _ => false)
  | .callK f es pm ws, e => (match e with
    | .Call (.Name y _) xs kws _ => fl.calm && (P.fn f).isSome && decide (so f = y) && glB sc y && chks P fl N sc es xs && chkk P fl N sc ws kws && !kws.isEmpty && (match P.fn f with
      | some fd => permB (fd.ps.map so) xs.length (kws.filterMap (·.arg)) pm
      | none => false)
    | _ => false)
  | .callV i es, e => (match e with | .Call (.Name y _) xs [] _ => fl.calm && nmB N sc i y && chks P fl N sc es xs | _ => false)
  | .callL f b ds es, e => (match e with
    | .Call (.Name y _) (.Lambda ps z scope _ :: xs) [] _ => fl.calm && fl.lam && (P.fn f).isSome && decide (so f = y) && glB sc y && chks P fl N sc es xs && noArgs ps && lamB sc scope && chk P Fl.in_ N scope b z && capB N scope ds
    | _ => false)
  | .bi b es, e => (match e with
    | .Call (.Name y _) xs [] _ => fl.calm && decide (so b.nm = y) && glB sc y && chks P fl N sc es xs && biOk b && !es.isEmpty
    | .Dict [] [] _ => fl.calm && (decide (b = .dict0) && es.isEmpty)
    | .Call (.Name y _) [x] [⟨some k, .Name z _, _⟩] _ => fl.calm && (keyB P b z && (decide (so "sorted" = y) && (glB sc y && (decide (so "key" = k) && (glB sc z && chks P fl N sc es [x])))))
    | _ => false)
  | .isi a t, e => (match e with
    | .Call (.Name y _) [x, .Name z _] [] _ => fl.calm && decide (so "isinstance" = y) && glB sc y && isiT t && chk P fl N sc a x && !isStar x && decide (so t = z) && glB sc z
    | _ => false)
  | .meth m o es, e => (match e with
    | .Call (.Attribute x a ap) xs [] p => fl.calm && decide (so m.nm = a) && noSuper x && chk P fl N sc o x && chks P fl N sc es xs && decide (ap.endLine = p.line) && !es.isEmpty && mtOk m && decide (xs.length ≤ 20)
    | _ => false)
  | .idx a i, e => (match e with | .Subscript x y _ => fl.calm && !isSlice y && chk P fl N sc a x && chk P fl N sc i y | _ => false)
  | .slc a lo hi, e => (match e with
    | .Subscript x (.Slice l h none _) _ => fl.calm && chk P fl N sc a x && (match l with | some u => chk P fl N sc lo u | none => isNon lo) && (match h with | some u => chk P fl N sc hi u | none => isNon hi)
    | _ => false)
  | .comp vs elt tg k its ifs, e => (match e with
    | .ListComp x [⟨t, it, cs, n⟩] scope _ => decide (n = 0) && (fl.calm && blkC N sc scope (ownOf N vs) && decide ((ownOf N vs).map (·.2) = vs) && chkI P fl N sc k its it && chkI0 k t && chkT Fl.in_ N (relS scope sc) tg t && tgIn vs tg &&
        chk P Fl.in_ N (relS scope sc) elt x && chkc P Fl.in_ N (relS scope sc) ifs cs && !isSet it)
    | _ => false)
  | .comp2 vs elt tg k its ifs tg2 k2 its2 ifs2, e => (match e with
    | .ListComp x [⟨t, it, cs, n⟩, ⟨t2, it2, cs2, n2⟩] scope _ => decide (n = 0) && decide (n2 = 0) && (fl.calm && blkC N sc scope (ownOf N vs) && decide ((ownOf N vs).map (·.2) = vs) && chkI P fl N sc k its it && chkI0 k t && chkT Fl.in_ N (relS scope sc) tg t && tgIn vs tg &&
        chk P Fl.in_ N (relS scope sc) elt x && chkc P Fl.in_ N (relS scope sc) ifs cs && chkI P Fl.in_ N (relS scope sc) k2 its2 it2 && chkI0 k2 t2 && chkT Fl.in_ N (relS scope sc) tg2 t2 && tgIn vs tg2 && chkc P Fl.in_ N (relS scope sc) ifs2 cs2 && !isSet it && !isSet it2)
    | _ => false)
def chks (P : Pg) (fl : Fl) (N : List Str) (sc : Scope) : List FE → List Expr → Bool
  | [], xs => (match xs with | [] => true | _ => false)
  | e :: es, xs => (match xs with | x :: xs => chk P fl N sc e x && !isStar x && chks P fl N sc es xs | _ => false)
def chkk (P : Pg) (fl : Fl) (N : List Str) (sc : Scope) : List FE → List Keyword → Bool
  | [], xs => (match xs with | [] => true | _ => false)
  | e :: es, xs => (match xs with | ⟨some _, x, _⟩ :: r => chk P fl N sc e x && chkk P fl N sc es r | _ => false)
def chkc (P : Pg) (fl : Fl) (N : List Str) (sc : Scope) : List FE → List Expr → Bool
  | [], xs => (match xs with | [] => true | _ => false)
  | e :: r, xs => (match xs with | [x] => r.isEmpty && tOk e && chk P fl N sc e x | _ => false)
def chkI (P : Pg) (fl : Fl) (N : List Str) (sc : Scope) (k : IK) : List FE → Expr → Bool
  | [], _ => false
  | e :: r, x => (match k with
    | .plain => r.isEmpty && chk P fl N sc e x
    | .range => (match x with
      | .Call (.Name y _) [x] [] _ => decide (y = so "range") && glB sc y && r.isEmpty && chk P fl N sc e x && !isStar x
      | .Call (.Name y _) [x, x2] [] _ => decide (y = so "range") && glB sc y && chk P fl N sc e x && !isStar x && chks P fl N sc r [x2]
      | _ => false)
    | .enum => (match x with
      | .Call (.Name y _) [x] [] _ => decide (y = so "enumerate") && glB sc y && r.isEmpty && chk P fl N sc e x && !isStar x
      | _ => false)
    | .zip => false)
end
/-! statements -/
def linB (e : Expr) (p : Pos) : Bool := p.line == e.pos.line
/-- name = [..] by the rule for a comprehension that is used up -/
def swB (sc : Scope) (x : Str) (p : Pos) : Expr → Bool
  | .ListComp _ _ scope pos => decide (sc.names.lookup x = some .local) && (p.line == pos.line) && !(scope.names.any fun (n, k) => n == x && (k == .local || k == .cell))
  | _ => false
def parB (x y : Str) (px py : Pos) (a b : Expr) : Bool := !decide (x = y) && (py.line == px.line) && !isStar a && !isStar b && !([a, b].all (foldedForSure 8)) && !([a, b].all (constantsAlone 8))
def isHnd : FS → Bool
  | .hnd _ _ _ => true
  | _ => false
/-- a def's own try: one simple statement -/
def simB : FS → Bool
  | .ret _ => true
  | .ex _ => true
  | _ => false
mutual
def chkS (P : Pg) (fl : Fl) (N : List Str) (sc : Scope) : FS → Stmt → Bool
  | .ex e, s => (match s with | .Expr y _ => fl.calm && chk P fl N sc e y && !isCompr y | _ => false)
  | .ret e, s => (match s with
    | .Return (some y) _ => chk P fl N sc e y
    | .Return none _ => isNon e
    | _ => false)
  | .asg t e, s => (match s with
    | .Assign [g] y _ => fl.calm && chkT fl N sc t g && chk P fl N sc e y && !(isTup g && isTup y)
    | _ => false)
  | .par i j a b, s => (match s with
    | .Assign [.Tuple [.Name x px, .Name y py] _ _] (.Tuple [u, v] _ _) _ => fl.calm && chkT fl N sc (.nm i) (.Name x px) && chkT fl N sc (.nm j) (.Name y py) && decide (sc.names.lookup x = some .local) && decide (sc.names.lookup y = some .local) &&
        parB x y px py u v && chk P fl N sc a u && chk P fl N sc b v
    | _ => false)
  | .setI o i v, s => (match s with
    | .Assign [.Subscript x y _] z _ => fl.calm && !isSlice y && chk P fl N sc o x && chk P fl N sc i y && chk P fl N sc v z
    | _ => false)
  | .ite c a b, s => (match s with | .If x y z _ => fl.calm && tOk c && chk P fl N sc c x && chkSs P fl N sc a y && chkSs P fl N sc b z | _ => false)
  | .whl _ c b, s => (match s with | .While x y [] _ => fl.calm && tOk c && chk P fl N sc c x && chkSs P fl N sc b y | _ => false)
  | .for_ t k its b, s => (match s with | .For g it y [] _ => fl.calm && chkT fl N sc t g && chkI0 k g && chkI P fl N sc k its it && !isSet it && chkSs P fl N sc b y | _ => false)
  | .brk, s => (match s with | .Break _ => true | _ => false)
  | .cnt, s => (match s with | .Continue _ => true | _ => false)
  | .pass, s => (match s with | .Pass _ => true | _ => false)
  | .raise c e, s => (match s with
    | .Raise (some (.Call (.Name y _) [x] [] _)) none _ => fl.calm && fl.top && P.exc.contains c && decide (so c = y) && glB sc y && chk P fl N sc e x && !isStar x
    | _ => false)
  | .try_ b hs, s => (match s with
    | .Try y z [] [] _ => fl.calm && fl.top && (match b with
        | [u] => simB u
        | _ => false) && !hs.isEmpty && chkSs P fl N sc b y && chkH P fl N sc hs z
    | _ => false)
  | .hnd _ _ _, _ => false
def chkSs (P : Pg) (fl : Fl) (N : List Str) (sc : Scope) : List FS → List Stmt → Bool
  | [], xs => (match xs with | [] => true | _ => false)
  | s :: r, xs => (match xs with | x :: xs => chkS P fl N sc s x && chkSs P fl N sc r xs | _ => false)
def chkH (P : Pg) (fl : Fl) (N : List Str) (sc : Scope) : List FS → List ExceptHandler → Bool
  | [], xs => (match xs with | [] => true | _ => false)
  | h :: r, xs => (match xs with
    | .ExceptHandler (some (.Name y _)) (some n) body _ :: xs => (match h with
      | .hnd c i b => P.exc.contains c && decide (so c = y) && glB sc y && decide (N[i]? = some n) && decide (sc.names.lookup n = some .local) && (match b with
        | [u] => (match u with
          | .ret _ => true
          | _ => false)
        | _ => false) && chkSs P ⟨false, false, false⟩ N sc b body
      | _ => false) && chkH P fl N sc r xs
    | _ => false)
end
end Fv
set_option Elab.async false
set_option linter.all false
set_option maxRecDepth 100000
set_option maxHeartbeats 2000000
/-! Fv, 28: dicts whose keys are None, whole numbers, bools, tuples of plain data, in any mix: the search, get, store. -/
namespace Fv
open PySem PySem.Spec PyProof.Rows L2
abbrev NK := NestedKey
abbrev Ent := NK × Value × Value
def KeyM (h : Heap) (k : NK) (u : Value) : Prop := NestedIs h k u ∧ k.depth ≤ 8 ∧ isExactStrKey u = false
def entM (w : World) (x : Ent) : DictEntry := ⟨x.1.hash w, x.2.1, x.2.2⟩
structure DicM (w : World) (h : Heap) (o : Obj) (ep : Nat) (es : Array DictEntry) (xs : List Ent) : Prop where
  ex : o.ExactDict
  dat : o.data = .dict es ep
  ent : es.toList = xs.map (entM w)
  key : ∀ x ∈ xs, KeyM h x.1 x.2.1
  nd : (xs.map (·.1)).Nodup
theorem ent_at {w : World} {es : Array DictEntry} {xs : List Ent} (he : es.toList = xs.map (entM w)) (j : Nat) : es[j]? = (xs[j]?).map (entM w) := by
  rw [← Array.getElem?_toList, he, List.getElem?_map]
theorem ent_size {w : World} {es : Array DictEntry} {xs : List Ent} (he : es.toList = xs.map (entM w)) : es.size = xs.length := by
  rw [← Array.length_toList, he, List.length_map]
theorem idx_unique {xs : List Ent} (hn : (xs.map (·.1)).Nodup) {i j : Nat} {k : NK} {p q : Value × Value} (hi : xs[i]? = some (k, p)) (hj : xs[j]? = some (k, q)) : i = j := by
  have hi' : (xs.map (·.1))[i]? = some k := by rw [List.getElem?_map, hi]; rfl
  have hj' : (xs.map (·.1))[j]? = some k := by rw [List.getElem?_map, hj]; rfl
  exact (List.getElem?_inj (List.getElem?_eq_some_iff.mp hi').1 hn).mp (hi'.trans hj'.symm)
section
variable {prog : Program} {w : World} {A : Around} {E : Value → Shared → Prop} {s : Shared}
theorem eqB {x y : NK} {a b : Value} {Q : Bool → Shared → Prop} (hu : A.units + 8 < cLine) (hx : KeyM s.heap x a) (hy : KeyM s.heap y b) (h : Q (decide (x = y)) s) : wpAny (model prog w) A (PySem.eqBool a b) Q E s :=
  eqAt_key x y A s _ _ hx.1 hy.1 (by have := hx.2.1; have := hy.2.1; omega) _ _ _ _ (by rw [← NestedKey.decide_eq]; exact h)
theorem tell_quiet {u : Value} {k : NK} {stored : List Value} {Q : Bool → Shared → Prop} (hkey : KeyM s.heap k u) (hst : ∀ v ∈ stored, ∃ k', KeyM s.heap k' v) (h : Q false s) : wpAny (model prog w) A (tableMayTell u stored) Q E s := by
  unfold tableMayTell
  split
  · exact wpAny_pure h
  · refine wpAny_bind (quiet_key k u 8 s hkey.1 hkey.2.1 A E _ ?_)
    simp only [Bool.not_true, Bool.false_eq_true, if_false]
    refine wpAny_bind ?_
    refine wpAny_forIn_list _ (fun rest r s' => s' = s ∧ r = (none, ()) ∧ ∀ v ∈ rest, ∃ k', KeyM s.heap k' v) _ ?_ ?_ _ _ ⟨rfl, rfl, hst⟩
    · rintro x rest r s' ⟨rfl, rfl, hr⟩
      obtain ⟨k', hb⟩ := hr x List.mem_cons_self
      refine wpAny_bind (quiet_key k' x 8 _ hb.1 hb.2.1 A _ _ ?_)
      simp only [Bool.not_true, Bool.false_eq_true, if_false]
      exact wpAny_pure ⟨rfl, rfl, fun v hv => hr v (List.mem_cons_of_mem _ hv)⟩
    · rintro r s' ⟨rfl, rfl, _⟩
      exact wpAny_pure h
theorem find_m {d : Addr} {o : Obj} {ep : Nat} {es : Array DictEntry} {xs : List Ent} {k : NK} {u : Value} {Q : Option Nat → Shared → Prop} (hu : A.units + 8 < cLine) (hkey : KeyM s.heap k u) (ho : s.heap.get? d = some o) (D : DicM w s.heap o ep es xs)
    (hnone : (∀ (j : Nat) (p : Value × Value), xs[j]? ≠ some (k, p)) → Q none s) (hsome : ∀ (j : Nat) (p : Value × Value), xs[j]? = some (k, p) → Q (some j) s) :
    wpAny (model prog w) A (dictFind d u (k.hash w)) Q E s := by
  have he := D.ent
  have hd := D.dat
  have hsz : es.size = xs.length := ent_size he
  have haskey : ∀ (j : Nat) (p : Value × Value), xs[j]? = some (k, p) → ((es[j]?.map (·.hash)) == some (k.hash w)) = true := by
    intro j p hj
    rw [ent_at he j, hj]
    simp [entM]
  have hmem : ∀ e ∈ es, ∃ x ∈ xs, e = entM w x := by
    intro e hin
    have : e ∈ xs.map (entM w) := he ▸ Array.mem_toList_iff.mpr hin
    obtain ⟨x, hx, rfl⟩ := List.mem_map.mp this
    exact ⟨x, hx, rfl⟩
  have hany : ¬ (es.any fun e => e.key == u && e.hash != k.hash w) = true := by
    rw [← Array.any_toList, List.any_eq_true]
    rintro ⟨e, hin, hc⟩
    obtain ⟨x, hx, rfl⟩ := hmem e (Array.mem_toList_iff.mp hin)
    simp only [entM, Bool.and_eq_true, beq_iff_eq, bne_iff_ne, ne_eq] at hc
    obtain ⟨hxa, hne⟩ := hc
    have := (D.key x hx).1
    rw [hxa] at this
    exact hne (by rw [NestedIs.inj _ _ _ this hkey.1])
  have hst : ∀ v ∈ (placesWithHash es.size (fun i => es[i]?.map (·.hash)) (k.hash w)).filterMap (fun i => es[i]?.map (·.key)), ∃ k', KeyM s.heap k' v := by
    intro v hv
    obtain ⟨i, _, hi⟩ := List.mem_filterMap.mp hv
    cases hei : es[i]? with
    | none => rw [hei] at hi; cases hi
    | some e =>
      rw [hei] at hi
      obtain rfl : e.key = v := by simpa using hi
      obtain ⟨x, hx, rfl⟩ := hmem e (Array.mem_of_getElem? hei)
      exact ⟨x.1, D.key x hx⟩
  have entry : ∀ (x i : Nat), i ≤ es.size → x < es.size → ∃ k' b v', xs[x]? = some (k', b, v') ∧ KeyM s.heap k' b ∧ es[x]? = some ⟨k'.hash w, b, v'⟩ := by
    intro x i _ hlt
    obtain ⟨⟨k', b, v'⟩, hkv⟩ : ∃ y, xs[x]? = some y := ⟨xs[x]'(by rw [← hsz]; exact hlt), List.getElem?_eq_getElem _⟩
    exact ⟨k', b, v', hkv, D.key _ (List.mem_of_getElem? hkv), by rw [ent_at he x, hkv]; rfl⟩
  have noneAt : ∀ i, i ≤ es.size → [] = (List.range' i (es.size - i)).filter (fun i => (es[i]?.map (·.hash)) == some (k.hash w)) → (∀ j p, j < i → xs[j]? ≠ some (k, p)) → ∀ (j : Nat) (p : Value × Value), xs[j]? ≠ some (k, p) := by
    intro i hi hr hno j p hj
    rcases Nat.lt_or_ge j i with h | h
    · exact hno j p h hj
    · have hjl : j < es.size := by
        rw [hsz]
        rcases Nat.lt_or_ge j xs.length with h' | h'
        · exact h'
        · rw [List.getElem?_eq_none h'] at hj; exact nomatch hj
      have := List.filter_eq_nil_iff.mp hr.symm j (List.mem_range'_1.mpr ⟨h, by omega⟩)
      rw [haskey j p hj] at this
      exact this rfl
  have plain : wpAny (model prog w) A (dictWalkPlain d u (k.hash w) es (placesWithHash es.size (fun i => es[i]?.map (·.hash)) (k.hash w))) Q E s := by
    unfold dictWalkPlain
    refine wpAny_bind ?_
    refine wpAny_forIn_list _
      (fun rest b s' => s' = s ∧ b = (none, ()) ∧ ∃ i, rest = (List.range' i (es.size - i)).filter (fun i => (es[i]?.map (·.hash)) == some (k.hash w)) ∧ i ≤ es.size ∧ ∀ j p, j < i → xs[j]? ≠ some (k, p)) _ ?_ ?_ _ _
      ⟨rfl, rfl, 0, by rw [placesWithHash, List.range_eq_range', Nat.sub_zero], Nat.zero_le _, fun _ _ h => absurd h (Nat.not_lt_zero _)⟩
    · rintro x rest b s' ⟨rfl, rfl, i, hr, hi, hno⟩
      obtain ⟨hix, hxn, hpx, hskip, hrest⟩ := filter_range'_cons _ _ _ _ _ hr.symm
      have hlt : x < es.size := by omega
      have hrest' : rest = (List.range' (x + 1) (es.size - (x + 1))).filter (fun i => (es[i]?.map (·.hash)) == some (k.hash w)) := by rw [hrest]; congr 2; omega
      obtain ⟨k', b, v', hkv, hib, hex⟩ := entry x i hi hlt
      have hnox : ∀ j p, j < x → xs[j]? ≠ some (k, p) := fun j p hjx hj => by
        rcases Nat.lt_or_ge j i with h | h
        · exact hno j p h hj
        · have := hskip j h hjx
          rw [haskey j p hj] at this
          exact absurd this (by decide)
      have hstay : ¬ k' = k → ∀ j p, j < x + 1 → xs[j]? ≠ some (k, p) := fun hne j p hjx hj => by
        rcases Nat.lt_or_ge j x with h | h
        · exact hnox j p h hj
        · have hjx' : j = x := by omega
          subst hjx'
          rw [hkv] at hj
          injection hj with hj
          injection hj with hj
          exact hne hj
      rw [hex]
      dsimp only
      by_cases hh : (k'.hash w == k.hash w) = true
      · rw [if_pos hh]
        refine wpAny_bind (wpAny_dictEpoch ho hd (wpAny_bind (eqB (x := k') (y := k) hu hib hkey (wpAny_bind (wpAny_dictEpoch ho hd ?_)))))
        show wpAny _ _ (if (ep != ep) = true then _ else _) _ E _
        rw [if_neg (by simp)]
        by_cases hkk : k' = k
        · rw [decide_eq_true hkk]
          subst hkk
          exact wpAny_bind (wpAny_rule (wpAny_pure (wpAny_pure (hsome x _ hkv))))
        · rw [decide_eq_false hkk]
          exact wpAny_bind (wpAny_rule (wpAny_pure ⟨rfl, rfl, x + 1, hrest', hlt, hstay hkk⟩))
      · rw [if_neg hh]
        refine wpAny_pure ⟨rfl, rfl, x + 1, hrest', hlt, hstay ?_⟩
        intro hkk
        rw [hkk] at hh
        simp at hh
    · rintro b s' ⟨rfl, rfl, i, hr, hi, hno⟩
      exact wpAny_pure (hnone (noneAt i hi hr hno))
  by_cases hall : ((u :: (placesWithHash es.size (fun i => es[i]?.map (·.hash)) (k.hash w)).filterMap (fun i => es[i]?.map (·.key))).all carriedByValue) = true
  · unfold dictFind
    try with_reducible refine wpAny_holding ?_
    refine wpAny_bind (wpAny_dictEntries ho hd ?_)
    obtain ⟨hk1, hk2, hk3⟩ := id hkey
    cases u with
    | str x t => cases hk3
    | _ =>
      dsimp only
      rw [if_pos hall]
      first | exact plain | exact wpAny_bind plain
  · by_cases hone : (((placesWithHash es.size (fun i => es[i]?.map (·.hash)) (k.hash w)).filterMap (fun i => es[i]?.map (·.key))) == [u]) = true
    all_goals (
      unfold dictFind
      try with_reducible refine wpAny_holding ?_
      refine wpAny_bind (wpAny_dictEntries ho hd ?_)
      obtain ⟨hk1, hk2, hk3⟩ := id hkey
      cases u with
      | str x t => cases hk3
      | ellipsis => cases hk1
      | notImplemented => cases hk1
      | float _ _ => cases hk1
      | bytes _ _ => cases hk1
      | type _ => cases hk1
      | builtin _ => cases hk1
      | _ =>
        dsimp only
        rw [if_neg hall]
        first | rw [if_neg hany] | skip
        first | rw [if_pos hone] | rw [if_neg hone]
        first | refine wpAny_bind (wpAny_pure ?_) | refine wpAny_bind (tell_quiet hkey hst ?_)
        rw [if_neg (by simp)]
        refine wpAny_bind ?_
        refine wpAny_forIn_list _
          (fun rest b s' => s' = s ∧ ∃ i hit, b = (none, hit) ∧ rest = (List.range' i (es.size - i)).filter (fun i => (es[i]?.map (·.hash)) == some (k.hash w)) ∧ i ≤ es.size ∧
            ((hit = none ∧ ∀ j p, j < i → xs[j]? ≠ some (k, p)) ∨ ∃ j p, hit = some j ∧ j < i ∧ xs[j]? = some (k, p))) _ ?_ ?_ _ _
          ⟨rfl, 0, none, rfl, by rw [placesWithHash, List.range_eq_range', Nat.sub_zero], Nat.zero_le _, .inl ⟨rfl, fun _ _ h => absurd h (Nat.not_lt_zero _)⟩⟩
        · rintro x rest b s' ⟨rfl, i, hit, rfl, hr, hi, hH⟩
          obtain ⟨hix, hxn, hpx, hskip, hrest⟩ := filter_range'_cons _ _ _ _ _ hr.symm
          have hlt : x < es.size := by omega
          have hrest' : rest = (List.range' (x + 1) (es.size - (x + 1))).filter (fun i => (es[i]?.map (·.hash)) == some (k.hash w)) := by rw [hrest]; congr 2; omega
          obtain ⟨k', b, v', hkv, hib, hex⟩ := entry x i hi hlt
          have hHx : (hit = none ∧ ∀ j p, j < x → xs[j]? ≠ some (k, p)) ∨ ∃ j p, hit = some j ∧ j < x ∧ xs[j]? = some (k, p) := by
            rcases hH with ⟨h0, hno⟩ | ⟨j, p, h1, hji, hj⟩
            · refine .inl ⟨h0, fun j p hjx hj => ?_⟩
              rcases Nat.lt_or_ge j i with h | h
              · exact hno j p h hj
              · have := hskip j h hjx
                rw [haskey j p hj] at this
                exact absurd this (by decide)
            · exact .inr ⟨j, p, h1, by omega, hj⟩
          have hstay : ¬ k' = k → ((hit = none ∧ ∀ j p, j < x + 1 → xs[j]? ≠ some (k, p)) ∨ ∃ j p, hit = some j ∧ j < x + 1 ∧ xs[j]? = some (k, p)) := by
            intro hne
            rcases hHx with ⟨h0, hno⟩ | ⟨j, p, h1, hjx, hj⟩
            · refine .inl ⟨h0, fun j p hjx hj => ?_⟩
              rcases Nat.lt_or_ge j x with h | h
              · exact hno j p h hj
              · have hjx' : j = x := by omega
                subst hjx'
                rw [hkv] at hj
                injection hj with hj
                injection hj with hj
                exact hne hj
            · exact .inr ⟨j, p, h1, by omega, hj⟩
          rw [hex]
          dsimp only
          by_cases hh : (k'.hash w == k.hash w) = true
          · rw [if_pos hh]
            refine wpAny_bind (wpAny_dictEpoch ho hd (wpAny_bind (eqB (x := k') (y := k) hu hib hkey (wpAny_bind (wpAny_dictEpoch ho hd ?_)))))
            show wpAny _ _ (if (ep != ep) = true then _ else _) _ E _
            rw [if_neg (by simp)]
            by_cases hkk : k' = k
            · rw [decide_eq_true hkk]
              subst hkk
              rcases hHx with ⟨rfl, _⟩ | ⟨j, p, _, hjx, hj⟩
              · first | rw [if_pos rfl] | skip
                simp only [Option.isSome_none, Bool.false_eq_true, if_false]
                first | refine wpAny_bind (wpAny_pure ?_) | skip
                refine wpAny_bind (wpAny_rule ?_)
                split
                · exact wpAny_pure (wpAny_pure (hsome x _ hkv))
                · exact wpAny_pure ⟨rfl, x + 1, some x, rfl, hrest', hlt, .inr ⟨x, _, rfl, Nat.lt_succ_self x, hkv⟩⟩
              · exact absurd (idx_unique D.nd hj hkv) (by omega)
            · rw [decide_eq_false hkk]
              simp only [Bool.false_eq_true, if_false]
              refine wpAny_bind (wpAny_rule ?_)
              first | rw [if_neg (by simp)] | skip
              first
                | exact wpAny_pure ⟨rfl, x + 1, hit, rfl, hrest', hlt, hstay hkk⟩
                | exact wpAny_bind (wpAny_pure (wpAny_pure ⟨rfl, x + 1, hit, rfl, hrest', hlt, hstay hkk⟩))
          · rw [if_neg hh]
            refine wpAny_pure ⟨rfl, x + 1, hit, rfl, hrest', hlt, hstay ?_⟩
            intro hkk
            rw [hkk] at hh
            simp at hh
        · rintro b s' ⟨rfl, i, hit, rfl, hr, hi, hH⟩
          rcases hH with ⟨rfl, hno⟩ | ⟨j, p, rfl, _, hj⟩
          · exact wpAny_pure (hnone (noneAt i hi hr hno))
          · exact wpAny_pure (hsome j p hj))
def valM (xs : List Ent) (k : NK) : Option Value := (xs.find? fun x => decide (x.1 = k)).map (·.2.2)
def putM (k : NK) (v : Value) (x : Ent) : Ent := if x.1 = k then (x.1, x.2.1, v) else x
def storedM (xs : List Ent) (k : NK) (u v : Value) : List Ent := if (valM xs k).isSome then xs.map (putM k v) else xs ++ [(k, u, v)]
theorem valM_of {xs : List Ent} (hn : (xs.map (·.1)).Nodup) {i : Nat} {k : NK} {p : Value × Value} (hx : xs[i]? = some (k, p)) : valM xs k = some p.2 := by
  induction xs generalizing i with
  | nil => simp at hx
  | cons x rest ih =>
    rw [List.map_cons, List.nodup_cons] at hn
    cases i with
    | zero =>
      simp only [List.getElem?_cons_zero, Option.some.injEq] at hx
      subst hx
      simp [valM]
    | succ j =>
      simp only [List.getElem?_cons_succ] at hx
      have hmem : k ∈ rest.map (·.1) := List.mem_map.mpr ⟨(k, p), List.mem_of_getElem? hx, rfl⟩
      have hne : ¬ x.1 = k := fun e => hn.1 (e ▸ hmem)
      have := ih hn.2 hx
      simpa [valM, List.find?_cons, hne] using this
theorem valM_none {xs : List Ent} {k : NK} (h : ∀ (j : Nat) (p : Value × Value), xs[j]? ≠ some (k, p)) : valM xs k = none := by
  have : (xs.find? fun x => decide (x.1 = k)) = none := by
    rw [List.find?_eq_none]
    intro x hx hk
    obtain ⟨j, hj⟩ := List.mem_iff_getElem?.mp hx
    have hk' : x.1 = k := of_decide_eq_true hk
    exact h j x.2 (by rw [hj, ← hk'])
  simp [valM, this]
theorem notmem_of {xs : List Ent} {k : NK} (h : ∀ (j : Nat) (p : Value × Value), xs[j]? ≠ some (k, p)) : k ∉ xs.map (·.1) := by
  intro hm
  obtain ⟨x, hx, rfl⟩ := List.mem_map.mp hm
  obtain ⟨j, hj⟩ := List.mem_iff_getElem?.mp hx
  exact h j x.2 hj
theorem put_notmem (xs : List Ent) (k : NK) (v : Value) (hn : k ∉ xs.map (·.1)) : xs.map (putM k v) = xs := by
  induction xs with
  | nil => rfl
  | cons x xs ih =>
    simp only [List.map_cons, List.mem_cons, not_or] at hn ⊢
    rw [putM, if_neg (fun e => hn.1 e.symm), ih hn.2]
theorem keys_put (xs : List Ent) (k : NK) (v : Value) : (xs.map (putM k v)).map (·.1) = xs.map (·.1) := by
  induction xs with
  | nil => rfl
  | cons x xs ih =>
    simp only [List.map_cons, ih]
    by_cases hk : x.1 = k <;> simp [putM, hk]
theorem modify_put {w : World} (k : NK) (v : Value) : ∀ {xs : List Ent} {j : Nat} {p : Value × Value}, (xs.map (·.1)).Nodup → xs[j]? = some (k, p) → (xs.map (entM w)).modify j (fun e : DictEntry => { e with val := v }) = (xs.map (putM k v)).map (entM w) := by
  intro xs
  induction xs with
  | nil => intro j p _ hj; simp at hj
  | cons x rest ih =>
    intro j p hn hj
    rw [List.map_cons, List.nodup_cons] at hn
    cases j with
    | zero =>
      simp only [List.getElem?_cons_zero, Option.some.injEq] at hj
      subst hj
      rw [List.map_cons, List.map_cons, put_notmem rest k v hn.1, putM, if_pos rfl, List.map_cons]
      rfl
    | succ j =>
      simp only [List.getElem?_cons_succ] at hj
      have hmem : k ∈ rest.map (·.1) := List.mem_map.mpr ⟨(k, p), List.mem_of_getElem? hj, rfl⟩
      have hne : ¬ x.1 = k := fun e => hn.1 (e ▸ hmem)
      rw [List.map_cons, List.map_cons, putM, if_neg hne, List.map_cons]
      show entM w x :: (rest.map (entM w)).modify j _ = _
      rw [ih hn.2 hj]
theorem KeyM.at {h h' : Heap} {k : NK} {u : Value} (x : KeyM h k u) (hk : ∀ a o vs n, h.get? a = some o → o.data = .seq vs n → h'.get? a = some o) : KeyM h' k u := ⟨NestedIs.at hk _ _ x.1, x.2⟩
theorem KeyM.same {h h' : Heap} {k : NK} {u : Value} {d : Addr} {o : Obj} {es ep} (x : KeyM h k u) (ho : h.get? d = some o) (hd : o.data = .dict es ep) (hs : Heap.SameBut d h h') : KeyM h' k u :=
  x.at fun b ob vs n hb hc => by
    refine (hs.2 b fun e => ?_).trans hb
    subst e
    rw [ho] at hb
    cases hb
    rw [hd] at hc
    cases hc
theorem get_m {d : Addr} {o : Obj} {ep : Nat} {es : Array DictEntry} {xs : List Ent} {k : NK} {u : Value} {Q : Option Value → Shared → Prop} (hu : A.units + 8 < cLine) (hkey : KeyM s.heap k u) (ho : s.heap.get? d = some o) (D : DicM w s.heap o ep es xs)
    (h : Q (valM xs k) { s with toks := s.toks + k.draws }) : wpAny (model prog w) A (dictGet d u) Q E s := by
  unfold dictGet
  try with_reducible refine wpAny_holding ?_
  refine wpAny_bind (pyHash_key k u A s _ hkey.1 (by have := hkey.2.1; omega) (wpAny_bind (find_m (s := { s with toks := s.toks + k.draws }) hu hkey ho D ?_ ?_)))
  · intro hno
    rw [valM_none hno] at h
    exact wpAny_pure h
  · intro j p hj
    rw [valM_of D.nd hj] at h
    refine wpAny_bind (wpAny_dictEntries (s := { s with toks := s.toks + k.draws }) ho D.dat ?_)
    rw [ent_at D.ent j, hj]
    exact wpAny_pure h
theorem set_m {d : Addr} {o : Obj} {ep : Nat} {es : Array DictEntry} {xs : List Ent} {k : NK} {u v : Value} {Q : Unit → Shared → Prop} (hu : A.units + 8 < cLine) (hkey : KeyM s.heap k u) (ho : s.heap.get? d = some o) (D : DicM w s.heap o ep es xs)
    (hQ : ∀ h' o' es', h'.get? d = some o' → DicM w h' o' (if (valM xs k).isSome then ep else ep + 1) es' (storedM xs k u v) → Heap.SameBut d s.heap h' → Q () { s with heap := h', toks := s.toks + k.draws }) (hsz : xs.length ≤ sizeLine) :
    wpAny (model prog w) A (dictSet d u v) Q E s := by
  unfold dictSet
  try with_reducible refine wpAny_holding ?_
  refine wpAny_bind (pyHash_key k u A s _ hkey.1 (by have := hkey.2.1; omega) ?_)
  unfold dictSetHashed
  try with_reducible refine wpAny_holding ?_
  have he := D.ent
  have hd := D.dat
  refine wpAny_bind (find_m (s := { s with toks := s.toks + k.draws }) hu hkey ho D ?_ ?_)
  · intro hno
    have hst : storedM xs k u v = xs ++ [(k, u, v)] := by unfold storedM; rw [valM_none hno]; rfl
    refine wpAny_bind (wpAny_rule (wpAny_updateDictKeys (hz := by have e := ent_size he; omega) (s := { s with toks := s.toks + k.draws }) ho hd (hQ _ _ _ (Heap.get?_update_self _ ho (Obj.isFreed_of_dict (Obj.data_mapDictKeys hd _))) ⟨D.ex.mapDictKeys _, (Obj.data_mapDictKeys hd _).trans (by rw [valM_none hno]; rfl), ?_, ?_, ?_⟩ (Heap.SameBut.update ..))))
    · rw [hst]
      simp [he, entM]
    · rw [hst]
      intro x hx
      rcases List.mem_append.mp hx with hx | hx
      · exact (D.key x hx).same ho hd (Heap.SameBut.update ..)
      · simp only [List.mem_singleton] at hx
        subst hx
        exact hkey.same ho hd (Heap.SameBut.update ..)
    · rw [hst, List.map_append, List.nodup_append]
      refine ⟨D.nd, by simp, ?_⟩
      intro x hx y hy
      simp only [List.map_cons, List.map_nil, List.mem_singleton] at hy
      subst hy
      exact fun e => notmem_of hno (e ▸ hx)
  · intro j p hj
    have hst : storedM xs k u v = xs.map (putM k v) := by unfold storedM; rw [valM_of D.nd hj]; rfl
    refine wpAny_bind (wpAny_rule (wpAny_bind (wpAny_updateDict (s := { s with toks := s.toks + k.draws }) ho hd (wpAny_point (hQ _ _ _ (Heap.get?_update_self _ ho (Obj.isFreed_of_dict (Obj.data_mapDict hd _))) ⟨D.ex.mapDict _, (Obj.data_mapDict hd _).trans (by rw [valM_of D.nd hj]; rfl), ?_, ?_, ?_⟩ (Heap.SameBut.update ..))))))
    · rw [hst]
      have := modify_put (w := w) k v D.nd hj
      rw [← he] at this
      obtain ⟨l⟩ := es
      simpa using this
    · rw [hst]
      intro x hx
      obtain ⟨y, hy, rfl⟩ := List.mem_map.mp hx
      unfold putM
      split <;> exact (D.key y hy).same ho hd (Heap.SameBut.update ..)
    · rw [hst, keys_put]
      exact D.nd
theorem dic_type {d : Addr} {o : Obj} {ep : Nat} {es : Array DictEntry} {xs : List Ent} (ho : s.heap.get? d = some o) (D : DicM w s.heap o ep es xs) : s.TypeIs (.ref d) "dict" := ⟨o, ho, D.ex.1⟩
theorem getItem_m {d : Addr} {o : Obj} {ep : Nat} {es : Array DictEntry} {xs : List Ent} {k : NK} {u v : Value} {Q : Value → Shared → Prop} (hu : A.in1.units + 8 < cLine) (hkey : KeyM s.heap k u) (ho : s.heap.get? d = some o) (D : DicM w s.heap o ep es xs) (hv : valM xs k = some v)
    (h : Q v { s with toks := s.toks + k.draws }) : wpAny (model prog w) A (getItem (.ref d) u) Q E s := by
  unfold getItem
  try with_reducible refine wpAny_holding ?_
  refine wpAny_bind (wpAny_sequenceKey (dic_type ho D) (by decide) ?_)
  refine wpAny_bind (wpAny_callSpecial?_slot (name := Str.ofString "__getitem__") (dic_type ho D) slot_dict_getitem
    (wpAny_call_entry slot_dict_getitem (dic_type ho D) entry_dict_getitem ?_ (args_dict_getitem _ _)))
  show wpAny _ _ (dictGet d u >>= _) _ _ s
  refine wpAny_bind (get_m hu hkey ho D ?_)
  rw [hv]
  exact wpAny_pure ⟨v, rfl, wpAny_pure h⟩
theorem setItem_m {d : Addr} {o : Obj} {ep : Nat} {es : Array DictEntry} {xs : List Ent} {k : NK} {u v : Value} {Q : Unit → Shared → Prop} (hu : A.in1.units + 8 < cLine) (hkey : KeyM s.heap k u) (ho : s.heap.get? d = some o) (D : DicM w s.heap o ep es xs)
    (hQ : ∀ h' o' es', h'.get? d = some o' → DicM w h' o' (if (valM xs k).isSome then ep else ep + 1) es' (storedM xs k u v) → Heap.SameBut d s.heap h' → Q () { s with heap := h', toks := s.toks + k.draws }) (hsz : xs.length ≤ sizeLine) :
    wpAny (model prog w) A (setItem (.ref d) u v) Q E s := by
  unfold setItem
  try with_reducible refine wpAny_holding ?_
  refine wpAny_bind (wpAny_sequenceKey (dic_type ho D) (by decide) ?_)
  refine wpAny_bind (wpAny_callSpecial?_slot (name := Str.ofString "__setitem__") (dic_type ho D) slot_dict_setitem
    (wpAny_call_entry slot_dict_setitem (dic_type ho D) entry_dict_setitem ?_ (args_dict_setitem _ _ _)))
  show wpAny _ _ (Builtin.Dict.notOrdered "__setitem__" ⟨[.ref d, u, v], []⟩ >>= _) _ _ s
  refine wpAny_bind (wpAny_notOrdered_dict (dic_type ho D) ?_)
  show wpAny _ _ (dictSet d u v >>= _) _ _ s
  exact wpAny_bind (set_m (hsz := hsz) hu hkey ho D fun h' o' es' h1 h2 h3 => wpAny_pure ⟨.none, rfl, wpAny_pure (hQ h' o' es' h1 h2 h3)⟩)
theorem meets_get2 (d : Addr) (u dflt : Value) (hd : (d == sysModules) = false) :
    MeetsIn prog w (Builtin.«dict.get» ⟨[.ref d, u, dflt], []⟩) (fun A R s => A.in1.units + 8 < cLine ∧ ∃ k o ep es xs, KeyM s.heap k u ∧ s.heap.get? d = some o ∧ DicM w s.heap o ep es xs ∧
      R (.ok (.ret ((valM xs k).getD dflt))) { s with toks := s.toks + k.draws }) :=
  .of_wp fun A R s ⟨hu, k, o, ep, es, xs, hkey, ho, D, h⟩ => by
    show wpAny _ _ (dictGet d u >>= _) _ _ s
    refine wpAny_bind (get_m hu hkey ho D ?_)
    cases hf : valM xs k with
    | some v =>
      rw [hf] at h
      exact wpAny_pure ⟨v, rfl, h⟩
    | none =>
      rw [hf] at h
      show wpAny _ _ (Builtin.Dict.missed d u >>= _) _ _ _
      exact wpAny_bind (wpAny_missed_other hd (wpAny_pure ⟨dflt, rfl, h⟩))
end
end Fv
set_option Elab.async false
set_option linter.all false
set_option maxRecDepth 100000
set_option maxHeartbeats 1000000
/-! Fv, 2: how plain data lie in the heap; what a run owes. -/
namespace Fv
open PySem PySem.Spec PyProof.Rows L2

/-- what is fixed through a law -/
structure Tb where
  tabs : List (Addr × Str)
  P : Pg
  w : World
structure Gc where
  K : PySem.W.Frag
  mg : Str → Option Value
  T : Tb
  base : Heap
/-- a list that nobody changes -/
def SqF (K : PySem.W.Frag) (H : Hp) (a : Addr) (xs : List V) : Prop :=
  (∃ o, H a = some (.frz o (.lst xs))) ∨ ∃ (o : Obj) (its : Array Value) (n : Nat), K.lookup a = some o ∧ o.cls = .type "list" ∧ o.dict = none ∧ o.data = .seq its n ∧ its.size ≤ sizeLine ∧ Vals xs its.toList
theorem SqF.sq {K : PySem.W.Frag} {H : Hp} {a : Addr} {xs : List V} (h : SqF K H a xs) : SqL K H a xs := h.elim (fun ⟨o, h⟩ => .inl (.inr ⟨o, h⟩)) .inr
mutual
def RD (G : Gc) (ρ : List Addr) (H : Hp) : D → V → Prop
  | .non, v => v = .non
  | .bl b, v => v = .bl b
  | .int i, v => v = .int i
  | .str x, v => v = .str x ∧ sok x = true
  | .tup ds, v => ∃ a vs, v = .ref a ∧ SqT G.K H a vs ∧ RDs G ρ H ds vs
  | .ref n, v => ∃ a, v = .ref a ∧ ρ[n]? = some a
  | .fn x, v => ∃ a, v = .ref a ∧ G.mg (so x) = some (.ref a)
  | .frl ds, v => ∃ a vs, v = .ref a ∧ SqF G.K H a vs ∧ RDs G ρ H ds vs
def RDs (G : Gc) (ρ : List Addr) (H : Hp) : List D → List V → Prop
  | [], vs => vs = []
  | d :: ds, vs => ∃ v r, vs = v :: r ∧ RD G ρ H d v ∧ RDs G ρ H ds r
end
/-- a mutable dict as its very object -/
def exact (o : Obj) (a : Addr) : HO := .ext fun h => h.get? a = some o
/-! a key -/
mutual
def dk : D → NK
  | .non => .none
  | .bl b => .num (if b = true then 1 else 0)
  | .int i => .num i
  | .str x => .text x
  | .tup ds => .tup (dks ds)
  | .ref _ => .none
  | .fn _ => .none
  | .frl _ => .none
def dks : List D → List NK
  | [] => []
  | d :: r => dk d :: dks r
end
/-- the entries of a dict -/
def KVs (G : Gc) (ρ : List Addr) (H : Hp) : List (D × D) → List Ent → Prop
  | [], xs => xs = []
  | p :: r, xs => ∃ x xr, xs = x :: xr ∧ kOk p.1 = true ∧ x.1 = dk p.1 ∧ (∃ kv, RelV kv x.2.1 ∧ RD G ρ H p.1 kv) ∧ (∃ dv, RelV dv x.2.2 ∧ RD G ρ H p.2 dv) ∧ KVs G ρ H r xr
/-- what stands at a mutable's address -/
def RO (G : Gc) (ρ : List Addr) (H : Hp) (a : Addr) : FO → Prop
  | .lst ds => ∃ vs, H a = some (.lst vs) ∧ RDs G ρ H ds vs
  | .dic ep kvs => ∃ o es xs, H a = some (exact o a) ∧ (a == sysModules) = false ∧ o.ExactDict ∧ o.data = .dict es ep ∧ es.toList = xs.map (entM G.T.w) ∧ (xs.map (·.1)).Nodup ∧ KVs G ρ H kvs xs
structure RH (G : Gc) (ρ : List Addr) (H : Hp) (F : FH) : Prop where
  len : ρ.length = F.length
  nd : ρ.Nodup
  at_ : ∀ (n : Nat) a o, ρ[n]? = some a → F[n]? = some o → RO G ρ H a o
  tab : LamX.Tabs G.T.tabs H
/-- what stays whatever is run: all but the mutables of ρ and the tables -/
def Sty (ρ : List Addr) (b : Addr) : HO → Prop
  | .tbl _ => False
  | .tup _ => True
  | .frz _ _ => True
  | .xd _ => True
  | _ => b ∉ ρ
structure Post (ρ : List Addr) (H : Hp) (ρ' : List Addr) (H' : Hp) : Prop where
  new : ∃ l, ρ' = ρ ++ l ∧ ∀ a ∈ l, ∀ o, H a = some o → ¬ Sty ρ a o
  keep : ∀ b o, H b = some o → Sty ρ b o → H' b = some o
section
variable {G : Gc} {ρ ρ1 ρ' : List Addr} {H H1 H' : Hp} {F F1 F' : FH}
theorem Sty.mono {l : List Addr} {b : Addr} {o : HO} (hs : Sty ρ b o) (hl : b ∉ l) : Sty (ρ ++ l) b o := by
  have key : b ∉ ρ → b ∉ ρ ++ l := fun h z => (List.mem_append.mp z).elim h hl
  cases o <;> first | exact hs | exact key hs
theorem Post.refl (ρ : List Addr) (H : Hp) : Post ρ H ρ H := ⟨⟨[], by simp, fun _ h => by cases h⟩, fun _ _ h _ => h⟩
theorem Post.sty (p : Post ρ H ρ1 H1) {b : Addr} {o : HO} (hb : H b = some o) (hs : Sty ρ b o) : Sty ρ1 b o := by
  obtain ⟨l, rfl, hl⟩ := p.new
  exact hs.mono fun z => hl b z o hb hs
theorem Post.free (p : Post ρ H ρ1 H1) {b : Addr} (hb : b ∉ ρ) {o : HO} (e : H b = some o) (hs : Sty ρ b o) : b ∉ ρ1 := by
  obtain ⟨l, rfl, hl⟩ := p.new
  exact fun z => (List.mem_append.mp z).elim hb fun z => hl b z o e hs
theorem Post.trans (p : Post ρ H ρ1 H1) (q : Post ρ1 H1 ρ' H') : Post ρ H ρ' H' := by
  refine ⟨?_, fun b o hb hs => q.keep b o (p.keep b o hb hs) (p.sty hb hs)⟩
  obtain ⟨l', e', hl'⟩ := q.new
  obtain ⟨l, e, hl⟩ := id p.new
  exact ⟨l ++ l', by rw [e', e]; simp, fun a ha o ho hs => (List.mem_append.mp ha).elim (fun z => hl a z o ho hs) fun z => hl' a z o (p.keep a o ho hs) (p.sty ho hs)⟩
theorem Post.pre (p : Post ρ H ρ1 H1) {n : Nat} {a : Addr} (h : ρ[n]? = some a) : ρ1[n]? = some a := by
  obtain ⟨l, rfl, _⟩ := p.new
  rw [List.getElem?_append_left (List.getElem?_eq_some_iff.mp h).1]
  exact h
theorem Post.tup (p : Post ρ H ρ1 H1) {K : PySem.W.Frag} {a : Addr} {vs : List V} (h : SqT K H a vs) : SqT K H1 a vs := by
  rcases h with (h | ⟨o, h⟩) | h
  · exact .inl (.inl (p.keep _ _ h trivial))
  · exact .inl (.inr ⟨o, p.keep _ _ h trivial⟩)
  · exact .inr h
theorem Post.frl (p : Post ρ H ρ1 H1) {K : PySem.W.Frag} {a : Addr} {vs : List V} (h : SqF K H a vs) : SqF K H1 a vs := by
  rcases h with ⟨o, h⟩ | h
  · exact .inl ⟨o, p.keep _ _ h trivial⟩
  · exact .inr h
mutual
theorem RD.mono (p : Post ρ H ρ1 H1) : ∀ (d : D) (v : V), RD G ρ H d v → RD G ρ1 H1 d v
  | .non, _, h => h
  | .bl _, _, h => h
  | .int _, _, h => h
  | .str _, _, h => h
  | .tup ds, _, ⟨a, vs, e, hs, hd⟩ => ⟨a, vs, e, p.tup hs, RDs.mono p ds vs hd⟩
  | .ref _, _, ⟨a, e, h⟩ => ⟨a, e, p.pre h⟩
  | .fn _, _, h => h
  | .frl ds, _, ⟨a, vs, e, hs, hd⟩ => ⟨a, vs, e, p.frl hs, RDs.mono p ds vs hd⟩
theorem RDs.mono (p : Post ρ H ρ1 H1) : ∀ (ds : List D) (vs : List V), RDs G ρ H ds vs → RDs G ρ1 H1 ds vs
  | [], _, h => h
  | d :: ds, _, ⟨v, r, e, h1, h2⟩ => ⟨v, r, e, RD.mono p d v h1, RDs.mono p ds r h2⟩
end
theorem RDs.length : ∀ {ds : List D} {vs : List V}, RDs G ρ H ds vs → ds.length = vs.length
  | [], _, h => by cases (show _ = [] from h); rfl
  | _ :: _, _, ⟨_, _, e, _, h⟩ => by rw [e, List.length_cons, List.length_cons, RDs.length h]
theorem RDs.get : ∀ {ds : List D} {vs : List V} {i : Nat} {d : D}, RDs G ρ H ds vs → ds[i]? = some d → ∃ v, vs[i]? = some v ∧ RD G ρ H d v
  | [], _, _, _, _, e => by simp at e
  | x :: ds, _, 0, d, ⟨v, r, e, h, _⟩, q => by
    rw [e]
    have : x = d := by simpa using q
    subst this
    exact ⟨v, rfl, h⟩
  | _ :: ds, _, i + 1, d, ⟨v, r, e, _, h⟩, q => by
    rw [e]
    obtain ⟨w, h1, h2⟩ := RDs.get (i := i) h (by simpa using q)
    exact ⟨w, by simpa using h1, h2⟩
theorem RDs.get' : ∀ {ds : List D} {vs : List V} {i : Nat} {v : V}, RDs G ρ H ds vs → vs[i]? = some v → ∃ d, ds[i]? = some d ∧ RD G ρ H d v := fun {ds vs i v} h e => by
  have hl := h.length
  have hi : i < ds.length := by
    rw [hl]
    exact (List.getElem?_eq_some_iff.mp e).1
  obtain ⟨w, h1, h2⟩ := h.get (List.getElem?_eq_getElem hi)
  rw [e] at h1
  cases h1
  exact ⟨_, List.getElem?_eq_getElem hi, h2⟩
theorem RDs.append : ∀ {ds es : List D} {vs ws : List V}, RDs G ρ H ds vs → RDs G ρ H es ws → RDs G ρ H (ds ++ es) (vs ++ ws)
  | [], _, _, _, h, k => by
    cases (show _ = [] from h)
    exact k
  | _ :: _, _, _, _, ⟨v, r, e, h1, h2⟩, k => ⟨v, r ++ _, by rw [e]; rfl, h1, RDs.append h2 k⟩
theorem RDs.of_get : ∀ {ds : List D} {vs : List V}, ds.length = vs.length → (∀ (i : Nat) d v, ds[i]? = some d → vs[i]? = some v → RD G ρ H d v) → RDs G ρ H ds vs
  | [], [], _, _ => rfl
  | [], _ :: _, h, _ => by simp at h
  | _ :: _, [], h, _ => by simp at h
  | d :: ds, v :: vs, h, k => ⟨v, vs, rfl, k 0 d v rfl rfl, RDs.of_get (by simpa using h) fun i d' v' h1 h2 => k (i + 1) d' v' (by simpa using h1) (by simpa using h2)⟩
theorem RDs.take {ds : List D} {vs : List V} (h : RDs G ρ H ds vs) (n : Nat) : RDs G ρ H (ds.take n) (vs.take n) := by
  refine .of_get (by simp [h.length]) fun i d v h1 h2 => ?_
  rw [List.getElem?_take] at h1 h2
  split at h1
  · rename_i hi
    rw [if_pos hi] at h2
    obtain ⟨w, e, r⟩ := h.get h1
    rw [h2] at e
    cases e
    exact r
  · cases h1
theorem RDs.drop {ds : List D} {vs : List V} (h : RDs G ρ H ds vs) (n : Nat) : RDs G ρ H (ds.drop n) (vs.drop n) := by
  refine .of_get (by simp [h.length]) fun i d v h1 h2 => ?_
  rw [List.getElem?_drop] at h1 h2
  obtain ⟨w, e, r⟩ := h.get h1
  rw [h2] at e
  cases e
  exact r
theorem RDs.set {ds : List D} {vs : List V} {d : D} {v : V} (h : RDs G ρ H ds vs) (r : RD G ρ H d v) (n : Nat) : RDs G ρ H (ds.set n d) (vs.set n v) := by
  refine .of_get (by simp [h.length]) fun i d' v' h1 h2 => ?_
  rw [List.getElem?_set] at h1 h2
  split at h1
  · rename_i hi
    rw [if_pos hi] at h2
    split at h1
    · rename_i hj
      rw [if_pos (by rw [← h.length]; exact hj)] at h2
      cases h1
      cases h2
      exact r
    · cases h1
  · rename_i hi
    rw [if_neg hi] at h2
    obtain ⟨w, e, r'⟩ := h.get h1
    rw [h2] at e
    cases e
    exact r'
theorem RDs.erase {ds : List D} {vs : List V} (h : RDs G ρ H ds vs) (n : Nat) : RDs G ρ H (ds.eraseIdx n) (vs.eraseIdx n) := by
  rw [List.eraseIdx_eq_take_drop_succ, List.eraseIdx_eq_take_drop_succ]
  exact (h.take n).append (h.drop (n + 1))
theorem RDs.reps {ds : List D} {vs : List V} (h : RDs G ρ H ds vs) : ∀ n, RDs G ρ H (reps ds n) (reps vs n)
  | 0 => rfl
  | n + 1 => by
    show RDs G ρ H (List.replicate (n + 1) ds).flatten (List.replicate (n + 1) vs).flatten
    rw [List.replicate_succ, List.replicate_succ, List.flatten_cons, List.flatten_cons]
    exact h.append (RDs.reps h n)
theorem RDs.vals {ds : List D} {vs : List V} (h : RDs G ρ H ds vs) (i : Nat) (hi : i < ds.length) : ∃ v, vs[i]? = some v ∧ RD G ρ H ds[i] v := h.get (List.getElem?_eq_getElem hi)

/-- the same, told of more that is tracked -/
theorem RD.ext (e : ∀ b o, H b = some o → H1 b = some o) {d : D} {v : V} (h : RD G ρ H d v) : RD G ρ H1 d v :=
  RD.mono (ρ := ρ) (ρ1 := ρ) ⟨⟨[], by simp, fun _ h => by cases h⟩, fun b o h _ => e b o h⟩ d v h
theorem KVs.imp (hi : ∀ d v, RD G ρ H d v → RD G ρ1 H1 d v) : ∀ {kvs : List (D × D)} {xs : List Ent}, KVs G ρ H kvs xs → KVs G ρ1 H1 kvs xs
  | [], _, h => h
  | q :: r, _, ⟨x, xr, e, h1, h2, ⟨kv, k1, k2⟩, ⟨dv, d1, d2⟩, h⟩ => ⟨x, xr, e, h1, h2, ⟨kv, k1, hi _ _ k2⟩, ⟨dv, d1, hi _ _ d2⟩, KVs.imp hi h⟩
theorem KVs.mono (p : Post ρ H ρ1 H1) : ∀ {kvs : List (D × D)} {xs : List Ent}, KVs G ρ H kvs xs → KVs G ρ1 H1 kvs xs
  | [], _, h => h
  | q :: r, _, ⟨x, xr, e, h1, h2, ⟨kv, k1, k2⟩, ⟨dv, d1, d2⟩, h⟩ => ⟨x, xr, e, h1, h2, ⟨kv, k1, RD.mono p _ _ k2⟩, ⟨dv, d1, RD.mono p _ _ d2⟩, KVs.mono p h⟩
theorem RO.mono (p : Post ρ H ρ1 H1) {a : Addr} {o : FO} (k : ∀ u, H a = some u → H1 a = some u) (h : RO G ρ H a o) : RO G ρ1 H1 a o := by
  cases o with
  | lst ds =>
    obtain ⟨vs, h1, h2⟩ := h
    exact ⟨vs, k _ h1, RDs.mono p _ _ h2⟩
  | dic ep kvs =>
    obtain ⟨o, es, xs, h1, h2, h3, h4, h5, h6, h7⟩ := h
    exact ⟨o, es, xs, k _ h1, h2, h3, h4, h5, h6, h7.mono p⟩
theorem RO.ext (e : ∀ b o, H b = some o → H1 b = some o) {a : Addr} {o : FO} (h : RO G ρ H a o) : RO G ρ H1 a o :=
  h.mono ⟨⟨[], by simp, fun _ h => by cases h⟩, fun b o h _ => e b o h⟩ fun u q => e _ _ q
/-- a thing that is new and no mutable -/
theorem ext_upd {a : Addr} {o : HO} (h : H a = none) : ∀ b u, H b = some u → upd H a o b = some u := fun b u e => by
  rw [upd_ne (ne_of_none e h)]
  exact e
theorem Post.upd (ρ : List Addr) {a : Addr} {o : HO} (h : H a = none) : Post ρ H ρ (upd H a o) :=
  ⟨⟨[], by simp, fun _ h => by cases h⟩, fun b u e _ => ext_upd h b u e⟩
theorem RH.ext (h : RH G ρ H F) (e : ∀ b o, H b = some o → H1 b = some o) : RH G ρ H1 F :=
  ⟨h.len, h.nd, fun n a o h1 h2 => (h.at_ n a o h1 h2).ext e, h.tab.ext e⟩
theorem RH.upd (h : RH G ρ H F) {a : Addr} {o : HO} (hn : H a = none) : RH G ρ (upd H a o) F := h.ext (ext_upd hn)
theorem RH.get (h : RH G ρ H F) {n : Nat} {a : Addr} (e : ρ[n]? = some a) : ∃ o, F[n]? = some o ∧ RO G ρ H a o := by
  have hn : n < F.length := by rw [← h.len]; exact (List.getElem?_eq_some_iff.mp e).1
  exact ⟨F[n], List.getElem?_eq_getElem hn, h.at_ n a _ e (List.getElem?_eq_getElem hn)⟩
theorem RH.addr (h : RH G ρ H F) {n : Nat} {o : FO} (e : F[n]? = some o) : ∃ a, ρ[n]? = some a ∧ RO G ρ H a o := by
  have hn : n < ρ.length := by rw [h.len]; exact (List.getElem?_eq_some_iff.mp e).1
  exact ⟨ρ[n], List.getElem?_eq_getElem hn, h.at_ n _ o (List.getElem?_eq_getElem hn) e⟩
/-- what stands at a mutable's address -/
theorem RH.notin (h : RH G ρ H F) {b : Addr} (e : ∀ vs, H b ≠ some (.lst vs)) (e2 : ∀ (o : Obj) (es : Array DictEntry) (ep : Nat), o.data = .dict es ep → H b ≠ some (exact o b)) : b ∉ ρ := fun z => by
  obtain ⟨n, hn, e3⟩ := List.mem_iff_getElem.mp z
  obtain ⟨fo, _, r⟩ := h.get (n := n) (a := b) (by rw [List.getElem?_eq_getElem hn, e3])
  cases fo with
  | lst ds =>
    obtain ⟨vs, q, _⟩ := r
    exact e vs q
  | dic ep kvs =>
    obtain ⟨o, es, xs, h1, _, _, h4, _⟩ := r
    exact e2 o es ep h4 h1
/-- a new mutable -/
theorem RH.newO (h : RH G ρ H F) {a : Addr} {u : HO} {o : FO} (hn : H a = none) (r : RO G (ρ ++ [a]) (L2.upd H a u) a o) : RH G (ρ ++ [a]) (L2.upd H a u) (F ++ [o]) := by
  have ha : a ∉ ρ := h.notin (fun vs z => by rw [hn] at z; cases z) fun _ _ _ _ z => by rw [hn] at z; cases z
  have p : Post ρ H (ρ ++ [a]) (L2.upd H a u) := ⟨⟨[a], rfl, fun b hb o ho => by rw [List.mem_singleton.mp hb, hn] at ho; cases ho⟩, fun b u e _ => ext_upd hn b u e⟩
  refine ⟨by simp [h.len], ?_, fun n b o h1 h2 => ?_, h.tab.ext (ext_upd hn)⟩
  · exact List.nodup_append.mpr ⟨h.nd, by simp, fun x hx y hy e => ha (by rw [List.mem_singleton] at hy; rw [← hy, ← e]; exact hx)⟩
  · by_cases hl : n < ρ.length
    · rw [List.getElem?_append_left hl] at h1
      rw [List.getElem?_append_left (by rw [← h.len]; exact hl)] at h2
      exact (h.at_ n b o h1 h2).mono p fun u q => ext_upd hn _ _ q
    · have e1 : n = ρ.length := by
        have := (List.getElem?_eq_some_iff.mp h1).1
        rw [List.length_append, List.length_singleton] at this
        omega
      subst e1
      rw [List.getElem?_append_right (Nat.le_refl _), Nat.sub_self] at h1
      rw [h.len, List.getElem?_append_right (Nat.le_refl _), Nat.sub_self] at h2
      cases h1
      cases h2
      exact r
theorem Post.newO {a : Addr} {u : HO} (hn : H a = none) : Post ρ H (ρ ++ [a]) (L2.upd H a u) :=
  ⟨⟨[a], rfl, fun b hb o ho => by rw [List.mem_singleton.mp hb, hn] at ho; cases ho⟩, fun b u e _ => ext_upd hn b u e⟩
/-- a new list -/
theorem RH.newL (h : RH G ρ H F) {a : Addr} {ds : List D} {vs : List V} (hn : H a = none) (r : RDs G ρ H ds vs) : RH G (ρ ++ [a]) (L2.upd H a (.lst vs)) (F ++ [.lst ds]) :=
  h.newO hn ⟨vs, upd_same, RDs.mono (Post.newO hn) _ _ r⟩
theorem Post.newL {a : Addr} {vs : List V} (hn : H a = none) : Post ρ H (ρ ++ [a]) (L2.upd H a (.lst vs)) :=
  ⟨⟨[a], rfl, fun b hb o ho => by rw [List.mem_singleton.mp hb, hn] at ho; cases ho⟩, fun b u e _ => ext_upd hn b u e⟩
end
end Fv
set_option Elab.async false
set_option linter.all false
set_option maxRecDepth 100000
set_option maxHeartbeats 1000000
/-! Fv, 4: readings by runs. -/
namespace Fv
open PySem PySem.Spec PyProof.Rows L2
section
variable {G : Gc} {ρ ρ1 ρ' : List Addr} {H H1 H' : Hp} {F F1 F' : FH}
/-! ### slots -/
/-- the exception that an except suite holds: its object, its class, its dict -/
abbrev Xi := Option (Addr × Value × Option Addr)
abbrev anyO : HO := .ext fun _ => True
/-- the cells that a function made in place has captured -/
structure CelOk (G : Gc) (ρ : List Addr) (H : Hp) (N : List Str) (scope : Scope) (cells : List (Str × Addr)) (cap : List (Option D)) : Prop where
  at_ : ∀ x c, cells.lookup x = some c → ∃ o v, H c = some (.frz o anyO) ∧ o.data = .cell v
  inj : ∀ x y c, cells.lookup x = some c → cells.lookup y = some c → x = y
  has : ∀ y ∈ scope.names, y.2 = .free → ∃ c, cells.lookup y.1 = some c
  fre : ∀ (i : Nat) d, cap[i]? = some (some d) → ∃ x, N[i]? = some x ∧ scope.names.lookup x = some .free
  val : ∀ (i : Nat) x d, N[i]? = some x → cap[i]? = some (some d) → scope.names.lookup x = some .free → ∃ c o u w, cells.lookup x = some c ∧ H c = some (.frz o anyO) ∧ o.data = .cell (some u) ∧ RelV w u ∧ RD G ρ H d w
/-- a function made in place -/
def Clo (G : Gc) (ρ : List Addr) (H : Hp) (b : FE) (cap : List (Option D)) (f : Addr) : Prop :=
  ∃ (qual : Str) (params : Arguments) (body : Expr) (scope : Scope) (cells : List (Str × Addr)) (pm : Value) (c' : Addr) (ctv : Value) (N : List Str),
    (H f = some (.frz (PySem.W.kla_obj "<lambda>" qual params body scope cells pm c' ctv) anyO) ∨ G.base.get? f = some (PySem.W.kla_obj "<lambda>" qual params body scope cells pm c' ctv)) ∧ (H c' = some (LamX.CodeO c' qual) ∧ c' ∉ ρ) ∧ noArgs params = true ∧
      (scope.kind = .function ∧ scope.isCoroutine = false ∧ scope.isGenerator = false ∧ ∀ y ∈ scope.names, y.2 ≠ .local ∧ y.2 ≠ .cell) ∧ chk G.T.P Fl.in_ N scope b body = true ∧ N.Nodup ∧ cap.length = N.length ∧ CelOk G ρ H N scope cells cap
/-- the exception is of the class that the module's name c stands for -/
def ExC (G : Gc) (c : String) (cls : Value) : Prop := ∃ C, cls = .ref C ∧ G.mg (so c) = some (.ref C) ∧ c ∈ G.T.P.exc
def RS (G : Gc) (xi : Xi) (ρ : List Addr) (H : Hp) : SV → V → Prop
  | .d x, v => RD G ρ H x v
  | .clo b cap, v => ∃ f, v = .ref f ∧ Clo G ρ H b cap f
  | .exc c w, v => ∃ a cls dd u, xi = some (a, cls, some dd) ∧ v = .ref a ∧ H dd = some (.xd [((so "what"), u)]) ∧ RD G ρ H w u ∧ ExC G c cls
theorem Clo.mono (p : Post ρ H ρ1 H1) {b : FE} {cap : List (Option D)} {f : Addr} (h : Clo G ρ H b cap f) : Clo G ρ1 H1 b cap f := by
  obtain ⟨q, ps, bd, sc, cl, pm, c', ctv, N, h1, ⟨h2, h3⟩, h4, h5, h6, h7, h8, h9⟩ := h
  refine ⟨q, ps, bd, sc, cl, pm, c', ctv, N, h1.imp (fun h => p.keep _ _ h trivial) id, ⟨p.keep _ _ h2 h3, p.free h3 h2 h3⟩, h4, h5, h6, h7, h8, ⟨fun x c e => ?_, h9.inj, h9.has, h9.fre, fun i x d e1 e2 e3 => ?_⟩⟩
  · obtain ⟨o, v, k1, k2⟩ := h9.at_ x c e
    exact ⟨o, v, p.keep _ _ k1 trivial, k2⟩
  · obtain ⟨c, o, u, w, k1, k2, k3, k4, k5⟩ := h9.val i x d e1 e2 e3
    exact ⟨c, o, u, w, k1, p.keep _ _ k2 trivial, k3, k4, RD.mono p _ _ k5⟩
theorem RS.mono (p : Post ρ H ρ1 H1) {xi : Xi} : ∀ (s : SV) (v : V), RS G xi ρ H s v → RS G xi ρ1 H1 s v
  | .d x, v, h => RD.mono p x v h
  | .clo b cap, v, ⟨f, e, h⟩ => ⟨f, e, h.mono p⟩
  | .exc c w, v, ⟨a, cls, dd, u, e1, e2, e3, e4, e5⟩ => ⟨a, cls, dd, u, e1, e2, p.keep _ _ e3 trivial, RD.mono p _ _ e4, e5⟩
def RSs (G : Gc) (xi : Xi) (ρ : List Addr) (H : Hp) : List SV → List V → Prop := Paired fun s v => RS G xi ρ H s v
theorem RSs.mono (p : Post ρ H ρ1 H1) {xi : Xi} {ss : List SV} {vs : List V} (h : RSs G xi ρ H ss vs) : RSs G xi ρ1 H1 ss vs := Paired.mapP h fun s v r => RS.mono p s v r
/-- the slots -/
structure Loc (G : Gc) (xi : Xi) (ρ : List Addr) (H : Hp) (σ : L2.St) (ls : Ls) : Prop where
  len : ls.length = σ.length
  val : ∀ (i : Nat) s, ls[i]? = some (some s) → ∃ v, σ[i]? = some (some v) ∧ RS G xi ρ H s v
theorem Loc.mono (p : Post ρ H ρ1 H1) {xi : Xi} {σ : L2.St} {ls : Ls} (h : Loc G xi ρ H σ ls) : Loc G xi ρ1 H1 σ ls :=
  ⟨h.len, fun i s e => let ⟨v, k1, k2⟩ := h.val i s e; ⟨v, k1, RS.mono p s v k2⟩⟩
theorem Loc.set {xi : Xi} {σ : L2.St} {ls : Ls} (h : Loc G xi ρ H σ ls) {s : SV} {v : V} (r : RS G xi ρ H s v) (i : Nat) : Loc G xi ρ H (σ.set i (some v)) (ls.set i (some s)) := by
  refine ⟨by simp [h.len], fun j t e => ?_⟩
  rw [List.getElem?_set] at e
  split at e
  · rename_i hj
    split at e
    · rename_i hl
      cases e
      subst hj
      exact ⟨v, by rw [List.getElem?_set_self (by rw [← h.len]; exact hl)], r⟩
    · cases e
  · rename_i hj
    obtain ⟨w, k1, k2⟩ := h.val j t e
    exact ⟨w, by rw [List.getElem?_set_ne hj]; exact k1, k2⟩
theorem Loc.wipe {xi : Xi} {σ : L2.St} {ls : Ls} (h : Loc G xi ρ H σ ls) : ∀ vs : List Nat, Loc G xi ρ H (L2.wipe σ vs) (wipeL ls vs)
  | [] => h
  | v :: vs => by
    have k := Loc.wipe h vs
    refine ⟨?_, fun j t e => ?_⟩
    · show (List.set _ _ _).length = (List.set _ _ _).length
      rw [List.length_set, List.length_set]
      exact k.len
    · have e' : (List.set (wipeL ls vs) v none)[j]? = some (some t) := e
      rw [List.getElem?_set] at e'
      split at e'
      · split at e' <;> cases e'
      · rename_i hj
        obtain ⟨w, k1, k2⟩ := k.val j t e'
        exact ⟨w, (List.getElem?_set_ne hj).trans k1, k2⟩

/-! ### what a run owes -/
def Sat (G : Gc) (ρ : List Addr) (H : Hp) (W : WX) (σ : L2.St) {α : Type} (r : R α) (k : α → List Addr → Hp → FH → Prop) : Prop := match r with
  | .ok a F' => ∀ ρ' H', Post ρ H ρ' H' → RH G ρ' H' F' → k a ρ' H' F'
  | .exc c w F' => ∀ ρ' H' cls dd u, Post ρ H ρ' H' → RH G ρ' H' F' → ExC G c cls → H' dd = some (.xd [((so "what"), u)]) → RD G ρ' H' w u → W cls (some dd) σ H'
  | .bad => False
section
variable {W : WX} {σ : L2.St} {α β : Type} {r : R α} {k k' : α → List Addr → Hp → FH → Prop}
theorem Sat.mono (h : Sat G ρ H W σ r k) (hk : ∀ a ρ' H' F', Post ρ H ρ' H' → RH G ρ' H' F' → k a ρ' H' F' → k' a ρ' H' F') : Sat G ρ H W σ r k' := by
  cases r with
  | ok a F' => exact fun ρ' H' p q => hk _ _ _ _ p q (h ρ' H' p q)
  | exc c w F' => exact h
  | bad => exact h
theorem Sat.later (p : Post ρ H ρ1 H1) (h : Sat G ρ H W σ r k) : Sat G ρ1 H1 W σ r k := by
  cases r with
  | ok a F' => exact fun ρ' H' q => h ρ' H' (p.trans q)
  | exc c w F' => exact fun ρ' H' cls dd u q => h ρ' H' cls dd u (p.trans q)
  | bad => exact h
theorem Sat.bind {f : α → FH → R β} {k : β → List Addr → Hp → FH → Prop} (h : Sat G ρ H W σ (r.bind f) k) : Sat G ρ H W σ r fun a ρ1 H1 F1 => Sat G ρ1 H1 W σ (f a F1) k := by
  cases r with
  | ok a F' => exact fun ρ' H' p _ => Sat.later p h
  | exc c w F' => exact h
  | bad => exact h
/-- a run that is through, here -/
theorem Sat.here {a : α} {F : FH} (h : Sat G ρ H W σ (.ok a F) k) (hF : RH G ρ H F) : k a ρ H F := h ρ H (Post.refl ρ H) hF
end
def tE (G : Gc) (xi : Xi) (C : CT) (P : Pg) (W : WX) (e : FE) : TE := fun σ H Q => ∃ ρ F ls, Loc G xi ρ H σ ls ∧ RH G ρ H F ∧ Sat G ρ H W σ (ev C P e ls F) fun d ρ' H' _ => ∀ v, RD G ρ' H' d v → Q v H'
/-- by truth -/
def tT (G : Gc) (xi : Xi) (C : CT) (P : Pg) (W : WX) (e : FE) : TT := fun σ H Q => ∃ ρ F ls, Loc G xi ρ H σ ls ∧ RH G ρ H F ∧ Sat G ρ H W σ ((ev C P e ls F).bind fun x F => lift (truth F x) F) fun b _ H' _ => Q b H'
def tEs (G : Gc) (xi : Xi) (C : CT) (P : Pg) (W : WX) (es : List FE) : TA := fun σ H Q => ∃ ρ F ls, Loc G xi ρ H σ ls ∧ RH G ρ H F ∧ Sat G ρ H W σ (evs C P es ls F) fun ds ρ' H' _ => ∀ vs, RDs G ρ' H' ds vs → Q vs H'
theorem lift_ok {α : Type} {W : WX} {σ : L2.St} {o : Option α} {k : α → List Addr → Hp → FH → Prop} (h : Sat G ρ H W σ (lift o F) k) (hF : RH G ρ H F) : ∃ a, o = some a ∧ k a ρ H F := by
  cases o with
  | none => exact False.elim h
  | some a => exact ⟨a, rfl, Sat.here h hF⟩
end
/-! ### weaker readings -/
theorem _root_.L2.PE.imp {X : Cx} {e : Expr} {t t' : TE} (h : PE X e t) (hi : ∀ σ H Q, t' σ H Q → t σ H Q) : PE X e t' := ⟨fun pins s σ H Q I hw => h.run pins s σ H Q I (hi σ H Q hw)⟩
theorem _root_.L2.PT.imp {X : Cx} {e : Expr} {t t' : TT} (h : PT X e t) (hi : ∀ σ H Q, t' σ H Q → t σ H Q) : PT X e t' := ⟨fun pins s σ H Q I hw => h.run pins s σ H Q I (hi σ H Q hw)⟩
theorem _root_.L2.PA.imp {X : Cx} {e : List Expr} {t t' : TA} (h : PA X e t) (hi : ∀ σ H Q, t' σ H Q → t σ H Q) : PA X e t' := ⟨fun pos pins s σ H Q I hw => h.run pos pins s σ H Q I (hi σ H Q hw)⟩
theorem _root_.L2.PS.imp {X : Cx} {e : Stmt} {t t' : TS} (h : PS X e t) (hi : ∀ D σ H, t' D σ H → t D σ H) : PS X e t' := ⟨fun pins s σ H D I hw => h.run pins s σ H D I (hi D σ H hw)⟩
theorem _root_.L2.PSs.imp {X : Cx} {e : List Stmt} {t t' : TS} (h : PSs X e t) (hi : ∀ D σ H, t' D σ H → t D σ H) : PSs X e t' := ⟨fun pins s σ H D I hw => h.run pins s σ H D I (hi D σ H hw)⟩
theorem _root_.L2.PE.no {X : Cx} {e : Expr} {t : TE} (h : ∀ σ H Q, ¬ t σ H Q) : PE X e t := ⟨fun pins s σ H Q I hw => (h σ H Q hw).elim⟩
end Fv
set_option Elab.async false
set_option linter.all false
set_option maxRecDepth 100000
set_option maxHeartbeats 1000000
/-! Fv, 5: operators. -/
namespace Fv
open PySem PySem.Spec PyProof.Rows L2
abbrev gc (X : Cx) (T : Tb) : Gc := ⟨X.K, X.mg, T, X.base⟩
theorem big_line {n : Nat} (h : big n = true) : n ≤ sizeLine := by
  have : n ≤ 16777216 := of_decide_eq_true h
  rw [sizeLine_eq]
  exact this
theorem two {a b : Bool} (h : (a && b) = true) : a = true ∧ b = true := Bool.and_eq_true_iff.mp h
section
variable {X : Cx} {T : Tb} {W : WX} {σ0 : L2.St}
/-- a two-place operation -/
def rBin (G : Gc) (W : WX) (σ0 : L2.St) (o : BO) : R2 := fun x y H Q => ∃ ρ F a b, RH G ρ H F ∧ RD G ρ H a x ∧ RD G ρ H b y ∧ Sat G ρ H W σ0 (binop o a b F) fun d ρ' H' _ => ∀ v, RD G ρ' H' d v → Q v H'
theorem sat_newL {G : Gc} {ρ : List Addr} {H : Hp} {F : FH} {ds : List D} {vs : List V} {Q : VK} (hF : RH G ρ H F) (r : RDs G ρ H ds vs) (h : Sat G ρ H W σ0 (newL ds F) fun d ρ' H' _ => ∀ v, RD G ρ' H' d v → Q v H') :
    vs.length ≤ sizeLine ∧ ∀ p, H p = none → Q (.ref p) (upd H p (.lst vs)) := by
  unfold newL at h
  split at h
  · rename_i hb
    refine ⟨by rw [← r.length]; exact big_line hb, fun p hp => ?_⟩
    refine h _ _ (Post.newL hp) (hF.newL hp r) _ ⟨p, rfl, ?_⟩
    rw [← hF.len, List.getElem?_append_right (Nat.le_refl _), Nat.sub_self] <;> rfl
  · exact False.elim h
theorem sat_tup {G : Gc} {ρ : List Addr} {H : Hp} {F : FH} {ds : List D} {vs : List V} {Q : VK} (hF : RH G ρ H F) (r : RDs G ρ H ds vs) (h : Sat G ρ H W σ0 (.ok (.tup ds) F) fun d ρ' H' _ => ∀ v, RD G ρ' H' d v → Q v H') :
    (∀ p, H p = none → Q (.ref p) (upd H p (.tup vs))) ∧ ∀ p, SqT G.K H p vs → Q (.ref p) H := by
  refine ⟨fun p hp => ?_, fun p hp => ?_⟩
  · have e : ∀ b u, H b = some u → upd H p (.tup vs) b = some u := fun b u q => ext_upd hp b u q
    exact h _ _ (Post.upd ρ hp) (hF.upd hp) _ ⟨p, vs, rfl, .inl (.inl upd_same), RDs.mono (Post.upd ρ hp) _ _ r⟩
  · exact h _ _ (Post.refl ρ H) hF _ ⟨p, vs, rfl, hp, r⟩
theorem sat_newT {G : Gc} {ρ : List Addr} {H : Hp} {F : FH} {ds : List D} {vs : List V} {Q : VK} (hF : RH G ρ H F) (r : RDs G ρ H ds vs) (h : Sat G ρ H W σ0 (newT ds F) fun d ρ' H' _ => ∀ v, RD G ρ' H' d v → Q v H') :
    vs.length ≤ sizeLine ∧ (∀ p, H p = none → Q (.ref p) (upd H p (.tup vs))) ∧ ∀ p, SqT G.K H p vs → Q (.ref p) H := by
  unfold newT at h
  split at h
  · rename_i hb
    exact ⟨by rw [← r.length]; exact big_line hb, sat_tup hF r h⟩
  · exact False.elim h
/-- a list of ours -/
theorem RH.lst {G : Gc} {ρ : List Addr} {H : Hp} {F : FH} (hF : RH G ρ H F) {n : Nat} {a : Addr} {ds : List D} (e : ρ[n]? = some a) (h : F[n]? = some (.lst ds)) : ∃ vs, H a = some (.lst vs) ∧ RDs G ρ H ds vs := hF.at_ n a _ e h
theorem RD.lis {G : Gc} {ρ : List Addr} {H : Hp} {F : FH} (hF : RH G ρ H F) {d : D} {v : V} {ds : List D} (r : RD G ρ H d v) (h : lis F d = some ds) : ∃ a vs, v = .ref a ∧ SqL G.K H a vs ∧ RDs G ρ H ds vs := by
  cases d with
  | ref n =>
    obtain ⟨a, e, hn⟩ := r
    have h' : (match F[n]? with | some (.lst ds) => some ds | _ => none) = some ds := h
    split at h'
    · rename_i es hf
      cases h'
      obtain ⟨vs, k1, k2⟩ := hF.lst hn hf
      exact ⟨a, vs, e, .of k1, k2⟩
    · cases h'
  | frl es =>
    have h' : some es = some ds := h
    cases h'
    obtain ⟨a, vs, e, hs, hd⟩ := r
    exact ⟨a, vs, e, hs.sq, hd⟩
  | _ => cases (show (none : Option (List D)) = some ds from h)
theorem RD.items {G : Gc} {ρ : List Addr} {H : Hp} {F : FH} (hF : RH G ρ H F) {d : D} {v : V} {ds : List D} (r : RD G ρ H d v) (h : Fv.items F d = some ds) : ∃ a vs, v = .ref a ∧ (SqL G.K H a vs ∨ SqT G.K H a vs) ∧ RDs G ρ H ds vs := by
  by_cases ht : ∃ es, d = .tup es
  · obtain ⟨es, rfl⟩ := ht
    have h' : some es = some ds := h
    cases h'
    obtain ⟨a, vs, e, hs, hd⟩ := r
    exact ⟨a, vs, e, .inr hs, hd⟩
  · have h' : Fv.lis F d = some ds := by
      cases d with
      | tup es => exact (ht ⟨es, rfl⟩).elim
      | _ => exact h
    obtain ⟨a, vs, e, hs, hd⟩ := r.lis hF h'
    exact ⟨a, vs, e, .inl hs, hd⟩
theorem op_bin (o : BO) : OpR X (binaryOp o.op) (rBin (gc X T) W σ0 o) := by
  intro pins s σ H x y v u Q I rx ry h
  obtain ⟨ρ, F, a, b, hF, ha, hb, hs⟩ := h
  unfold binop at hs
  split at hs
  · obtain rfl : x = _ := ha
    obtain rfl : y = _ := hb
    exact op_add pins s σ H _ _ v u Q I rx ry ⟨_, _, rfl, rfl, hs.here hF _ rfl⟩
  · obtain rfl : x = _ := ha
    obtain rfl : y = _ := hb
    exact op_sub pins s σ H _ _ v u Q I rx ry ⟨_, _, rfl, rfl, hs.here hF _ rfl⟩
  · obtain rfl : x = _ := ha
    obtain rfl : y = _ := hb
    split at hs
    · rename_i hc
      refine op_mul pins s σ H _ _ v u Q I rx ry ⟨_, _, rfl, rfl, ?_, hs.here hF _ rfl⟩
      rcases Bool.or_eq_true_iff.mp hc with z | z
      · exact .inl ⟨of_decide_eq_true (two z).1, of_decide_eq_true (two z).2⟩
      · exact .inr ⟨of_decide_eq_true (two z).1, of_decide_eq_true (two z).2⟩
    · exact False.elim hs
  · obtain rfl : x = _ := ha
    obtain rfl : y = _ := hb
    split at hs
    · rename_i hc
      exact op_fdiv pins s σ H _ _ v u Q I rx ry ⟨_, _, rfl, rfl, ⟨of_decide_eq_true (two hc).1, of_decide_eq_true (two hc).2⟩, hs.here hF _ rfl⟩
    · exact False.elim hs
  · obtain rfl : x = _ := ha
    obtain rfl : y = _ := hb
    split at hs
    · rename_i hc
      exact op_mod pins s σ H _ _ v u Q I rx ry ⟨_, _, rfl, rfl, of_decide_eq_true hc, hs.here hF _ rfl⟩
    · exact False.elim hs
  · obtain rfl : x = _ := ha
    obtain rfl : y = _ := hb
    split at hs
    · rename_i hc
      obtain ⟨h1, h2⟩ := two hc
      have h3 := two h1
      have h4 := two h2
      refine op_pow pins s σ H _ _ v u Q I rx ry ⟨_, _, rfl, rfl, ⟨of_decide_eq_true h3.1, of_decide_eq_true h3.2, ?_⟩, hs.here hF _ rfl⟩
      have q1 := of_decide_eq_true h4.1
      have q2 := of_decide_eq_true h4.2
      omega
    · exact False.elim hs
  · obtain ⟨rfl, s1⟩ := ha
    obtain ⟨rfl, s2⟩ := hb
    split at hs
    · rename_i hc
      refine op_add_str pins s σ H _ _ v u Q I rx ry ⟨_, _, rfl, rfl, big_line hc, hs.here hF _ ⟨rfl, ?_⟩⟩
      show Array.all _ _ = true
      unfold sok at s1 s2
      simp only [Array.all_eq_true'] at s1 s2 ⊢
      intro z hz
      rcases Array.mem_append.mp (show z ∈ _ ++ _ from hz) with q | q
      · exact s1 z q
      · exact s2 z q
    · exact False.elim hs
  · obtain ⟨a1, vs, rfl, h1, h2⟩ := ha
    obtain ⟨b1, ws, rfl, h3, h4⟩ := hb
    obtain ⟨q1, q2, q3⟩ := sat_newT hF (h2.append h4) hs
    refine op_catA pins s σ H _ _ v u Q I rx ry ⟨a1, b1, vs, ws, rfl, rfl, h1, h3, by rw [← List.length_append]; exact q1, fun e => q3 b1 (by rw [e]; exact h3), fun _ e => q3 a1 (by rw [e, List.append_nil]; exact h1), fun _ _ => q2⟩
  · obtain ⟨a1, vs, rfl, h1, h2⟩ := ha
    obtain rfl : y = _ := hb
    split at hs
    · rename_i hc
      obtain ⟨c1, c4⟩ := two hc
      obtain ⟨c1, c3⟩ := two c1
      obtain ⟨c1, c2⟩ := two c1
      have hl := h2.length
      refine op_repT pins s σ H _ _ v u Q I rx ry ⟨a1, _, vs, rfl, rfl, h1, fun e => ?_, of_decide_eq_true c3, of_decide_eq_true c4, by rw [← hl]; exact of_decide_eq_true c2, (sat_tup hF (h2.reps _) hs).1⟩
      rw [e] at hl
      cases z : ‹List D› with
      | nil => rw [z] at c1; cases c1
      | cons _ _ => rw [z] at hl; cases hl
    · exact False.elim hs
  · obtain ⟨a1, rfl, h1⟩ := ha
    obtain ⟨b1, rfl, h3⟩ := hb
    split at hs
    · rename_i e1 e2
      obtain ⟨vs, k1, k2⟩ := hF.lst h1 e1
      obtain ⟨ws, k3, k4⟩ := hF.lst h3 e2
      obtain ⟨q1, q2⟩ := sat_newL hF (k2.append k4) hs
      exact op_cat pins s σ H _ _ v u Q I rx ry ⟨a1, b1, vs, ws, rfl, rfl, k1, k3, by rw [← List.length_append]; exact q1, q2⟩
    · exact False.elim hs
  · obtain ⟨a1, rfl, h1⟩ := ha
    obtain rfl : y = _ := hb
    split at hs
    · rename_i e1
      split at hs
      · rename_i hc
        obtain ⟨c1, c3⟩ := two hc
        obtain ⟨c1, c2⟩ := two c1
        obtain ⟨vs, k1, k2⟩ := hF.lst h1 e1
        obtain ⟨q1, q2⟩ := sat_newL hF (k2.reps _) hs
        have d1 := of_decide_eq_true c1
        have d2 := of_decide_eq_true c2
        have d3 := of_decide_eq_true c3
        refine op_rep pins s σ H _ _ v u Q I rx ry ⟨a1, _, vs, rfl, rfl, k1, by omega, by omega, ?_, q2⟩
        unfold reps at q1
        rw [List.length_flatten, List.map_replicate, List.sum_replicate_nat] at q1
        rw [Nat.mul_comm]
        exact q1
      · exact False.elim hs
    · exact False.elim hs
  · exact False.elim hs
end
end Fv
set_option Elab.async false
set_option linter.all false
set_option maxRecDepth 100000
set_option maxHeartbeats 1000000
/-! Fv, 6: comparisons, truth, built-ins, subscripts. -/
namespace Fv
open PySem PySem.Spec PyProof.Rows L2
mutual
theorem toP_eq : ∀ a b : D, D.pl a = true → D.pl b = true → PyData.eqv (toP a) (toP b) = D.eq a b
  | .non, .non, _, _ => by simp [toP, PyData.eqv, D.eq]
  | .non, .bl _, _, _ => by simp [toP, PyData.eqv, D.eq]
  | .non, .int _, _, _ => by simp [toP, PyData.eqv, D.eq]
  | .non, .str _, _, _ => by simp [toP, PyData.eqv, D.eq]
  | .non, .tup _, _, _ => by simp [toP, PyData.eqv, D.eq]
  | .bl _, .non, _, _ => by simp [toP, PyData.eqv, D.eq]
  | .bl _, .bl _, _, _ => by simp [toP, PyData.eqv, D.eq]
  | .bl _, .int _, _, _ => by simp [toP, PyData.eqv, D.eq]
  | .bl _, .str _, _, _ => by simp [toP, PyData.eqv, D.eq]
  | .bl _, .tup _, _, _ => by simp [toP, PyData.eqv, D.eq]
  | .int _, .non, _, _ => by simp [toP, PyData.eqv, D.eq]
  | .int _, .bl _, _, _ => by simp [toP, PyData.eqv, D.eq]
  | .int _, .int _, _, _ => by simp [toP, PyData.eqv, D.eq]
  | .int _, .str _, _, _ => by simp [toP, PyData.eqv, D.eq]
  | .int _, .tup _, _, _ => by simp [toP, PyData.eqv, D.eq]
  | .str _, .non, _, _ => by simp [toP, PyData.eqv, D.eq]
  | .str _, .bl _, _, _ => by simp [toP, PyData.eqv, D.eq]
  | .str _, .int _, _, _ => by simp [toP, PyData.eqv, D.eq]
  | .str _, .str _, _, _ => by simp [toP, PyData.eqv, D.eq]
  | .str _, .tup _, _, _ => by simp [toP, PyData.eqv, D.eq]
  | .tup _, .non, _, _ => by simp [toP, PyData.eqv, D.eq]
  | .tup _, .bl _, _, _ => by simp [toP, PyData.eqv, D.eq]
  | .tup _, .int _, _, _ => by simp [toP, PyData.eqv, D.eq]
  | .tup _, .str _, _, _ => by simp [toP, PyData.eqv, D.eq]
  | .tup a, .tup b, h, k => by
    simp only [toP, PyData.eqv, D.eq]
    exact toPs_eq a b (by simpa [D.pl] using h) (by simpa [D.pl] using k)
  | .ref _, _, h, _ => by simp [D.pl] at h
  | .fn _, _, h, _ => by simp [D.pl] at h
  | .frl _, _, h, _ => by simp [D.pl] at h
  | _, .ref _, _, h => by simp [D.pl] at h
  | _, .fn _, _, h => by simp [D.pl] at h
  | _, .frl _, _, h => by simp [D.pl] at h
theorem toPs_eq : ∀ a b : List D, D.pls a = true → D.pls b = true → PyData.eqvAll (toPs a) (toPs b) = D.eqs a b
  | [], [], _, _ => by simp [toPs, PyData.eqvAll, D.eqs]
  | [], _ :: _, _, _ => by simp [toPs, PyData.eqvAll, D.eqs]
  | _ :: _, [], _, _ => by simp [toPs, PyData.eqvAll, D.eqs]
  | x :: a, y :: b, h, k => by
    simp only [D.pls, Bool.and_eq_true] at h k
    simp only [toPs, PyData.eqvAll, D.eqs]
    rw [toP_eq x y h.1 k.1, toPs_eq a b h.2 k.2]
end
mutual
theorem toP_depth : ∀ (a : D) (k : Nat), D.le a k = true → (toP a).depth ≤ k
  | .tup ds, 0, h => by simp [D.le] at h
  | .tup ds, k + 1, h => by
    simp only [D.le] at h
    simp only [toP, PyData.depth]
    exact Nat.succ_le_succ (toPs_depth ds k h)
  | .non, _, _ => by simp [toP, PyData.depth]
  | .bl _, _, _ => by simp [toP, PyData.depth]
  | .int _, _, _ => by simp [toP, PyData.depth]
  | .str _, _, _ => by simp [toP, PyData.depth]
  | .ref _, _, _ => by simp [toP, PyData.depth]
  | .fn _, _, _ => by simp [toP, PyData.depth]
  | .frl _, _, _ => by simp [toP, PyData.depth]
theorem toPs_depth : ∀ (a : List D) (k : Nat), D.les a k = true → PyData.depthAll (toPs a) ≤ k
  | [], _, _ => by simp [toPs, PyData.depthAll]
  | x :: a, k, h => by
    simp only [D.les, Bool.and_eq_true] at h
    simp only [toPs, PyData.depthAll]
    exact Nat.max_le.mpr ⟨toP_depth x k h.1, toPs_depth a k h.2⟩
end
section
variable {G : Gc} {ρ : List Addr} {H : Hp} {F : FH}
mutual
theorem RD.dp : ∀ (d : D) (v : V), D.pl d = true → RD G ρ H d v → Dp G.K H v (toP d)
  | .non, _, _, h => by cases (show _ = V.non from h); exact .non
  | .bl _, _, _, h => by cases (show _ = V.bl _ from h); exact .bl _
  | .int _, _, _, h => by cases (show _ = V.int _ from h); exact .int _
  | .str _, _, _, h => by cases h.1; exact .str _
  | .tup ds, _, k, h => by
    obtain ⟨a, vs, e, h1, h2⟩ := h
    rw [e]
    exact .tup h1 (RDs.dp ds vs (by simpa [D.pl] using k) h2)
  | .ref _, _, k, _ => by simp [D.pl] at k
  | .fn _, _, k, _ => by simp [D.pl] at k
  | .frl _, _, k, _ => by simp [D.pl] at k
theorem RDs.dp : ∀ (ds : List D) (vs : List V), D.pls ds = true → RDs G ρ H ds vs → DpAll G.K H vs (toPs ds)
  | [], _, _, h => by cases (show _ = [] from h); exact .nil
  | d :: ds, _, k, h => by
    obtain ⟨v, r, e, h1, h2⟩ := h
    simp only [D.pls, Bool.and_eq_true] at k
    rw [e]
    exact .cons (RD.dp d v k.1 h1) (RDs.dp ds r k.2 h2)
end
mutual
theorem RD.lay : ∀ (d : D) (v : V), D.pl d = true → RD G ρ H d v → (toP d).canLay0 = true
  | .non, _, _, h => by simp [toP, PyData.canLay0]
  | .bl _, _, _, h => by simp [toP, PyData.canLay0]
  | .int _, _, _, h => by simp [toP, PyData.canLay0]
  | .str x, _, _, h => by
    simp only [toP, PyData.canLay0]
    exact h.2
  | .tup ds, _, k, h => by
    obtain ⟨a, vs, e, h1, h2⟩ := h
    simp only [toP, PyData.canLay0]
    exact RDs.lay ds vs (by simpa [D.pl] using k) h2
  | .ref _, _, k, _ => by simp [D.pl] at k
  | .fn _, _, k, _ => by simp [D.pl] at k
  | .frl _, _, k, _ => by simp [D.pl] at k
theorem RDs.lay : ∀ (ds : List D) (vs : List V), D.pls ds = true → RDs G ρ H ds vs → PyData.canLayAll0 (toPs ds) = true
  | [], _, _, h => by simp [toPs, PyData.canLayAll0]
  | d :: ds, _, k, h => by
    obtain ⟨v, r, e, h1, h2⟩ := h
    simp only [D.pls, Bool.and_eq_true] at k
    simp only [toPs, PyData.canLayAll0, Bool.and_eq_true]
    exact ⟨RD.lay d v k.1 h1, RDs.lay ds r k.2 h2⟩
end
/-- plain data, or a list of such, as data of the library -/
def Pd (G : Gc) (H : Hp) (F : FH) (d : D) (v : V) (p : PyData) (k : Bool) : Prop := Dp G.K H v p ∧ p.canLay0 = true ∧ (k = true → p.depth ≤ 51)
theorem pd_lis (hF : RH G ρ H F) {d : D} {v : V} {ds : List D} (r : RD G ρ H d v) (h : lis F d = some ds) (hp : D.pls ds = true) : Pd G H F d v (.list (toPs ds)) (D.les ds 50) := by
  obtain ⟨a, vs, e, h1, h2⟩ := r.lis hF h
  rw [e]
  refine ⟨.lst h1 (RDs.dp ds vs hp h2), ?_, fun hk => ?_⟩
  · simp only [PyData.canLay0]
    exact RDs.lay ds vs hp h2
  · simp only [PyData.depth]
    exact Nat.succ_le_succ (toPs_depth ds 50 hk)
theorem pd_pl {d : D} {v : V} (r : RD G ρ H d v) (hp : D.pl d = true) : Pd G H F d v (toP d) (D.le d 50) :=
  ⟨RD.dp d v hp r, RD.lay d v hp r, fun hk => Nat.le_succ_of_le (toP_depth d 50 hk)⟩
/-- == of the small language is the library's -/
theorem eqd_data (hF : RH G ρ H F) {a b : D} {x y : V} {k : Bool} (ra : RD G ρ H a x) (rb : RD G ρ H b y) (h : eqd F a b = some k) :
    ∃ p q : PyData, Dp G.K H x p ∧ Dp G.K H y q ∧ p.canLay0 = true ∧ q.canLay0 = true ∧ min p.depth q.depth ≤ 51 ∧ PyData.eqv p q = k := by
  have key : ∀ {p q : PyData} {k1 k2 : Bool}, Pd G H F a x p k1 → Pd G H F b y q k2 → (k1 || k2) = true → PyData.eqv p q = k →
      ∃ p q : PyData, Dp G.K H x p ∧ Dp G.K H y q ∧ p.canLay0 = true ∧ q.canLay0 = true ∧ min p.depth q.depth ≤ 51 ∧ PyData.eqv p q = k := fun {p q k1 k2} A B hk e => by
    refine ⟨p, q, A.1, B.1, A.2.1, B.2.1, ?_, e⟩
    rcases Bool.or_eq_true_iff.mp hk with z | z
    · exact Nat.le_trans (Nat.min_le_left _ _) (A.2.2 z)
    · exact Nat.le_trans (Nat.min_le_right _ _) (B.2.2 z)
  have notL : ∀ {d : D} (ds : List PyData), D.pl d = true → PyData.eqv (toP d) (.list ds) = false ∧ PyData.eqv (.list ds) (toP d) = false := fun {d} ds hp => by
    cases d <;> first | (simp [D.pl] at hp; done) | simp [toP, PyData.eqv]
  unfold eqd at h
  split at h
  · rename_i u w e1 e2
    split at h
    · rename_i hc
      obtain ⟨c1, c2⟩ := two hc
      obtain ⟨c3, c4⟩ := two c1
      refine key (pd_lis hF ra e1 c3) (pd_lis hF rb e2 c4) c2 ?_
      simp only [PyData.eqv]
      rw [toPs_eq _ _ c3 c4]
      exact Option.some.inj h
    · cases h
  · rename_i u e1 e2
    split at h
    · rename_i hc
      obtain ⟨c1, c2⟩ := two hc
      obtain ⟨c3, c4⟩ := two c1
      refine key (pd_lis hF ra e1 c3) (pd_pl rb c4) c2 ?_
      rw [(notL _ c4).2]
      exact Option.some.inj h
    · cases h
  · rename_i u e1 e2
    split at h
    · rename_i hc
      obtain ⟨c1, c2⟩ := two hc
      obtain ⟨c3, c4⟩ := two c1
      refine key (pd_pl ra c3) (pd_lis hF rb e2 c4) c2 ?_
      rw [(notL _ c3).1]
      exact Option.some.inj h
    · cases h
  · split at h
    · rename_i hc
      obtain ⟨c1, c2⟩ := two hc
      obtain ⟨c3, c4⟩ := two c1
      refine key (pd_pl ra c3) (pd_pl rb c4) c2 ?_
      rw [toP_eq _ _ c3 c4]
      exact Option.some.inj h
    · cases h
end
section
variable {X : Cx} {T : Tb}
/-- a comparison of two values -/
def rCmp (G : Gc) (o : CO) : R2 := fun x y H Q => ∃ ρ F a b k, RH G ρ H F ∧ RD G ρ H a x ∧ RD G ρ H b y ∧ cmpop o a b F = some k ∧ Q (.bl k) H
theorem is_const {A : Around} {E : Value → Shared → Prop} {s : Shared} {a b : D} {x y : V} {v u : Value} {G : Gc} {ρ : List Addr} {H : Hp} {Q : Value → Shared → Prop} {k : Bool} {pr : Program} {w : World}
    (ra : RD G ρ H a x) (rb : RD G ρ H b y) (rx : RelV x v) (ry : RelV y u) (h : isd a b = some k) :
    (Q (.bool k) s → wpAny (model pr w) A (compareOp .Is v u) Q E s) ∧ (Q (.bool (!k)) s → wpAny (model pr w) A (compareOp .IsNot v u) Q E s) := by
  have key : (v == u) = k := by
    cases b with
    | non =>
      obtain rfl : y = _ := rb
      obtain rfl : u = _ := ry
      rw [rx.none_iff]
      cases a with
      | non =>
        obtain rfl : x = _ := ra
        cases h
        rfl
      | bl c =>
        obtain rfl : x = _ := ra
        cases h
        rfl
      | int c =>
        obtain rfl : x = _ := ra
        cases h
        rfl
      | str c =>
        obtain rfl := ra.1
        cases h
        rfl
      | tup c =>
        obtain ⟨_, _, rfl, _⟩ := ra
        cases h
        rfl
      | ref c =>
        obtain ⟨_, rfl, _⟩ := ra
        cases h
        rfl
      | fn c =>
        obtain ⟨_, rfl, _⟩ := ra
        cases h
        rfl
      | frl c =>
        obtain ⟨_, _, rfl, _⟩ := ra
        cases h
        rfl
    | bl c =>
      obtain rfl : y = _ := rb
      obtain rfl : u = _ := ry
      cases a with
      | non =>
        obtain rfl : x = _ := ra
        obtain rfl : v = _ := rx
        cases h
        rfl
      | bl d =>
        obtain rfl : x = _ := ra
        obtain rfl : v = _ := rx
        cases h
        cases c <;> cases d <;> rfl
      | int d =>
        obtain rfl : x = _ := ra
        obtain ⟨t, rfl⟩ := rx
        cases h
        rfl
      | str d =>
        obtain rfl := ra.1
        obtain ⟨t, rfl⟩ := rx
        cases h
        rfl
      | tup d =>
        obtain ⟨_, _, rfl, _⟩ := ra
        obtain rfl : v = _ := rx
        cases h
        rfl
      | ref d =>
        obtain ⟨_, rfl, _⟩ := ra
        obtain rfl : v = _ := rx
        cases h
        rfl
      | fn d =>
        obtain ⟨_, rfl, _⟩ := ra
        obtain rfl : v = _ := rx
        cases h
        rfl
      | frl d =>
        obtain ⟨_, _, rfl, _⟩ := ra
        obtain rfl : v = _ := rx
        cases h
        rfl
    | _ => cases a <;> cases h
  have hb : u = .none ∨ ∃ c, u = .bool c := by
    cases b with
    | non =>
      obtain rfl : y = _ := rb
      exact .inl ry
    | bl c =>
      obtain rfl : y = _ := rb
      exact .inr ⟨c, ry⟩
    | _ => cases a <;> cases h
  subst key
  rcases hb with rfl | ⟨c, rfl⟩
  · exact ⟨fun q => is_none_gen q, fun q => isnot_none_gen q⟩
  · refine ⟨fun q => ?_, fun q => ?_⟩ <;> cases v <;> first | exact wpAny_pure q | (exfalso; cases x <;> first | (cases rx; done) | (obtain ⟨t, e⟩ := rx; cases e))
theorem depth_le {p q : PyData} (h : min p.depth q.depth ≤ 51) {u : Nat} (hu : u + 64 < cLine) : u + min p.depth q.depth < cLine := by omega
def ii (p : Int → Int → Bool) (a b : D) : Option Bool := match a, b with | .int i, .int j => some (p i j) | _, _ => none
theorem ii_some {G : Gc} {ρ : List Addr} {H : Hp} {x y : V} {a b : D} {v u : Value} {k : Bool} (ha : RD G ρ H a x) (hb : RD G ρ H b y) (rx : RelV x v) (ry : RelV y u) {p : Int → Int → Bool} (e : ii p a b = some k) : ∃ i j t t', v = .int i t ∧ u = .int j t' ∧ p i j = k := by
  unfold ii at e
  split at e
  · obtain rfl : x = _ := ha
    obtain rfl : y = _ := hb
    obtain ⟨t, rfl⟩ := rx
    obtain ⟨t', rfl⟩ := ry
    exact ⟨_, _, t, t', rfl, rfl, Option.some.inj e⟩
  · cases e
theorem op_cmp (hu : X.A.units + 64 < cLine) (o : CO) : OpR X (compareOp o.op) (rCmp (gc X T) o) := by
  intro pins s σ H x y v u Q I rx ry h
  obtain ⟨ρ, F, a, b, k, hF, ha, hb, hk, q⟩ := h
  have fin : EP X pins σ Q (.bool k) s := ⟨.bl k, H, I, rfl, q⟩
  have iis : ∀ {p : Int → Int → Bool}, ii p a b = some k → ∃ i j t t', v = .int i t ∧ u = .int j t' ∧ p i j = k := ii_some ha hb rx ry
  have eqs : ∀ {k : Bool}, eqd F a b = some k → ∃ p q as bs, Reads s.heap v p as ∧ Reads s.heap u q bs ∧ p.canLay0 = true ∧ q.canLay0 = true ∧ X.A.units + min p.depth q.depth < cLine ∧ PyData.eqv p q = k := by
    intro k e
    obtain ⟨p, q, h1, h2, h3, h4, h5, h6⟩ := eqd_data hF ha hb e
    obtain ⟨as, r1⟩ := Dp.reads I p x v h1 rx
    obtain ⟨bs, r2⟩ := Dp.reads I q y u h2 ry
    exact ⟨p, q, as, bs, r1, r2, h3, h4, depth_le h5 hu, h6⟩
  have mems : ∀ {k : Bool}, memD F a b = some k → (∃ p ds as bs, Reads s.heap v p as ∧ (Reads s.heap u (.list ds) bs ∨ Reads s.heap u (.tuple ds) bs) ∧ p.canLay0 = true ∧ PyData.canLayAll0 ds = true ∧ X.A.units + 1 + min (PyData.depthAll ds) p.depth < cLine ∧ (ds.any fun z => PyData.eqv z p) = k) := by
    intro k e
    unfold memD at e
    split at e
    · rename_i ds e1
      split at e
      · rename_i hc
        obtain ⟨c1, c2⟩ := two hc
        obtain ⟨c3, c4⟩ := two c1
        obtain ⟨c, vs, rfl, hs, hd⟩ := hb.items hF e1
        obtain ⟨as, r1⟩ := Dp.reads I (toP a) x v (RD.dp a x c3 ha) rx
        have any : ∀ es : List D, D.pls es = true → ((toPs es).any fun z => PyData.eqv z (toP a)) = es.any fun z => D.eq z a := by
          intro es
          induction es with
          | nil => intro _; rfl
          | cons z es ih =>
            intro hz
            simp only [D.pls, Bool.and_eq_true] at hz
            simp only [toPs, List.any_cons]
            rw [toP_eq z a hz.1 c3, ih hz.2]
        have dp : min (PyData.depthAll (toPs ds)) (toP a).depth ≤ 51 := by
          rcases Bool.or_eq_true_iff.mp c2 with z | z
          · exact Nat.le_trans (Nat.min_le_right _ _) (Nat.le_succ_of_le (toP_depth a 50 z))
          · exact Nat.le_trans (Nat.min_le_left _ _) (Nat.le_succ_of_le (toPs_depth ds 50 z))
        have r2 : ∃ bs, Reads s.heap u (.list (toPs ds)) bs ∨ Reads s.heap u (.tuple (toPs ds)) bs := by
          rcases hs with hs | hs
          · obtain ⟨bs, r⟩ := Dp.reads I (.list (toPs ds)) _ u (.lst hs (RDs.dp ds vs c4 hd)) ry
            exact ⟨bs, .inl r⟩
          · obtain ⟨bs, r⟩ := Dp.reads I (.tuple (toPs ds)) _ u (.tup hs (RDs.dp ds vs c4 hd)) ry
            exact ⟨bs, .inr r⟩
        obtain ⟨bs, r2⟩ := r2
        refine ⟨toP a, toPs ds, as, bs, r1, r2, RD.lay a x c3 ha, RDs.lay ds vs c4 hd, by omega, ?_⟩
        rw [any ds c4]
        exact Option.some.inj e
      · cases e
    · cases e
  have neg : ∀ {o : Option Bool}, o.map (!·) = some k → ∃ k', o = some k' ∧ (!k') = k := by
    intro o e
    cases o with
    | none => cases e
    | some k' => exact ⟨k', rfl, Option.some.inj e⟩
  cases o with
  | eq =>
    obtain ⟨p, q, as, bs, r1, r2, h1, h2, h3, rfl⟩ := eqs hk
    exact SeqAt.compareEq_reads r1 r2 h1 h2 h3 fin
  | ne =>
    obtain ⟨k', e, rfl⟩ := neg hk
    obtain ⟨p, q, as, bs, r1, r2, h1, h2, h3, rfl⟩ := eqs e
    exact SeqAt.compareNe_reads r1 r2 h1 h2 h3 fin
  | is => exact (is_const ha hb rx ry hk).1 fin
  | isn =>
    obtain ⟨k', e, rfl⟩ := neg hk
    exact (is_const ha hb rx ry e).2 fin
  | mem =>
    obtain ⟨p, ds, as, bs, r1, r2, h1, h2, h3, rfl⟩ := mems hk
    rcases r2 with r2 | r2
    · exact SeqAt.in_list_reads r2 r1 h2 h1 h3 fin
    · exact SeqAt.in_tuple_reads r2 r1 h2 h1 h3 fin
  | nmem =>
    obtain ⟨k', e, rfl⟩ := neg hk
    obtain ⟨p, ds, as, bs, r1, r2, h1, h2, h3, rfl⟩ := mems e
    rcases r2 with r2 | r2
    · exact SeqAt.notIn_list_reads r2 r1 h2 h1 h3 fin
    · exact SeqAt.notIn_tuple_reads r2 r1 h2 h1 h3 fin
  | lt =>
    obtain ⟨i, j, t, t', rfl, rfl, rfl⟩ := iis (p := fun i j => decide (i < j)) hk
    exact lt_int fin
  | le =>
    obtain ⟨i, j, t, t', rfl, rfl, rfl⟩ := iis (p := fun i j => decide (i ≤ j)) hk
    exact le_int fin
  | gt =>
    obtain ⟨i, j, t, t', rfl, rfl, rfl⟩ := iis (p := fun i j => decide (j < i)) hk
    exact gt_int fin
  | ge =>
    obtain ⟨i, j, t, t', rfl, rfl, rfl⟩ := iis (p := fun i j => decide (j ≤ i)) hk
    exact ge_int fin
end
end Fv
set_option Elab.async false
set_option linter.all false
set_option maxRecDepth 100000
set_option maxHeartbeats 1000000
/-! Fv, 29: dicts. -/
namespace Fv
open PySem PySem.Spec PyProof.Rows L2
mutual
theorem dk_eq : ∀ a b : D, D.pl a = true → D.pl b = true → NestedKey.beq (dk a) (dk b) = D.eq a b
  | .non, b, _, hb => by cases b <;> first | rfl | cases hb
  | .bl x, b, _, hb => by
    cases b with
    | bl y => cases x <;> cases y <;> rfl
    | int j => cases x <;> (simp only [dk, NestedKey.beq, D.eq]; rfl)
    | ref _ => cases hb
    | fn _ => cases hb
    | frl _ => cases hb
    | _ => rfl
  | .int i, b, _, hb => by
    cases b with
    | bl y => cases y <;> simp [dk, NestedKey.beq, D.eq] <;> rfl
    | int j => simp [dk, NestedKey.beq, D.eq]; rfl
    | ref _ => cases hb
    | fn _ => cases hb
    | frl _ => cases hb
    | _ => rfl
  | .str x, b, _, hb => by
    cases b with
    | str y => simp [dk, NestedKey.beq, D.eq]; rfl
    | ref _ => cases hb
    | fn _ => cases hb
    | frl _ => cases hb
    | _ => rfl
  | .tup xs, b, ha, hb => by
    cases b with
    | tup ys =>
      simp only [dk, NestedKey.beq, D.eq]
      exact dks_eq xs ys (by simpa [D.pl] using ha) (by simpa [D.pl] using hb)
    | ref _ => cases hb
    | fn _ => cases hb
    | frl _ => cases hb
    | _ => rfl
  | .ref _, _, ha, _ => by cases ha
  | .fn _, _, ha, _ => by cases ha
  | .frl _, _, ha, _ => by cases ha
theorem dks_eq : ∀ a b : List D, D.pls a = true → D.pls b = true → NestedKey.beqAll (dks a) (dks b) = D.eqs a b
  | [], [], _, _ => rfl
  | [], _ :: _, _, _ => rfl
  | _ :: _, [], _, _ => rfl
  | x :: a, y :: b, ha, hb => by
    simp only [D.pls, Bool.and_eq_true] at ha hb
    simp only [dks, NestedKey.beqAll, D.eqs]
    rw [dk_eq x y ha.1 hb.1, dks_eq a b ha.2 hb.2]
end
theorem dk_dec {a b : D} (ha : D.pl a = true) (hb : D.pl b = true) : decide (dk a = dk b) = D.eq a b := by
  rw [NestedKey.decide_eq, dk_eq a b ha hb]
mutual
theorem dk_depth : ∀ (a : D) (k : Nat), D.le a k = true → (dk a).depth ≤ k
  | .tup ds, k, h => by
    cases k with
    | zero => simp [D.le] at h
    | succ k =>
      simp only [dk, NestedKey.depth]
      exact Nat.succ_le_succ (dks_depth ds k (by simpa [D.le] using h))
  | .non, _, _ => Nat.zero_le _
  | .bl _, _, _ => Nat.zero_le _
  | .int _, _, _ => Nat.zero_le _
  | .str _, _, _ => Nat.zero_le _
  | .ref _, _, _ => Nat.zero_le _
  | .fn _, _, _ => Nat.zero_le _
  | .frl _, _, _ => Nat.zero_le _
theorem dks_depth : ∀ (a : List D) (k : Nat), D.les a k = true → NestedKey.depthAll (dks a) ≤ k
  | [], _, _ => Nat.zero_le _
  | x :: a, k, h => by
    simp only [D.les, Bool.and_eq_true] at h
    simp only [dks, NestedKey.depthAll]
    exact Nat.max_le.mpr ⟨dk_depth x k h.1, dks_depth a k h.2⟩
end
section
variable {X : Cx} {pins : List (Addr × Obj)} {s : Shared} {σ : L2.St} {G : Gc} {ρ : List Addr} {H : Hp}
mutual
theorem nested_of (I : L2.Inv X pins σ H s) (hK : G.K = X.K) : ∀ (d : D) (v : V) (u : Value), D.pl d = true → RD G ρ H d v → RelV v u → NestedIs s.heap (dk d) u
  | .non, v, u, _, r, q => by
    cases (show v = _ from r)
    cases (show u = _ from q)
    exact .none
  | .bl b, v, u, _, r, q => by
    cases (show v = _ from r)
    cases (show u = _ from q)
    exact .bool rfl
  | .int i, v, u, _, r, q => by
    cases (show v = _ from r)
    obtain ⟨t, rfl⟩ := q
    exact .int _ _
  | .str x, v, u, _, r, q => by
    cases r.1
    obtain ⟨t, rfl⟩ := q
    exact .text _ _
  | .tup ds, v, u, hp, r, q => by
    obtain ⟨a, vs, rfl, hs, hd⟩ := r
    cases (show u = _ from q)
    rw [hK] at hs
    obtain ⟨its, rv, ⟨o, h1, h2, n, h3⟩, hz⟩ := I.tuple hs
    exact .tup h1 h2 h3 (nesteds_of I hK ds vs its (by simpa [D.pl] using hp) hd rv)
  | .ref _, _, _, hp, _, _ => by cases hp
  | .fn _, _, _, hp, _, _ => by cases hp
  | .frl _, _, _, hp, _, _ => by cases hp
theorem nesteds_of (I : L2.Inv X pins σ H s) (hK : G.K = X.K) : ∀ (ds : List D) (vs : List V) (us : List Value), D.pls ds = true → RDs G ρ H ds vs → Vals vs us → NestedAll s.heap (dks ds) us
  | [], vs, us, _, r, q => by
    cases (show vs = [] from r)
    cases q
    exact .nil
  | d :: ds, vs, us, hp, ⟨v, r, e, h1, h2⟩, q => by
    subst e
    simp only [D.pls, Bool.and_eq_true] at hp
    cases q with
    | cons q1 q2 => exact .cons (nested_of I hK d v _ hp.1 h1 q1) (nesteds_of I hK ds r _ hp.2 h2 q2)
end
theorem kOk_pl {k : D} (h : kOk k = true) : D.pl k = true ∧ D.le k 8 = true ∧ ∀ x, k ≠ .str x := by
  unfold kOk at h
  simp only [Bool.and_eq_true] at h
  refine ⟨h.1, h.2.1, fun x e => ?_⟩
  subst e
  exact absurd h.2.2 (by simp)
theorem key_of (I : L2.Inv X pins σ H s) (hK : G.K = X.K) {k : D} {v : V} {u : Value} (h : kOk k = true) (r : RD G ρ H k v) (q : RelV v u) : KeyM s.heap (dk k) u := by
  obtain ⟨h1, h2, h3⟩ := kOk_pl h
  have n := nested_of I hK k v u h1 r q
  refine ⟨n, dk_depth k 8 h2, ?_⟩
  cases k with
  | str x => exact absurd rfl (h3 x)
  | non => cases n; rfl
  | bl b => cases n <;> rfl
  | int i => cases n <;> rfl
  | tup ds => cases n; rfl
  | ref _ => cases h1
  | fn _ => cases h1
  | frl _ => cases h1
theorem KVs.key (I : L2.Inv X pins σ H s) (hK : G.K = X.K) : ∀ {kvs : List (D × D)} {xs : List Ent}, KVs G ρ H kvs xs → ∀ x ∈ xs, KeyM s.heap x.1 x.2.1
  | [], _, h, x, hx => by cases (show _ = [] from h); cases hx
  | p :: r, _, ⟨x0, xr, e, h1, h2, ⟨kv, k1, k2⟩, _, h⟩, x, hx => by
    subst e
    rcases List.mem_cons.mp hx with rfl | hx
    · rw [h2]
      exact key_of I hK h1 k2 k1
    · exact KVs.key I hK h x hx
theorem KVs.length : ∀ {kvs : List (D × D)} {xs : List Ent}, KVs G ρ H kvs xs → xs.length = kvs.length
  | [], _, h => by cases (show _ = [] from h); rfl
  | _ :: _, _, ⟨_, _, e, _, _, _, _, h⟩ => by rw [e, List.length_cons, List.length_cons, KVs.length h]
theorem KVs.get : ∀ {kvs : List (D × D)} {xs : List Ent} {k : D}, KVs G ρ H kvs xs → kOk k = true →
    (dget kvs k = none ∧ valM xs (dk k) = none) ∨ ∃ d u dv, dget kvs k = some d ∧ valM xs (dk k) = some u ∧ RelV dv u ∧ RD G ρ H d dv
  | [], _, _, h, _ => by cases (show _ = [] from h); exact .inl ⟨rfl, rfl⟩
  | p :: r, _, k, ⟨x, xr, e, h1, h2, _, ⟨dv, d1, d2⟩, h⟩, hk => by
    subst e
    have q : decide (x.1 = dk k) = D.eq p.1 k := by rw [h2]; exact dk_dec (kOk_pl h1).1 (kOk_pl hk).1
    have e1 : dget (p :: r) k = if D.eq p.1 k = true then some p.2 else dget r k := by
      unfold dget
      rw [List.find?_cons]
      cases D.eq p.1 k <;> rfl
    have e2 : valM (x :: xr) (dk k) = if D.eq p.1 k = true then some x.2.2 else valM xr (dk k) := by
      unfold valM
      rw [List.find?_cons, q]
      cases D.eq p.1 k <;> rfl
    rw [e1, e2]
    by_cases z : D.eq p.1 k = true
    · rw [if_pos z, if_pos z]
      exact .inr ⟨_, _, dv, rfl, rfl, d1, d2⟩
    · rw [if_neg z, if_neg z]
      exact KVs.get h hk
theorem KVs.map {k : D} {d : D} {vu : Value} {dv : V} (hk : kOk k = true) (rv : RelV dv vu) (rd : RD G ρ H d dv) : ∀ {kvs : List (D × D)} {xs : List Ent}, KVs G ρ H kvs xs → KVs G ρ H (kvs.map fun p => if D.eq p.1 k then (p.1, d) else p) (xs.map (putM (dk k) vu))
  | [], _, h => by cases (show _ = [] from h); rfl
  | p :: r, _, ⟨x, xr, e, h1, h2, kk, dd, h⟩ => by
    subst e
    have q : decide (x.1 = dk k) = D.eq p.1 k := by rw [h2]; exact dk_dec (kOk_pl h1).1 (kOk_pl hk).1
    rw [List.map_cons, List.map_cons]
    by_cases z : D.eq p.1 k = true
    · rw [if_pos z]
      have z' : x.1 = dk k := of_decide_eq_true (q.trans z)
      rw [show putM (dk k) vu x = (x.1, x.2.1, vu) from if_pos z']
      exact ⟨_, _, rfl, h1, h2, kk, ⟨dv, rv, rd⟩, KVs.map hk rv rd h⟩
    · rw [if_neg z]
      have z' : ¬ x.1 = dk k := fun e => z (q.symm.trans (decide_eq_true e))
      rw [show putM (dk k) vu x = x from if_neg z']
      exact ⟨_, _, rfl, h1, h2, kk, dd, KVs.map hk rv rd h⟩
theorem KVs.app {k d : D} {ku vu : Value} {kv dv : V} (hk : kOk k = true) (rk : RelV kv ku) (rkd : RD G ρ H k kv) (rv : RelV dv vu) (rd : RD G ρ H d dv) : ∀ {kvs : List (D × D)} {xs : List Ent}, KVs G ρ H kvs xs → KVs G ρ H (kvs ++ [(k, d)]) (xs ++ [(dk k, ku, vu)])
  | [], _, h => by
    cases (show _ = [] from h)
    exact ⟨_, [], rfl, hk, rfl, ⟨kv, rk, rkd⟩, ⟨dv, rv, rd⟩, rfl⟩
  | p :: r, _, ⟨x, xr, e, h1, h2, kk, dd, h⟩ => by
    subst e
    exact ⟨x, _, rfl, h1, h2, kk, dd, KVs.app hk rk rkd rv rd h⟩
theorem KVs.put {k d : D} {ku vu : Value} {kv dv : V} (hk : kOk k = true) (rk : RelV kv ku) (rkd : RD G ρ H k kv) (rv : RelV dv vu) (rd : RD G ρ H d dv) {kvs : List (D × D)} {xs : List Ent} (h : KVs G ρ H kvs xs) : KVs G ρ H (dput kvs k d) (storedM xs (dk k) ku vu) := by
  unfold dput storedM
  rcases h.get hk with ⟨e1, e2⟩ | ⟨_, _, _, e1, e2, _⟩
  · rw [e1, e2]
    exact h.app hk rk rkd rv rd
  · rw [e1, e2]
    exact h.map hk rv rd
section
variable {F : FH} {T : Tb}
theorem big_line' {n : Nat} (h : big n = true) : n ≤ sizeLine := by
  have : n ≤ 16777216 := of_decide_eq_true h
  rw [sizeLine_eq]
  exact this
theorem exact_get {P : Program} {w : World} {h : Heap} {a : Addr} {o : Obj} (ok : HOk P w H h) (e : H a = some (exact o a)) : h.get? a = some o := (ok a _ e).1
/-- a dict of ours -/
theorem dic_at (I : L2.Inv X pins σ H s) (hw : X.w = T.w) (hF : RH (gc X T) ρ H F) {d : D} {v : V} {p : Nat × List (D × D)} (r : RD (gc X T) ρ H d v) (e : dicOf F d = some p) :
    ∃ n a o es xs, d = .ref n ∧ v = .ref a ∧ ρ[n]? = some a ∧ F[n]? = some (.dic p.1 p.2) ∧ H a = some (exact o a) ∧ (a == sysModules) = false ∧ s.heap.get? a = some o ∧ DicM X.w s.heap o p.1 es xs ∧ KVs (gc X T) ρ H p.2 xs := by
  unfold dicOf at e
  split at e
  · rename_i n
    split at e
    · rename_i ep kvs ef
      cases e
      obtain ⟨a, rfl, hn⟩ := r
      obtain ⟨o, es, xs, h1, h2, h3, h4, h5, h6, h7⟩ := hF.at_ n a _ hn ef
      exact ⟨n, a, o, es, xs, rfl, rfl, hn, ef, h1, h2, exact_get I.hok h1, ⟨h3, h4, by rw [hw]; exact h5, KVs.key I rfl h7, h6⟩, h7⟩
    · cases e
  · cases e
theorem units8 (hu : X.A.units + 64 < cLine) : X.A.in1.units + 8 < cLine := by
  show X.A.units + 1 + 8 < cLine
  omega
theorem dic_get (I : L2.Inv X pins σ H s) (hu : X.A.units + 64 < cLine) (hw : X.w = T.w) (hF : RH (gc X T) ρ H F) {d k : D} {x y : V} {xv yv dv : Value} {z : V} {p : Nat × List (D × D)} {e : D} {Q : VK} (rd : RD (gc X T) ρ H d x) (rk : RD (gc X T) ρ H k y) (rx : RelV x xv) (ry : RelV y yv)
    (hd : dicOf F d = some p) (hk : kOk k = true) (rz : RelV z dv) (rzd : RD (gc X T) ρ H e z) (q : ∀ v, RD (gc X T) ρ H ((dget p.2 k).getD e) v → Q v H) : wpAny (model X.prog X.w) X.A (call (.builtin "dict.get") [xv, yv, dv]) (EP X pins σ Q) X.xe s := by
  obtain ⟨n, a, o, es, xs, rfl, rfl, hn, ef, h1, h2, h3, DM, kv⟩ := dic_at I hw hF rd hd
  cases (show xv = _ from rx)
  refine call_meetsIn PySem.F.slot_dict_get (dic_type h3 DM) PySem.F.entry_dict_get (PySem.F.args_dict_get_3 _ _ _) (meets_get2 a yv dv h2) ⟨units8 hu, dk k, o, _, es, xs, key_of I rfl hk rk ry, h3, DM, ?_⟩
  rcases kv.get hk with ⟨e1, e2⟩ | ⟨d', u, w', e1, e2, e3, e4⟩
  · rw [e1] at q
    rw [e2]
    exact ⟨z, H, I.tok _, rz, q z rzd⟩
  · rw [e1] at q
    rw [e2]
    exact ⟨w', H, I.tok _, e3, q w' e4⟩
theorem dic_idx (I : L2.Inv X pins σ H s) (hu : X.A.units + 64 < cLine) (hw : X.w = T.w) (hF : RH (gc X T) ρ H F) {d k e : D} {x y : V} {xv yv : Value} {p : Nat × List (D × D)} {Q : VK} {value slice : Expr} (rd : RD (gc X T) ρ H d x) (rk : RD (gc X T) ρ H k y) (rx : RelV x xv) (ry : RelV y yv)
    (hd : dicOf F d = some p) (hk : kOk k = true) (he : dget p.2 k = some e) (q : ∀ v, RD (gc X T) ρ H e v → Q v H) (hsub : subscripted slice false xv yv = operate [xv, yv] (getItem xv yv)) :
    wpAny (model X.prog X.w) X.A (subscriptTail value slice xv yv) (EP X pins σ Q) X.xe s := by
  obtain ⟨n, a, o, es, xs, rfl, rfl, hn, ef, h1, h2, h3, DM, kv⟩ := dic_at I hw hF rd hd
  cases (show xv = _ from rx)
  rcases kv.get hk with ⟨e1, _⟩ | ⟨d', u, w', e1, e2, e3, e4⟩
  · rw [e1] at he
    cases he
  · rw [e1] at he
    cases he
    have fin : EP X pins σ Q u { s with toks := s.toks + (dk k).draws } := ⟨w', H, I.tok _, e3, q w' e4⟩
    exact subscriptTail_builtinR (x := u) (dic_type h3 DM) slot_dict_getitem.lookup (getItem_m (Q := fun r s' => r = u ∧ EP X pins σ Q r s') (units8 hu) (key_of I rfl hk rk ry) h3 DM e2 ⟨rfl, fin⟩) hsub
theorem exact_ok {P : Program} {w : World} {H' : Hp} {h : Heap} {a : Addr} {o : Obj} (e : h.get? a = some o) : ObjOk P w H' h a (exact o a) :=
  ⟨e, ⟨o, e⟩, fun _ h2 q k => k _ q⟩
/-- a mutable of ours is another one now -/
theorem RH.setO {G : Gc} {u : HO} {fo : FO} (h : RH G ρ H F) {n : Nat} {a : Addr} (e : ρ[n]? = some a) (hs : ∀ o, H a = some o → ¬ Sty ρ a o) (ht : LamX.Tabs G.T.tabs (L2.upd H a u)) (r : Post ρ H ρ (L2.upd H a u) → RO G ρ (L2.upd H a u) a fo) :
    RH G ρ (L2.upd H a u) (F.set n fo) ∧ Post ρ H ρ (L2.upd H a u) := by
  have p : Post ρ H ρ (L2.upd H a u) := ⟨⟨[], by simp, fun _ h => by cases h⟩, fun b o hb hst => by
      by_cases hba : b = a
      · subst hba
        exact absurd hst (hs o hb)
      · rw [upd_ne hba]; exact hb⟩
  refine ⟨⟨by simp [h.len], h.nd, fun m b o h1 h2 => ?_, ht⟩, p⟩
  by_cases hm : m = n
  · subst hm
    rw [e] at h1
    cases h1
    rw [List.getElem?_set] at h2
    simp only [if_true] at h2
    split at h2
    · cases h2
      exact r p
    · cases h2
  · rw [List.getElem?_set_ne (Ne.symm hm)] at h2
    have hba : b ≠ a := fun z => by
      subst z
      obtain ⟨l1, e1⟩ := List.getElem?_eq_some_iff.mp h1
      obtain ⟨l2, e2⟩ := List.getElem?_eq_some_iff.mp e
      exact hm ((List.getElem_inj h.nd).mp (e1.trans e2.symm))
    exact (h.at_ m b o h1 h2).mono p fun q hq => by rw [upd_ne hba]; exact hq
theorem tabs_dic {P : Program} {w : World} {tb : List (Addr × Str)} {h : Heap} {a : Addr} {o : Obj} {u : HO} {es : Array DictEntry} {ep : Nat} (ok : HOk P w H h) (ht : LamX.Tabs tb H) (e : H a = some (exact o a)) (hd : o.data = .dict es ep) : LamX.Tabs tb (L2.upd H a u) := by
  have ho := exact_get ok e
  intro q hq
  obtain ⟨ps, h1, h2, h3⟩ := ht q hq
  have n1 : q.1 ≠ a := fun z => by
    rw [z, e] at h1
    cases h1
  refine ⟨ps, by rw [upd_ne n1]; exact h1, h2, fun pos cv hc => ?_⟩
  obtain ⟨c, e1, e2⟩ := h3 pos cv hc
  have n2 : c ≠ a := fun z => by
    subst z
    obtain ⟨⟨oc, vs, t, k1, k2, _⟩, _⟩ := ok c _ e2
    rw [ho] at k1
    cases k1
    rw [hd] at k2
    cases k2
  exact ⟨c, e1, by rw [upd_ne n2]; exact e2⟩
theorem dic_set (I : L2.Inv X pins σ H s) (hu : X.A.units + 64 < cLine) (hw : X.w = T.w) (hF : RH (gc X T) ρ H F) {n ep : Nat} {k e : D} {kvs : List (D × D)} {x y z : V} {xv yv zv : Value} {Q : Hp → Prop} (rd : RD (gc X T) ρ H (.ref n) x) (rk : RD (gc X T) ρ H k y) (re : RD (gc X T) ρ H e z)
    (rx : RelV x xv) (ry : RelV y yv) (rz : RelV z zv) (hd : F[n]? = some (.dic ep kvs)) (hk : kOk k = true) (hz : big kvs.length = true) (q : ∀ ρ' H', Post ρ H ρ' H' → RH (gc X T) ρ' H' (F.set n (.dic (if (dget kvs k).isSome then ep else ep + 1) (dput kvs k e))) → Q H') :
    wpAny (model X.prog X.w) X.A (setItem xv yv zv) (fun _ s' => ∃ H', L2.Inv X pins σ H' s' ∧ Q H') X.xe s := by
  obtain ⟨m, a, o, es, xs, em, rfl, hn, ef, h1, h2, h3, DM, kv⟩ := dic_at I hw hF (p := (ep, kvs)) rd (by unfold dicOf; simp only [hd])
  cases em
  cases (show xv = _ from rx)
  refine setItem_m (units8 hu) (key_of I rfl hk rk ry) h3 DM (fun h' o' es' g1 g2 g3 => ?_) (by rw [kv.length]; exact big_line' hz)
  have I' : L2.Inv X pins σ (L2.upd H a (exact o' a)) { s with heap := h', toks := s.toks + (dk k).draws } :=
    I.write (x := a) (e := a) (by rw [h1]; trivial) (.inl rfl) (fun b u hb e => (g3.2 b hb).trans e) ⟨_, g1⟩ (exact_ok g1)
  have ha : a ∈ ρ := List.mem_of_getElem? hn
  have hdat : o'.data = .dict es' (if (dget kvs k).isSome then ep else ep + 1) := by
    rw [g2.dat]
    rcases kv.get hk with ⟨e1, e2⟩ | ⟨d', u, w', e1, e2, _⟩ <;> (rw [e1, e2]; try rfl)
  obtain ⟨q1, q2⟩ := hF.setO (u := exact o' a) (fo := .dic (if (dget kvs k).isSome then ep else ep + 1) (dput kvs k e)) hn (fun u hu' hs => by
      rw [h1] at hu'
      cases hu'
      exact hs ha) (tabs_dic I.hok hF.tab h1 DM.dat) fun p => ⟨o', es', _, upd_same, h2, g2.ex, hdat, by rw [← hw]; exact g2.ent, g2.nd, (kv.put hk ry rk rz re).mono p⟩
  exact ⟨_, I', q _ _ q2 q1⟩
/-- {} -/
theorem dic_new {pos : Pos} : PE X (.Dict [] [] pos) fun σ H Q => ∀ a (o : Obj), H a = none → (a == sysModules) = false → o.ExactDict → o.data = .dict #[] 0 → Q (.ref a) (L2.upd H a (exact o a)) := ⟨fun pins s σ H Q I h =>
  wpAny_Dict_empty ⟨.ref s.heap.objs.size, _, I.laid (a := s.heap.objs.size) (o := exact _ s.heap.objs.size) (t' := s.toks) (fun _ _ q => Heap.get?_push_of_some _ q) (Nat.le_refl _) (exact_ok (Heap.get?_push_size _ rfl)), rfl,
    h _ _ (I.hok.fresh (Nat.le_refl _)) (beq_eq_false_iff_ne.mpr (Ne.symm (Nat.ne_of_lt I.big))) ⟨rfl, rfl, rfl⟩ rfl⟩⟩
theorem RH.newD {G : Gc} (h : RH G ρ H F) {a : Addr} {o : Obj} (hn : H a = none) (hs : (a == sysModules) = false) (hx : o.ExactDict) (hd : o.data = .dict #[] 0) : RH G (ρ ++ [a]) (L2.upd H a (exact o a)) (F ++ [.dic 0 []]) :=
  h.newO hn ⟨o, #[], [], upd_same, hs, hx, hd, rfl, List.nodup_nil, rfl⟩
end
end
end Fv
set_option Elab.async false
set_option linter.all false
set_option maxRecDepth 100000
set_option maxHeartbeats 1000000
/-! Fv: str of plain data. -/
namespace Fv
open PySem PySem.Spec PyProof.Rows L2
mutual
theorem toP_hd : ∀ d : D, (toP d).hasDict = false
  | .non => by simp [toP, PyData.hasDict]
  | .bl _ => by simp [toP, PyData.hasDict]
  | .int _ => by simp [toP, PyData.hasDict]
  | .str _ => by simp [toP, PyData.hasDict]
  | .tup ds => by simp [toP, PyData.hasDict, toPs_hd ds]
  | .ref _ => by simp [toP, PyData.hasDict]
  | .fn _ => by simp [toP, PyData.hasDict]
  | .frl _ => by simp [toP, PyData.hasDict]
theorem toPs_hd : ∀ ds : List D, PyData.hasDictAll (toPs ds) = false
  | [] => by simp [toPs, PyData.hasDictAll]
  | d :: r => by simp [toPs, PyData.hasDictAll, toP_hd d, toPs_hd r]
end
section
variable {X : Cx} {T : Tb} {W : WX} {σ0 : L2.St}
theorem strOk_of {d : D} (h : strOk d = true) : D.pl d = true ∧ D.le d 40 = true ∧ (toP d).showable = true ∧ (toP d).shown.length ≤ 16777216 ∧ sok (toP d).shown = true := by
  unfold strOk at h
  simp only [Bool.and_eq_true, decide_eq_true_eq] at h
  exact h
theorem call_str (hg : X.A.guards = some []) (hu : X.A.units + 64 < cLine) : CallR X (.type "str") fun xs H Q => ∃ ρ F d, RH (gc X T) ρ H F ∧ RDs (gc X T) ρ H [d] xs ∧ strOk d = true ∧ (∀ x, d ≠ .str x) ∧ Q (.str (toP d).shown) H := by
  intro pins s σ H xs us Q I r h
  obtain ⟨ρ, F, d, hF, hd, hk, hns, q⟩ := h
  obtain ⟨v, rr, rfl, hv, hrr⟩ := hd
  cases (show rr = [] from hrr)
  obtain ⟨u, rfl, ru⟩ := vals1 r
  obtain ⟨h1, h2, h3, h4, h5⟩ := strOk_of hk
  cases d with
  | non =>
    cases (show v = _ from hv)
    cases (show u = Value.none from ru)
    exact PySem.P.str_of_none ⟨.str _, H, I.tok _, ⟨_, rfl⟩, q⟩
  | bl b =>
    cases (show v = _ from hv)
    cases (show u = Value.bool b from ru)
    refine PySem.P.str_of_bool ⟨.str _, H, I.tok _, ⟨_, rfl⟩, ?_⟩
    have e : (toP (.bl b)).shown = (if b then ("True" : Str) else "False") := by simp [toP, PyData.shown]
    rw [← e]
    exact q
  | int i =>
    cases (show v = _ from hv)
    obtain ⟨t, rfl⟩ := ru
    refine PySem.P.str_of_int (by simpa [toP, PyData.showable] using h3) ⟨.str _, H, I.tok _, ⟨_, rfl⟩, ?_⟩
    have e : (toP (.int i)).shown = ((toString i : String) : Str) := by simp [toP, PyData.shown]
    rw [← e]
    exact q
  | tup ds =>
    obtain ⟨as, rd⟩ := Dp.reads I (toP (.tup ds)) v u (RD.dp (G := gc X T) (.tup ds) v h1 hv) ru
    obtain ⟨a, vs, rfl, _⟩ := hv
    cases (show u = Value.ref a from ru)
    have hdp : (toP (.tup ds)).depth ≤ 40 := toP_depth _ _ h2
    have hz : (toP (.tup ds)).shown.length ≤ sizeLine := h4
    exact str_of_reads rd h3 (PyData.noDict_hsm (toP_hd _)) hg (by omega) (fun _ _ e => e) (fun h' u tk hk => ⟨.str _, H, I.kept hk, ⟨_, rfl⟩, q⟩) hz
  | str x =>
    cases (show v = _ ∧ _ from hv).1
    obtain ⟨t, rfl⟩ := ru
    exact False.elim (hns x rfl)
  | ref _ => cases h1
  | fn _ => cases h1
  | frl _ => cases h1
end
end Fv
set_option Elab.async false
set_option linter.all false
set_option maxRecDepth 100000
set_option maxHeartbeats 1000000
/-! Fv, 7: truth, built-ins, subscripts, methods. -/
namespace Fv
open PySem PySem.Spec PyProof.Rows L2
section
variable {X : Cx} {T : Tb} {W : WX} {σ0 : L2.St}
theorem emp_of {G : Gc} {ρ : List Addr} {H : Hp} {ds : List D} {vs : List V} (h : RDs G ρ H ds vs) : ds.isEmpty = vs.isEmpty := by
  have := h.length
  cases ds <;> cases vs <;> simp_all
theorem truv {G : Gc} {ρ : List Addr} {H : Hp} {F : FH} {d : D} {v : V} {k : Bool} (hF : RH G ρ H F) (r : RD G ρ H d v) (h : truth F d = some k) : TruV G.K v H k := by
  have ls : lis F d = none → True := fun _ => trivial
  cases d with
  | non => cases (show v = _ from r); cases h; rfl
  | bl b => cases (show v = _ from r); cases h; rfl
  | int i => cases (show v = _ from r); cases h; rfl
  | str x =>
    cases r.1
    have h' : (if x.length ≤ 16777216 then some ((x.length : Int) != 0) else none) = some k := h
    split at h'
    · rename_i hz
      cases h'
      exact ⟨by rw [sizeLine_eq]; exact hz, rfl⟩
    · cases h'
  | tup ds =>
    obtain ⟨a, vs, rfl, h1, h2⟩ := r
    cases h
    exact .inr (.inl ⟨vs, h1, by rw [emp_of h2]⟩)
  | fn x => cases h
  | ref n =>
    have h' : (lis F (.ref n)).map (fun ds => !ds.isEmpty) = some k := h
    cases e : lis F (.ref n) with
    | none => rw [e] at h'; cases h'
    | some ds =>
      rw [e] at h'
      cases h'
      obtain ⟨a, vs, rfl, h1, h2⟩ := r.lis hF e
      exact .inl ⟨vs, h1, by show (!ds.isEmpty) = _; rw [emp_of h2]⟩
  | frl es =>
    have h' : (lis F (.frl es)).map (fun ds => !ds.isEmpty) = some k := h
    cases e : lis F (.frl es) with
    | none => rw [e] at h'; cases h'
    | some ds =>
      rw [e] at h'
      cases h'
      obtain ⟨a, vs, rfl, h1, h2⟩ := r.lis hF e
      exact .inl ⟨vs, h1, by show (!ds.isEmpty) = _; rw [emp_of h2]⟩
theorem tru_run {pins : List (Addr × Obj)} {s : Shared} {σ : L2.St} {ρ : List Addr} {H : Hp} {F : FH} {d : D} {x : V} {v : Value} {Q : Bool → Hp → Prop} {k : Bool} (I : L2.Inv X pins σ H s) (hF : RH (gc X T) ρ H F) (r : RD (gc X T) ρ H d x) (rx : RelV x v) (h : truth F d = some k) (q : Q k H) :
    wpAny (model X.prog X.w) X.A (truthy v) (TP X pins σ Q) X.xe s := tru_ok pins s σ H x v Q I rx ⟨k, truv hF r h, q⟩
/-! ### isinstance -/
theorem tyx_list {G : Gc} {H : Hp} {a : Addr} {vs : List V} (h : SqL G.K H a vs) : TyX G.K H (.ref a) (.type "list") := by
  rcases h with (h | ⟨o, h⟩) | ⟨o, its, n, h1, h2, _⟩
  · exact .base (.lst h)
  · exact .base (.frz h)
  · exact .kList h1 h2
theorem tyx_tup {G : Gc} {H : Hp} {a : Addr} {vs : List V} (h : SqT G.K H a vs) : TyX G.K H (.ref a) (.type "tuple") := by
  rcases h with (h | ⟨o, h⟩) | ⟨o, its, n, h1, h2, _⟩
  · exact .base (.tup h)
  · exact .fTuple h
  · exact .kTuple h1 h2
def tyN : D → String
  | .non => "NoneType" | .bl _ => "bool" | .int _ => "int" | .str _ => "str" | .tup _ => "tuple" | _ => "list"
theorem typOk_of {G : Gc} {ρ : List Addr} {H : Hp} {F : FH} {d : D} {v : V} {k : Bool} {t : String} (hF : RH G ρ H F) (r : RD G ρ H d v) (h : typOk t d F = some k) (ht : isiT t = true) : ∃ ty, TyX G.K H v (.type ty) ∧ kitB ty t = some k := by
  have ht' : t = "int" ∨ t = "bool" ∨ t = "str" ∨ t = "tuple" ∨ t = "list" := by
    unfold isiT at ht
    simp only [Bool.or_eq_true, beq_iff_eq] at ht
    rcases ht with (((h | h) | h) | h) | h
    · exact .inl h
    · exact .inr (.inl h)
    · exact .inr (.inr (.inl h))
    · exact .inr (.inr (.inr (.inl h)))
    · exact .inr (.inr (.inr (.inr h)))
  have lst : ∀ {ds : List D}, lis F d = some ds → some (t == "list") = some k → ∃ ty, TyX G.K H v (.type ty) ∧ kitB ty t = some k := by
    intro ds e h
    obtain ⟨a, vs, rfl, h1, h2⟩ := r.lis hF e
    refine ⟨"list", tyx_list h1, ?_⟩
    rw [← h]
    rcases ht' with rfl | rfl | rfl | rfl | rfl <;> decide +kernel
  cases d with
  | non =>
    cases (show v = _ from r)
    refine ⟨"NoneType", .base .non, ?_⟩
    rw [← (show some false = some k from h)]
    rcases ht' with rfl | rfl | rfl | rfl | rfl <;> decide +kernel
  | bl b =>
    cases (show v = _ from r)
    refine ⟨"bool", .base (.bl b), ?_⟩
    rw [← (show some (t == "bool" || t == "int") = some k from h)]
    rcases ht' with rfl | rfl | rfl | rfl | rfl <;> decide +kernel
  | int b =>
    cases (show v = _ from r)
    refine ⟨"int", .base (.int b), ?_⟩
    rw [← (show some (t == "int") = some k from h)]
    rcases ht' with rfl | rfl | rfl | rfl | rfl <;> decide +kernel
  | str b =>
    cases r.1
    refine ⟨"str", .base (.str b), ?_⟩
    rw [← (show some (t == "str") = some k from h)]
    rcases ht' with rfl | rfl | rfl | rfl | rfl <;> decide +kernel
  | tup ds =>
    obtain ⟨a, vs, rfl, h1, h2⟩ := r
    refine ⟨"tuple", tyx_tup h1, ?_⟩
    rw [← (show some (t == "tuple") = some k from h)]
    rcases ht' with rfl | rfl | rfl | rfl | rfl <;> decide +kernel
  | fn x => cases h
  | ref n =>
    have h' : (lis F (.ref n)).map (fun _ => t == "list") = some k := h
    cases e : lis F (.ref n) with
    | none => rw [e] at h'; cases h'
    | some ds => exact lst e (by rw [e] at h'; exact h')
  | frl es =>
    have h' : (lis F (.frl es)).map (fun _ => t == "list") = some k := h
    cases e : lis F (.frl es) with
    | none => rw [e] at h'; cases h'
    | some ds => exact lst e (by rw [e] at h'; exact h')
/-- a call of a built-in, by data -/
def rBi (G : Gc) (W : WX) (σ0 : L2.St) (b : Bi) : List V → Hp → VK → Prop := fun xs H Q => ∃ ρ F ds, RH G ρ H F ∧ RDs G ρ H ds xs ∧ Sat G ρ H W σ0 (biop b ds F) fun d ρ' H' _ => ∀ v, RD G ρ' H' d v → Q v H'
def Bi.val : Bi → Value
  | .tuple => .type "tuple" | .list => .type "list" | .int => .type "int" | .str => .type "str"
  | .len => .builtin "len" | .max => .builtin "max" | .min => .builtin "min" | _ => .builtin "sorted"
theorem RDs.one {G : Gc} {ρ : List Addr} {H : Hp} {d : D} {xs : List V} (h : RDs G ρ H [d] xs) : ∃ v, xs = [v] ∧ RD G ρ H d v := by
  obtain ⟨v, r, rfl, h1, h2⟩ := h
  cases (show r = [] from h2)
  exact ⟨v, rfl, h1⟩
theorem RDs.two {G : Gc} {ρ : List Addr} {H : Hp} {d e : D} {xs : List V} (h : RDs G ρ H [d, e] xs) : ∃ v u, xs = [v, u] ∧ RD G ρ H d v ∧ RD G ρ H e u := by
  obtain ⟨v, r, rfl, h1, h2⟩ := h
  obtain ⟨u, rfl, h3⟩ := RDs.one h2
  exact ⟨v, u, rfl, h1, h3⟩
theorem call_bi (hc : X.calm = true) (hgd : X.A.guards = some []) (hu : X.A.units + 64 < cLine) (b : Bi) (hb : biOk b = true) : CallR X b.val (rBi (gc X T) W σ0 b) := by
  intro pins s σ H xs us Q I r h
  obtain ⟨ρ, F, ds, hF, hd, hs⟩ := h
  unfold biop at hs
  split at hs
  · obtain ⟨v, rfl, h1, _⟩ := hd.one
    subst h1
    split at hs
    · rename_i hz
      exact call_len_str pins s σ H _ us Q I r ⟨_, rfl, big_line hz, hs.here hF _ rfl⟩
    · exact False.elim hs
  · obtain ⟨v, rfl, h1⟩ := hd.one
    split at hs
    · rename_i es e
      obtain ⟨a, vs, rfl, h2, h3⟩ := h1.items hF e
      exact call_len_seq pins s σ H _ us Q I r ⟨a, vs, rfl, h2, hs.here hF _ (by rw [h3.length]; rfl)⟩
    · exact False.elim hs
  · obtain ⟨v, rfl, h1⟩ := hd.one
    split at hs
    · rename_i es e
      obtain ⟨a, vs, rfl, h2, h3⟩ := h1.items hF e
      have k := sat_tup hF h3 hs
      exact call_tuple_of pins s σ H _ us Q I r ⟨a, vs, rfl, h2.elim (fun h => .inl ⟨h, k.1⟩) fun h => .inr ⟨h, k.2 a h⟩⟩
    · exact False.elim hs
  · obtain ⟨v, rfl, h1⟩ := hd.one
    split at hs
    · rename_i es e
      obtain ⟨a, vs, rfl, h2, h3⟩ := h1.items hF e
      exact call_list_of pins s σ H _ us Q I r ⟨a, vs, rfl, h2, (sat_newL hF h3 hs).2⟩
    · exact False.elim hs
  · obtain ⟨v, rfl, h1⟩ := hd.one
    cases (show v = _ from h1)
    exact call_int1 pins s σ H _ us Q I r (.inl ⟨_, rfl, hs.here hF _ rfl⟩)
  · obtain ⟨v, rfl, h1⟩ := hd.one
    cases (show v = _ from h1)
    exact call_int1 pins s σ H _ us Q I r (.inr ⟨_, rfl, hs.here hF _ rfl⟩)
  · obtain ⟨v, u, rfl, h1, h2⟩ := hd.two
    cases (show v = _ from h1)
    cases (show u = _ from h2)
    exact call_max2 hc pins s σ H _ us Q I r ⟨_, _, rfl, hs.here hF _ rfl⟩
  · obtain ⟨v, u, rfl, h1, h2⟩ := hd.two
    cases (show v = _ from h1)
    cases (show u = _ from h2)
    exact call_min2 hc pins s σ H _ us Q I r ⟨_, _, rfl, hs.here hF _ rfl⟩
  · cases hb
  · cases hb
  · obtain ⟨v, rfl, h1, h2⟩ := hd.one
    subst h1
    exact SkE.call_str_str pins s σ H _ us Q I r ⟨_, rfl, hs.here hF _ ⟨rfl, h2⟩⟩
  · rename_i hns
    split at hs
    · rename_i hk
      exact call_str hgd hu pins s σ H _ us Q I r ⟨_, _, _, hF, hd, hk, hns, hs.here hF _ ⟨rfl, (strOk_of hk).2.2.2.2⟩⟩
    · exact False.elim hs
  · exact False.elim hs
/-! ### subscripts -/
def rIdx (G : Gc) (W : WX) (σ0 : L2.St) : R2 := fun x y H Q => ∃ ρ F a b, RH G ρ H F ∧ RD G ρ H a x ∧ RD G ρ H b y ∧ Sat G ρ H W σ0 (idxop a b F) fun d ρ' H' _ => ∀ v, RD G ρ' H' d v → Q v H'
theorem ix_idx (hu : X.A.units + 64 < cLine) (hw : X.w = T.w) : IxR X (rIdx (gc X T) W σ0) := by
  intro value slice pins s σ H x y v u Q I rx ry h hsub
  obtain ⟨ρ, F, a, b, hF, ha, hb, hs⟩ := h
  unfold idxop at hs
  split at hs
  · rename_i p ep
    split at hs
    · rename_i hk
      obtain ⟨d, e1, q⟩ := lift_ok hs hF
      exact dic_idx I hu hw hF ha hb rx ry ep hk e1 (fun v r => q v r) hsub
    · exact False.elim hs
  unfold idxL at hs
  split at hs
  · cases (show y = _ from hb)
    split at hs
    · rename_i ds e
      obtain ⟨p, vs, rfl, h1, h2⟩ := ha.items hF e
      split at hs
      · rename_i k ek
        obtain ⟨d, e1, q⟩ := lift_ok hs hF
        obtain ⟨w, e2, r⟩ := h2.get e1
        have at' : ∀ j, at_ ds.length j = some k → atI vs j = some w := fun j ek => by
          unfold atI
          rw [← h2.length, show ixN ds.length j = some k from ek]
          exact e2
        have at' := at' _ ek
        rcases h1 with h1 | h1
        · exact ix_seq value slice pins s σ H _ _ v u Q I rx ry (.inl ⟨p, vs, _, w, rfl, rfl, h1, at', q w r⟩) hsub
        · exact ix_seq value slice pins s σ H _ _ v u Q I rx ry (.inr (.inl ⟨p, vs, _, w, rfl, rfl, h1, at', q w r⟩)) hsub
      · exact False.elim hs
    · exact False.elim hs
  · exact False.elim hs
theorem RDs.cut {G : Gc} {ρ : List Addr} {H : Hp} {ds : List D} {vs : List V} (h : RDs G ρ H ds vs) (lo hi : Option Int) : RDs G ρ H (cut ds lo hi) (cutV vs lo hi) := by
  unfold Fv.cut cutV
  rw [h.length]
  exact (h.drop _).take _
def rSlc (G : Gc) (W : WX) (σ0 : L2.St) : V → Option Int → Option Int → Hp → VK → Prop := fun x lo hi H Q => ∃ ρ F a, RH G ρ H F ∧ RD G ρ H a x ∧ Sat G ρ H W σ0 (slc1 a lo hi F) fun d ρ' H' _ => ∀ v, RD G ρ' H' d v → Q v H'
theorem cut_whole {α : Type} {xs : List α} {lo hi : Option Int} (h : HT.sIx xs.length 0 lo = 0 ∧ HT.sIx xs.length xs.length hi = xs.length) : cut xs lo hi = xs := by
  unfold cut
  rw [h.1, h.2]
  simp
theorem sl_slc : SlR X (rSlc (gc X T) W σ0) := by
  intro pins s σ H x v vl vu lo hi sl Q I rx hs pl pu h
  obtain ⟨ρ, F, a, hF, ha, h⟩ := h
  unfold slc1 at h
  split at h
  · obtain ⟨p, vs, rfl, h1, h2⟩ := ha
    have k := sat_tup hF (h2.cut lo hi) h
    refine sl_tupA pins s σ H _ v vl vu lo hi sl Q I rx hs pl pu ⟨p, vs, rfl, h1, fun hw => k.2 p ?_, fun _ => k.1⟩
    rw [show cutV vs lo hi = vs from cut_whole hw]
    exact h1
  · obtain ⟨rfl, h1⟩ := ha
    split at h
    · rename_i hz
      refine sl_str pins s σ H _ v vl vu lo hi sl Q I rx hs pl pu ⟨_, rfl, big_line hz, h.here hF _ ⟨?_, ?_⟩⟩
      · unfold cutS cut
        simp [Str.length]
      · unfold sok at h1 ⊢
        simp only [Array.all_eq_true'] at h1 ⊢
        intro c hc
        refine h1 c ?_
        have hc' := List.mem_toArray.mp hc
        exact Array.mem_toList_iff.mp (List.mem_of_mem_drop (List.mem_of_mem_take hc'))
    · exact False.elim h
  · split at h
    · rename_i ds e
      obtain ⟨p, vs, rfl, h1, h2⟩ := ha.lis hF e
      exact sl_list pins s σ H _ v vl vu lo hi sl Q I rx hs pl pu ⟨p, vs, rfl, h1, (sat_newL hF (h2.cut lo hi) h).2⟩
    · exact False.elim h
/-! ### writes -/
/-- what stands at a mutable's address is changed -/
theorem RH.setL {G : Gc} {ρ : List Addr} {H : Hp} {F : FH} (h : RH G ρ H F) {n : Nat} {a : Addr} {es : List D} {us vs : List V} (e : ρ[n]? = some a) (hn : H a = some (.lst us)) (r : RDs G ρ H es vs) : RH G ρ (L2.upd H a (.lst vs)) (F.set n (.lst es)) ∧ Post ρ H ρ (L2.upd H a (.lst vs)) := by
  refine h.setO e (fun o hb hs => ?_) (fun q hq => ?_) fun p => ⟨vs, upd_same, RDs.mono p _ _ r⟩
  · rw [hn] at hb
    cases hb
    exact hs (List.mem_of_getElem? e)
  · have key : ∀ b o, H b = some o → (∀ ws, o ≠ .lst ws) → L2.upd H a (.lst vs) b = some o := fun b o hb ho => by
      have hba : b ≠ a := fun z => by
        subst z
        rw [hn] at hb
        exact ho us (Option.some.inj hb).symm
      rw [upd_ne hba]
      exact hb
    obtain ⟨ps, h1, h2, h3⟩ := h.tab q hq
    refine ⟨ps, key _ _ h1 (fun ws z => by cases z), h2, fun pos cv hc => ?_⟩
    obtain ⟨c, e1, e2⟩ := h3 pos cv hc
    exact ⟨c, e1, key _ _ e2 fun ws z => by unfold LamX.CodeO at z; cases z⟩
theorem seqIdx {n : Nat} {i : Int} {k : Nat} (h : at_ n i = some k) (hn : n ≤ sizeLine) : -(2 ^ 63) ≤ i ∧ i < 2 ^ 63 ∧ seqIndex? i n = some k := by
  obtain ⟨h1, h2, h3, h4⟩ := ixN_seq h
  have := sizeLine_eq
  exact ⟨by omega, by omega, h1⟩
theorem Inv.lstLen {pins : List (Addr × Obj)} {s : Shared} {σ : L2.St} {H : Hp} {a : Addr} {vs : List V} (I : L2.Inv X pins σ H s) (h : H a = some (.lst vs)) : vs.length ≤ sizeLine := (I.lstM h).1
def Mt.id : Mt → String
  | .append => "list.append" | .extend => "list.extend" | .pop => "list.pop" | .index => "list.index" | .get => "dict.get"
def rMt (G : Gc) (W : WX) (σ0 : L2.St) (m : Mt) : V → List V → Hp → VK → Prop := fun x xs H Q => ∃ ρ F o ds, RH G ρ H F ∧ RD G ρ H o x ∧ RDs G ρ H ds xs ∧ Sat G ρ H W σ0 (methop m o ds F) fun d ρ' H' _ => ∀ v, RD G ρ' H' d v → Q v H'
theorem mt_all (hu : X.A.units + 64 < cLine) (hw : X.w = T.w) (m : Mt) : MtR X m.id (rMt (gc X T) W σ0 m) := by
  intro pins s σ H x xs v us Q I rx rxs h
  obtain ⟨ρ, F, o, ds, hF, ho, hd, hs⟩ := h
  unfold methop at hs
  split at hs
  · split at hs
    · rename_i e
      split at hs
      · rename_i hz
        obtain ⟨a, rfl, hn⟩ := ho
        obtain ⟨y, rfl, h1⟩ := hd.one
        obtain ⟨vs, k1, k2⟩ := hF.lst hn e
        have k3 : RDs (gc X T) ρ H _ (vs ++ [y]) := k2.append hd
        obtain ⟨q1, q2⟩ := hF.setL hn k1 k3
        refine mt_append pins s σ H _ _ v us Q I rx rxs ⟨a, vs, y, rfl, rfl, k1, ?_, hs _ _ q2 q1 _ rfl⟩
        have := big_line hz
        rw [← k2.length]
        omega
      · exact False.elim hs
    · exact False.elim hs
  · split at hs
    · rename_i e1 e2
      split at hs
      · rename_i hz
        obtain ⟨a, rfl, hn⟩ := ho
        obtain ⟨y, rfl, b, rfl, hm⟩ := hd.one
        obtain ⟨vs, k1, k2⟩ := hF.lst hn e1
        obtain ⟨ws, k3, k4⟩ := hF.lst hm e2
        obtain ⟨q1, q2⟩ := hF.setL hn k1 (k2.append k4)
        refine mt_extend pins s σ H _ _ v us Q I rx rxs ⟨a, b, vs, ws, rfl, rfl, k1, k3, ?_, hs _ _ q2 q1 _ rfl⟩
        have := big_line hz
        rw [← k2.length, ← k4.length]
        exact this
      · exact False.elim hs
    · exact False.elim hs
  · split at hs
    · rename_i e1
      split at hs
      · rename_i k ek
        split at hs
        · rename_i d ed
          obtain ⟨a, rfl, hn⟩ := ho
          obtain ⟨y, rfl, hy⟩ := hd.one
          cases (show y = _ from hy)
          obtain ⟨vs, k1, k2⟩ := hF.lst hn e1
          obtain ⟨w, ew, rw'⟩ := k2.get ed
          obtain ⟨q1, q2⟩ := hF.setL hn k1 (k2.erase k)
          rw [k2.length] at ek
          obtain ⟨i1, i2, i3⟩ := seqIdx ek (Inv.lstLen I k1)
          exact mt_popAt pins s σ H _ _ v us Q I rx rxs ⟨a, vs, _, k, w, rfl, rfl, k1, i1, i2, i3, ew, hs _ _ q2 q1 _ (RD.mono q2 _ _ rw')⟩
        · exact False.elim hs
      · exact False.elim hs
    · exact False.elim hs
  · split at hs
    · rename_i p ep
      split at hs
      · rename_i hk
        obtain ⟨y, z, rfl, hy, hz⟩ := hd.two
        cases rxs with
        | cons r1 rr =>
          cases rr with
          | cons r2 rr =>
            cases rr
            exact dic_get I hu hw hF ho hy rx r1 ep hk r2 hz fun v r => hs _ _ (Post.refl _ _) hF v r
      · exact False.elim hs
    · exact False.elim hs
  · exact False.elim hs
/-- o[i] = v -/
def rSet (G : Gc) (W : WX) (σ0 : L2.St) : V → V → V → Hp → (Hp → Prop) → Prop := fun x y z H Q => ∃ ρ F o i v F', RH G ρ H F ∧ RD G ρ H o x ∧ RD G ρ H i y ∧ RD G ρ H v z ∧ setIop o i v F = some F' ∧ ∀ ρ' H', Post ρ H ρ' H' → RH G ρ' H' F' → Q H'
theorem set_old {pins : List (Addr × Obj)} {s : Shared} {σ : L2.St} {ρ : List Addr} {H : Hp} {F F' : FH} {o i d : D} {x y z : V} {xv yv zv : Value} {Q : Hp → Prop} (I : L2.Inv X pins σ H s) (rx : RelV x xv) (ry : RelV y yv) (rz : RelV z zv) (hF : RH (gc X T) ρ H F) (ho : RD (gc X T) ρ H o x) (hi : RD (gc X T) ρ H i y) (hd : RD (gc X T) ρ H d z)
    (e : setL o i d F = some F') (q : ∀ ρ' H', Post ρ H ρ' H' → RH (gc X T) ρ' H' F' → Q H') : wpAny (model X.prog X.w) X.A (setItem xv yv zv) (fun _ s' => ∃ H', L2.Inv X pins σ H' s' ∧ Q H') X.xe s := by
  unfold setL at e
  split at e
  · split at e
    · rename_i e1
      obtain ⟨a, rfl, hn⟩ := ho
      cases (show y = _ from hi)
      obtain ⟨vs, k1, k2⟩ := hF.lst hn e1
      cases ek : at_ (List.length _) _ with
      | none => rw [ek] at e; cases e
      | some k =>
        rw [ek] at e
        cases e
        obtain ⟨q1, q2⟩ := hF.setL hn k1 (k2.set hd k)
        rw [k2.length] at ek
        exact set_list pins s σ H _ _ _ xv yv zv Q I rx ry rz ⟨a, vs, _, k, rfl, rfl, k1, ek, q _ _ q2 q1⟩
    · cases e
  · cases e
theorem set_all (hu : X.A.units + 64 < cLine) (hw : X.w = T.w) : PSet X (rSet (gc X T) W σ0) := by
  intro pins s σ H x y z xv yv zv Q I rx ry rz h
  obtain ⟨ρ, F, o, i, d, F', hF, ho, hi, hd, e, q⟩ := h
  unfold setIop at e
  split at e
  · split at e
    · rename_i ef
      split at e
      · rename_i hb
        cases e
        obtain ⟨b1, b2⟩ := two hb
        exact dic_set I hu hw hF ho hi hd rx ry rz ef b1 b2 q
      · cases e
    · exact set_old I rx ry rz hF ho hi hd e q
  · exact set_old I rx ry rz hF ho hi hd e q
end
end Fv
set_option Elab.async false
set_option linter.all false
set_option maxRecDepth 100000
set_option maxHeartbeats 1000000
/-! Fv, 31: room and no repr under way; a def's promise where it is so. -/
namespace Fv
open PySem PySem.Spec PyProof.Rows L2
structure RmG (k : Nat) (A : Around) : Prop where
  r : Room k A
  g : A.guards = some []
theorem guards_deeper {A : Around} {env : Env} (h : A.guards = some []) : (A.deeper env).guards = some [] := by
  first
    | exact h
    | (unfold Around.deeper; exact h)
    | simpa [Around.deeper] using h
theorem RmG.deeper {k : Nat} {A : Around} (r : RmG (k + 1) A) (env : Env) : RmG k (A.deeper env) := ⟨r.r.deeper env, guards_deeper r.g⟩
theorem RmG.depth {k : Nat} {A : Around} (r : RmG k A) : A.depth < recursionLimit := r.r.depth
theorem RmG.units {k : Nat} {A : Around} (r : RmG k A) : A.units + 64 < cLine := r.r.units
theorem RmG.hd {k : Nat} {A : Around} (r : RmG k A) : A.handled = none := r.r.hd
structure FnG (P : Program) (w : World) (K : PySem.W.Frag) (mg : Str → Option Value) (base : Heap) (CX : CXT) (k : Nat) (f : Addr) (fd : FuncData) (ps : List Str) (sp : Sp) : Prop where
  len : ∀ vs H Q E, sp vs H Q E → vs.length = ps.length
  run : ∀ (A : Around) (outer : List Env) (s : Shared) (H : Hp) (args : Args) (us : List Value) (vs : List V) (Q : VK) (E : XK), RmG k A → Env0 P w K mg base A outer s H → BindsTo s fd args (ps.zip us) → Vals vs us → sp vs H Q E →
    codeAny (model P w) A (.call (.ref f) args) (CR CX outer P w H s Q E) s
theorem fng_of {CX : CXT} {P : Program} {w : World} {K : PySem.W.Frag} {mg : Str → Option Value} {base : Heap} {k : Nat} {f : Addr} {name qual : Str} {params : Arguments} {body : List Stmt} {scope : Scope} {dV kV doc pm cdv ct oc : Value} {an od : Option Addr}
    {osl : Array (Option Value)} {N ps : List Str} {sp : Sp} (lk : K.lookup f = some ⟨oc, od, .func (PySem.W.fnOf name qual params body scope dV kV doc pm an cdv ct), osl⟩) (hcd : PySem.W.codeIn K cdv qual = true) (S : FnScope N ps scope)
    (len : ∀ vs H Q E, sp vs H Q E → vs.length = ps.length)
    (hbody : ∀ (A : Around) (outer : List Env) (s : Shared) (H : Hp) (vs : List V) (Q : VK) (E : XK), RmG k (A.deeper (envOfC qual scope s.heap.objs.size f cdv)) → sp vs H Q E →
      ∃ t, PSs (cxOf CX P w K mg base N qual scope f cdv A outer s H E) body t ∧ t { nx := fun _ H' => Q .non H', rt := Q } (start N vs) H) :
    FnG P w K mg base CX (k + 1) f (PySem.W.fnOf name qual params body scope dV kV doc pm an cdv ct) ps sp :=
  ⟨len, fun A outer s H args us vs Q E hr e0 hb r hsp => by
    have KX : K.In s.heap := e0.mod.kin.keeps fun b o e => (e0.bs b o e).1
    have kinds : ∀ y ∈ ps.zip us, scope.names.lookup y.1 = some .local ∨ (scope.names.lookup y.1 = some .cell ∧ ((cellsFrom (s.heap.objs.size + 1) scope.names []).lookup y.1).isSome = true) := fun y hy =>
      (S.par y.1 (List.of_mem_zip (show (y.1, y.2) ∈ ps.zip us from hy)).1).imp id fun q => ⟨q, PySem.W.cellsFrom_some _ _ _ (.inl q)⟩
    refine codeAny_call_function hr.depth (KX _ _ lk) rfl S.co S.gen rfl (PySem.W.codeRec_of KX hcd) (hb _ _ _ _ (wpAny_newFunctionEnv_cells S.kind kinds fun env he s1 x => ?_))
    cases he
    refine ⟨(e0.mod.nolimit.keeps fun b o e => (e0.bs b o e).1).keeps x.toInCall.keep, codeAny_func ?_⟩
    obtain ⟨t, ht, hq⟩ := hbody A outer s H vs Q E (hr.deeper _) hsp
    refine wpAny_mono (ht.run [] s1 (start N vs) H _ (inv_start S hr.hd e0 (len _ _ _ _ hsp) r x) hq) (fun fl s' hs => ?_) fun e s' hs => hs
    cases fl with
    | ret u =>
      obtain ⟨v, σ', H', J, rv, q⟩ := hs
      exact ⟨v, H', J.os, J.bare, J.base, J.hok, rv, q⟩
    | next =>
      obtain ⟨σ', H', J, q⟩ := hs
      exact ⟨.non, H', J.os, J.bare, J.base, J.hok, rfl, q⟩
    | brk => exact hs.elim fun _ z => z.elim fun _ z => False.elim z.2
    | cont => exact hs.elim fun _ z => z.elim fun _ z => False.elim z.2⟩
end Fv
set_option Elab.async false
set_option linter.all false
set_option maxRecDepth 100000
set_option maxHeartbeats 1000000
/-! Fv: sorted by the key of places. -/
namespace Fv
open PySem PySem.Spec PyProof.Rows L2
/-- a place's key as data -/
def keyP (d : D) : PyData := .tuple [.int (keyOf d).1, .int (keyOf d).2]
/-- what the key's def does where it is called: all that was there stays -/
def KeyR (P : Program) (w : World) (K : PySem.W.Frag) (fa : Addr) : Prop := ∀ (A : Around) (s : Shared) (v : Value) (d : D), A.depth < recursionLimit → K.In s.heap → s.heap.NoLimit → keyOkD d = true →
  (d = .non → v = .none) → (d ≠ .non → v ≠ .none ∧ Reads s.heap v (keyP d) []) → wpAny (model P w) A (call (.ref fa) [v]) (PySem.W.KeyPure (keyP d) s) (fun _ _ => False) s
section
variable {P : Program} {w : World} {K : PySem.W.Frag}
theorem key_call {fa : Addr} {name qual : Str} {params : Arguments} {scope : Scope} {dV kV doc pm cdv ct oc : Value} {an od : Option Addr} {osl : Array (Option Value)} {N : List Str} {t1 t2 t3 t4 t5 : Pos} {k1 k2 k3 : Nat} {p1 p2 p3 p4 p5 p6 : Pos} {cx : Nat}
    (lk : K.lookup fa = some ⟨oc, od, .func (PySem.W.fnOf name qual params [.Return (some (.IfExp (.Compare (.Name "place" p1) [.Is] [.Constant .none k1 p2] p3) (.Tuple [.UnaryOp .USub (.Constant (.int 1) k2 t1) t2, .UnaryOp .USub (.Constant (.int 1) k3 t3) t4] cx t5) (.Name "place" p4) p5)) p6] scope dV kV doc pm an cdv ct), osl⟩)
    (hcd : PySem.W.codeIn K cdv qual = true) (S : FnScope N ["place"] scope)
    (hb : ∀ (s : Shared) (u : Value), BindsTo s (PySem.W.fnOf name qual params [.Return (some (.IfExp (.Compare (.Name "place" p1) [.Is] [.Constant .none k1 p2] p3) (.Tuple [.UnaryOp .USub (.Constant (.int 1) k2 t1) t2, .UnaryOp .USub (.Constant (.int 1) k3 t3) t4] cx t5) (.Name "place" p4) p5)) p6] scope dV kV doc pm an cdv ct) ⟨[u], []⟩ [("place", u)]) :
    KeyR P w K fa := by
  intro A s v d hroom KX hlim hok hn ht
  have kinds : ∀ y ∈ [(("place" : Str), v)], scope.names.lookup y.1 = some .local ∨ (scope.names.lookup y.1 = some .cell ∧ ((cellsFrom (s.heap.objs.size + 1) scope.names []).lookup y.1).isSome = true) := fun y hy => by
    cases List.mem_singleton.mp hy
    exact (S.par "place" (by simp)).imp id fun q => ⟨q, PySem.W.cellsFrom_some _ _ _ (.inl q)⟩
  refine wpAny_call (codeAny_call_function hroom (KX _ _ lk) rfl S.co S.gen rfl (PySem.W.codeRec_of KX hcd) ((hb s v) _ _ _ _ (wpAny_newFunctionEnv_cells S.kind kinds fun env he s1 x => ⟨hlim.keeps x.toInCall.keep, codeAny_func ?_⟩)))
  -- the name
  have ld : ∀ (p : Pos) (s2 : Shared) (E : Value → Shared → Prop) (Q : Value → Shared → Prop), (∃ tk, s2 = { s1 with toks := tk }) → Q v s2 → wpAny (model P w) (A.deeper env) (eval (.Name "place" p) env) Q E s2 := by
    intro p s2 E Q ⟨tk, e⟩ q
    subst e
    have x' := x.tok tk
    subst he
    refine wpAny_Name ?_
    rcases (S.par "place" (by simp)) with hk | hk
    · exact PySem.ldLC x' S.kind hk (by simp [bindL, Env.kindOf, newEnv, hk]) q
    · have hs : ((cellsFrom (s.heap.objs.size + 1) scope.names []).lookup ("place" : Str)).isSome = true := PySem.W.cellsFrom_some _ _ _ (.inl hk)
      obtain ⟨c, hc⟩ := Option.isSome_iff_exists.mp hs
      exact PySem.ldCC x' S.kind hk hc (by simp [bindC, Env.kindOf, newEnv, hk]) q
  obtain ⟨h1, tk1, e1, hk1⟩ := x.done
  subst e1
  refine wpAny_execs_cons (wpAny_Return_some (IfExp_ ?_))
  refine wpAny_isTrue_Compare1 (ld p1 _ _ _ ⟨_, rfl⟩ (Constant_none (is_none_gen (wpAny_truthy_bool ?_)))) (by first | rfl | exact nobehind _ (by decide) (by decide))
  by_cases hd : d = .non
  · subst hd
    cases hn rfl
    show wpAny _ _ _ _ _ _
    refine wpAny_Tuple_spliced ?_
    refine Calls.spliced_cons (lit_neg _ fun v1 tk1 d1 => Calls.spliced_cons (lit_neg _ fun v2 tk2 d2 => Calls.spliced_nil ⟨by show (2 : Nat) ≤ sizeLine; decide, ?_⟩))
    obtain ⟨i1, rfl⟩ : ∃ t, v1 = .int (-1) t := by cases d1 h1 with | int _ t => exact ⟨t, rfl⟩
    obtain ⟨i2, rfl⟩ : ∃ t, v2 = .int (-1) t := by cases d2 h1 with | int _ t => exact ⟨t, rfl⟩
    refine ⟨_, _, rfl, fun b o e => Heap.get?_push_of_some _ (hk1 b o e), ?_⟩
    refine Reads.tuple (as := []) (Heap.get?_push_size _ rfl) rfl rfl ?_
    exact .cons (as := []) (bs := []) (.int _ _) (.cons (as := []) (bs := []) (.int _ _) .nil)
  · obtain ⟨hv, hr⟩ := ht hd
    have hv' : (v == Value.none) = false := by simpa using hv
    rw [hv']
    show wpAny _ _ _ _ _ _
    refine ld p4 _ _ _ ⟨_, rfl⟩ ⟨_, _, rfl, hk1, PyProof.Rows.Reads.keeps hk1 hr⟩
end
/-! ### the order -/
theorem dataLe_key {x y : D} : PySem.W.dataLe false keyP x y = leKey x y := by
  show (!PyProof.Rows.lexLt PyProof.Rows.itemOrd (PySem.W.keyToks (keyP y)) (PySem.W.keyToks (keyP x))) = leKey x y
  simp [keyP, PySem.W.keyToks, PySem.W.keyToksAll, PyProof.Rows.lexLt, leKey, PyProof.Rows.itemLt]
  by_cases h1 : (keyOf y).1 < (keyOf x).1
  · simp [h1]
  · by_cases h2 : (keyOf x).1 < (keyOf y).1
    · have h3 : ¬ (keyOf y).1 = (keyOf x).1 := by omega
      simp [h1, h2, h3]
    · have h3 : (keyOf y).1 = (keyOf x).1 := by omega
      simp [h1, h2, h3]
section
variable {X : Cx} {T : Tb} {W : WX} {σ0 : L2.St}
theorem keyP_alike (ds : List D) : PySem.W.AllAlike (ds.map keyP) := by
  intro d hd d' hd'
  obtain ⟨x, _, rfl⟩ := List.mem_map.mp hd
  obtain ⟨y, _, rfl⟩ := List.mem_map.mp hd'
  simp [keyP, PySem.W.alike, PySem.W.alikeAll]
theorem keyP_sortable (ds : List D) : PySem.W.Sortable (ds.map keyP) := .inl fun d hd => by
  obtain ⟨x, _, rfl⟩ := List.mem_map.mp hd
  exact ⟨_, _, rfl⟩
def RK (G : Gc) (ρ : List Addr) (H : Hp) (u : Value) (d : D) : Prop := ∃ v, RelV v u ∧ RD G ρ H d v
theorem each_of {G : Gc} {ρ : List Addr} {H : Hp} : ∀ {ds : List D} {vs : List V} {us : List Value}, RDs G ρ H ds vs → Vals vs us → PySem.W.EachIs (RK G ρ H) us ds
  | [], _, us, h, r => by
    cases (show _ = [] from h)
    cases r
    exact .nil
  | d :: ds, _, us, ⟨v, vs, e, h1, h2⟩, r => by
    subst e
    cases r with
    | cons a b => exact .cons ⟨v, a, h1⟩ (each_of h2 b)
theorem of_each {G : Gc} {ρ : List Addr} {H : Hp} : ∀ {ds : List D} {us : List Value}, PySem.W.EachIs (RK G ρ H) us ds → ∃ vs, Vals vs us ∧ RDs G ρ H ds vs
  | _, _, .nil => ⟨[], .nil, rfl⟩
  | _, _, .cons ⟨v, a, b⟩ h =>
    let ⟨vs, k1, k2⟩ := of_each h
    ⟨v :: vs, .cons a k1, v, vs, rfl, b, k2⟩
theorem keyOk_tup {d : D} (h : keyOkD d = true) (e : d ≠ .non) : ∃ i j, d = .tup [.int i, .int j] := by
  unfold keyOkD at h
  split at h
  · exact absurd rfl e
  · exact ⟨_, _, rfl⟩
  · cases h
theorem reads_two {h : Heap} {u : Value} {i j : Int} {as : List Addr} (r : Reads h u (.tuple [.int i, .int j]) as) : Reads h u (.tuple [.int i, .int j]) [] := by
  cases r with
  | @tuple a o vs n xs as h1 h2 h3 h4 =>
    refine Reads.tuple h1 h2 h3 ?_
    obtain ⟨vl, evl⟩ : ∃ l, l = vs.toList := ⟨_, rfl⟩
    rw [← evl] at h4 ⊢
    clear evl h1 h2 h3
    cases h4 with
    | cons a b =>
      cases a
      cases b with
      | cons a b =>
        cases a
        cases b
        exact .cons (as := []) (bs := []) (.int _ _) (.cons (as := []) (bs := []) (.int _ _) .nil)
def rSortK (G : Gc) (fa : Addr) : List V → List V → Hp → VK → Prop := fun xs zs H Q => ∃ ρ F d ds, RH G ρ H F ∧ RDs G ρ H [d] xs ∧ zs = [.ref fa] ∧ lis F d = some ds ∧ ds.all keyOkD = true ∧ (ds.mergeSort leKey).length ≤ sizeLine ∧
  ∀ p vs, H p = none → RDs G ρ H (ds.mergeSort leKey) vs → Q (.ref p) (L2.upd H p (.lst vs))
theorem cr_sortedK {fa : Addr} (kr : KeyR X.prog X.w X.K fa) (hu : X.A.units + 64 < cLine) (hd : X.A.depth < recursionLimit) : CallRK X (.builtin "sorted") [Str.ofString "key"] (rSortK (gc X T) fa) := by
  intro pins s σ H xs zs us ws Q I r rz h
  obtain ⟨ρ, F, d, ds, hF, hds, rfl, hl, hok, hz, q⟩ := h
  obtain ⟨v, rr, rfl, hv, hrr⟩ := hds
  cases (show rr = [] from hrr)
  obtain ⟨a, vs, rfl, hs, hvs⟩ := RD.lis hF hv hl
  obtain rfl := Vals.ref1 r
  obtain ⟨w1, rfl, e1⟩ := vals1 rz
  obtain rfl : w1 = Value.ref fa := e1
  obtain ⟨its, rv, hil, hsz⟩ := I.list hs
  have hlen : ds.length ≤ sizeLine := by rw [hvs.length]; exact hsz
  refine PySem.W.sorted_key_data (b := false) (bs := ds) (R := RK (gc X T) ρ H) keyP hil.isList (each_of hvs rv) (keyP_alike ds) (keyP_sortable ds) hlen (fun x _ => ?_) (PyProof.Rows.ksk_s1 _ _) (fun _ => PyProof.Rows.ksk_l1 _ _) (fun _ => PyProof.Rows.ksk_t1 _ _) (fun u x hR hx hp tk keep => ?_) fun out c h' tk keep fr hD ho hE => ?_
  · have : (keyP x).depth ≤ 3 := by simp [keyP, PyData.depth, PyData.depthAll]
    omega
  · obtain ⟨y, ry, dy⟩ := hR
    have hxk : keyOkD x = true := List.all_eq_true.mp hok x hx
    refine kr X.A.in1.in1 { s with heap := hp, toks := tk } u x hd (I.kIn.keeps keep) ((I.mod.nolimit.keeps I.bk).keeps keep) hxk (fun e => ?_) fun e => ?_
    · subst e
      cases (show y = V.non from dy)
      exact ry
    · obtain ⟨i, j, rfl⟩ : ∃ i j, x = .tup [.int i, .int j] := keyOk_tup hxk e
      have hpl : D.pl (.tup [.int i, .int j]) = true := by simp [D.pl, D.pls]
      obtain ⟨as, rd⟩ := Dp.reads I (toP (.tup [.int i, .int j])) y u (RD.dp (G := gc X T) _ y hpl dy) ry
      refine ⟨fun z => ?_, ?_⟩
      · subst z
        cases rd
      · have e' : toP (.tup [.int i, .int j]) = keyP (.tup [.int i, .int j]) := by simp [toP, toPs, keyP, keyOf]
        rw [e'] at rd
        exact PyProof.Rows.Reads.keeps keep (reads_two rd)
  · obtain ⟨os, k1, k2⟩ := of_each hE
    have e : ds.mergeSort (PySem.W.dataLe false keyP) = ds.mergeSort leKey := PySem.W.sort_congr fun _ _ _ _ => dataLe_key
    rw [e] at k2
    refine ⟨.ref _, L2.upd H (s.heap.objs.size + 1) (.lst os), I.laid (t' := tk) keep (Nat.le_succ _) ⟨?_, out, c, k1, hD⟩, rfl, q _ _ (I.hok.fresh (Nat.le_succ _)) k2⟩
    rw [← k2.length]
    exact hz
end
end Fv
set_option Elab.async false
set_option linter.all false
set_option maxRecDepth 100000
set_option maxHeartbeats 1000000
/-! Fv, 8: expressions. -/
namespace Fv
open PySem PySem.Spec PyProof.Rows L2
abbrev WT : WX := fun _ _ _ _ => True
section
variable {G : Gc} {ρ : List Addr} {H : Hp} {W : WX} {σ : L2.St} {α : Type} {r : R α} {k : α → List Addr → Hp → FH → Prop}
theorem Sat.any (h : Sat G ρ H W σ r k) : Sat G ρ H WT [] r k := by
  cases r with
  | ok a F => exact h
  | exc c w F => exact fun _ _ _ _ _ _ _ _ _ _ => trivial
  | bad => exact h
end
/-! ### side conditions -/
theorem star_cons {x : Expr} {xs : List Expr} {env : Env} (h : (!isStar x) = true) : starEach (x :: xs) env = (false, eval x env) :: starEach xs env := by
  cases x <;> first | rfl | (cases h; done)
theorem nm_of {N : List Str} {sc : Scope} {i : Nat} {x : Str} (h : nmB N sc i x = true) : N[i]? = some x ∧ Vis sc x ∧ (x == ("__debug__" : Str)) = false ∧ (x == ("__classdict__" : Str)) = false := by
  unfold nmB at h
  simp only [Bool.and_eq_true, decide_eq_true_eq, Bool.not_eq_true'] at h
  obtain ⟨⟨⟨h1, h2⟩, h3⟩, h4⟩ := h
  refine ⟨h1, ?_, h3, h4⟩
  unfold visB knd at h2
  split at h2
  · exact .inl (by assumption)
  · exact .inr (.inl (by assumption))
  · exact .inr (.inr (by assumption))
  · cases h2
theorem gl_of {sc : Scope} {x : Str} (h : glB sc x = true) : sc.names.lookup x = some .globalImplicit ∧ (x == ("__debug__" : Str)) = false ∧ x ≠ "__name__" := by
  unfold glB at h
  simp only [Bool.and_eq_true, decide_eq_true_eq, Bool.not_eq_true', decide_eq_false_iff_not] at h
  exact ⟨h.1.1, h.1.2, h.2⟩
theorem chks_any {P : Pg} {fl : Fl} {N : List Str} {sc : Scope} {env : Env} {pos : Pos} : ∀ (es : List FE) (xs : List Expr), chks P fl N sc es xs = true → (backTo pos (starEach xs env)).any (·.1) = false
  | [], xs, h => by
    rw [chks.eq_def] at h
    dsimp only at h
    split at h
    · rfl
    · cases h
  | e :: es, xs, h => by
    rw [chks.eq_def] at h
    dsimp only at h
    split at h
    · rename_i x xs
      simp only [Bool.and_eq_true] at h
      rw [star_cons h.1.2]
      show (false || (backTo pos (starEach xs env)).any (·.1)) = false
      rw [Bool.false_or]
      exact chks_any es xs h.2
    · cases h
/-! ### the law's facts, the context -/
def blts : List String := ["len", "tuple", "list", "int", "max", "min", "isinstance", "range", "enumerate", "bool", "str", "sorted"]
/-- a class of exceptions is called with one value: a new exception, its dict tells the value -/
def Mks (X : Cx) (c : String) : Prop := ∀ (a : Expr) (ta : TE) (p pos : Pos) (k : Nat), Room k X.A → PE X a ta → (!isStar a) = true → Gl X (so c) → ((so c) == ("__debug__" : Str)) = false →
  PMk X (.Call (.Name (so c) p) [a] [] pos) fun σ H Q => ta σ H fun v H1 => ∀ C d, X.mg (so c) = some (.ref C) → H1 d = none → Q (.ref C) (some d) (L2.upd H1 d (.xd [(so "what", v)]))
/-- the field of the exception that a suite holds -/
def WhatR (X : Cx) (T : Tb) : Prop := ∀ (a : Addr) (cls : Value) (d : Option Addr) (oe : Obj) (pn : List (Addr × Obj)) (e : Expr) (te : TE) (pos : Pos), Zc cls d oe → (∃ vs, oe.data = .fields vs) → noSuper e = true → PE (X.suite a ((a, oe) :: pn)) e te →
  PE (X.suite a ((a, oe) :: pn)) (.Attribute e (so "what") pos) fun σ H Q => te σ H fun x H1 => x = .ref a ∧ ∃ C c dd u, c ∈ T.P.exc ∧ cls = .ref C ∧ X.mg (so c) = some (.ref C) ∧ d = some dd ∧ H1 dd = some (.xd [(so "what", u)]) ∧ Q u H1
structure Law (X : Cx) (T : Tb) : Prop where
  wd : X.w = T.w
  exm : ∀ c c' C C', c ∈ T.P.exc → c' ∈ T.P.exc → X.mg (so c) = some (.ref C) → X.mg (so c') = some (.ref C') → PySem.W.exmOne X.K (.ref C) (.ref C') = some (decide (c = c') || decide (c' = "Refused"))
  exc : ∀ c, c ∈ T.P.exc → ∃ C, X.mg (so c) = some (.ref C)
  blt : ∀ x ∈ blts, X.mg (so x) = none
  con : ∀ x d, T.P.con x = some d → ∃ u v, X.mg (so x) = some u ∧ RelV v u ∧ ∀ ρ H, RD (gc X T) ρ H d v
/-- what a def promises -/
def spF (G : Gc) (C : CT) (x : String) (np : Nat) : Sp := fun vs H Q E => vs.length = np ∧ ∃ ρ F us, RH G ρ H F ∧ RSs G none ρ H us vs ∧ Sat G ρ H (fun c d _ H' => E c d H') [] (C (.fn x) us F) fun d ρ' H' _ => ∀ v, RD G ρ' H' d v → Q v H'
structure Fn1 (X : Cx) (T : Tb) (n : Nat) (x : String) (fd : FD) (a : Addr) (fdat : FuncData) : Prop where
  mg : X.mg (so x) = some (.ref a)
  kp : PySem.W.keepIn X.K (.ref a) = true
  ok : FnG X.prog X.w X.K X.mg X.base (L2.CX X.prog X.w) n a fdat (fd.ps.map so) (spF (gc X T) (run T.P n) x fd.ps.length)
  pr : ∃ ar, fdat.params = ⟨[], ar, none, [], [], none, []⟩ ∧ ar.map (·.arg) = fd.ps.map so
  df : fdat.defaults = .none
  nd : (fd.ps.map so).Nodup
  lk : ∃ (oc : Value) (od : Option Addr) (osl : Array (Option Value)), X.K.lookup a = some ⟨oc, od, .func fdat, osl⟩
  key : isKey fd = true → KeyR X.prog X.w X.K a
/-- a function made in place, called -/
def CloOk (prog : Program) (w : World) (K : PySem.W.Frag) (mg : Str → Option Value) (base : Heap) (T : Tb) (n : Nat) : Prop :=
  ∀ (A : Around) (outer : List Env) (s : Shared) (H : Hp) (Q : VK) (E : XK) (ρ : List Addr) (F : FH) (b : FE) (cap : List (Option D)) (f : Addr), RmG n A → Env0 prog w K mg base A outer s H → RH ⟨K, mg, T, base⟩ ρ H F → Clo ⟨K, mg, T, base⟩ ρ H b cap f →
    Sat ⟨K, mg, T, base⟩ ρ H (fun c d _ H' => E c d H') [] (run T.P n (.clo b cap) [] F) (fun d ρ' H' _ => ∀ v, RD ⟨K, mg, T, base⟩ ρ' H' d v → Q v H') → codeAny (model prog w) A (.call (.ref f) ⟨[], []⟩) (CR (L2.CX prog w) outer prog w H s Q E) s
structure Cxt (X : Cx) (T : Tb) (n : Nat) (fl : Fl) : Prop where
  law : Law X T
  fns : ∀ x fd, T.P.fn x = some fd → ∃ a fdat, Fn1 X T n x fd a fdat
  clo : CloOk X.prog X.w X.K X.mg X.base T n
  nd : X.N.Nodup
  calm : fl.calm = true → X.calm = true
  room : fl.calm = true → RmG n X.A
  top : fl.top = true → ∀ x, X.fn x = true
  lamTop : fl.lam = true → fl.top = true
  lam : fl.lam = true → ∃ c Pt, LamX.TabB X.base X.mg c Pt ∧ X.env.code = .ref c ∧ (Pt, X.env.qual ++ "<lambda>") ∈ T.tabs ∧ ∀ p ∈ T.tabs, p.1 = Pt → p.2 = X.env.qual ++ "<lambda>"
section
variable {X : Cx} {T : Tb} {xi : Xi} {C : CT} {W : WX} {a b c : Expr} {fa fb fc : FE} {pos : Pos} {es : List FE} {xs : List Expr}
/-- the reading of an expression -/
abbrev rE (X : Cx) (T : Tb) (xi : Xi) (C : CT) (W : WX) (e : FE) : TE := tE (gc X T) xi C T.P W e
abbrev rT (X : Cx) (T : Tb) (xi : Xi) (C : CT) (W : WX) (e : FE) : TT := tT (gc X T) xi C T.P W e
abbrev rEs (X : Cx) (T : Tb) (xi : Xi) (C : CT) (W : WX) (es : List FE) : TA := tEs (gc X T) xi C T.P W es
def rA (X : Cx) (T : Tb) (xi : Xi) (C : CT) (W : WX) (es : List FE) : TA := fun σ H Q => ∃ ρ F ls, Loc (gc X T) xi ρ H σ ls ∧ RH (gc X T) ρ H F ∧ Sat (gc X T) ρ H W σ (eva C T.P es ls F) fun ss ρ' H' _ => ∀ vs, RSs (gc X T) xi ρ' H' ss vs → Q vs H'
theorem se_var {i : Nat} {x : Str} (h : nmB X.N X.env.scope i x = true) : PE X (.Name x pos) (rE X T xi C W (.var i)) := by
  obtain ⟨h1, h2, h3, h4⟩ := nm_of h
  refine (pe_var h1 h2 h3 h4).imp fun σ H Q ⟨ρ, F, ls, hl, hF, hs⟩ => ?_
  rw [ev] at hs
  split at hs
  · rename_i d e
    obtain ⟨v, k1, k2⟩ := hl.val i _ e
    exact ⟨v, k1, hs.here hF v k2⟩
  · exact False.elim hs
theorem se_con {d : D} {v : V} {e : Expr} {fe : FE} (h : PE X e (tC v)) (hv : ∀ ls F, ev C T.P fe ls F = .ok d F) (r : ∀ ρ H, RD (gc X T) ρ H d v) : PE X e (rE X T xi C W fe) :=
  h.imp fun σ H Q ⟨ρ, F, ls, hl, hF, hs⟩ => by
    rw [hv] at hs
    exact hs.here hF v (r ρ H)
theorem se_glob (L : Law X T) {x : String} {y : Str} (e : so x = y) (h : glB X.env.scope y = true) : PE X (.Name y pos) (rE X T xi C W (.glob x)) := by
  subst e
  obtain ⟨h1, h2, h3⟩ := gl_of h
  cases hc : T.P.con x with
  | none =>
    refine PE.no fun σ H Q ⟨ρ, F, ls, hl, hF, hs⟩ => ?_
    rw [ev, hc] at hs
    exact hs
  | some d =>
    obtain ⟨u, v, k1, k2, k3⟩ := L.con x d hc
    exact se_con (pe_glob h1 k1 k2 h2) (fun ls F => by rw [ev, hc]; rfl) k3
theorem se_fn {n : Nat} {x : String} {y : Str} {fd : FD} {q : Addr} {fdat : FuncData} (F1 : Fn1 X T n x fd q fdat) (e : so x = y) (h : glB X.env.scope y = true) : PE X (.Name y pos) (rE X T xi C W (.fn x)) := by
  subst e
  obtain ⟨h1, h2, h3⟩ := gl_of h
  exact se_con (d := .fn x) (pe_glob (v := .ref q) h1 F1.mg rfl h2) (fun ls F => by rw [ev]) fun _ _ => ⟨q, rfl, F1.mg⟩
/-! lists of expressions -/
theorem ss_nil : PA X [] (rEs X T xi C W []) := pa_nil.imp fun σ H Q ⟨ρ, F, ls, hl, hF, hs⟩ => by
  rw [evs] at hs
  exact hs.here hF [] rfl
theorem ss_cons (hst : (!isStar a) = true) (ha : PE X a (rE X T xi C W fa)) (hr : PA X xs (rEs X T xi C W es)) : PA X (a :: xs) (rEs X T xi C W (fa :: es)) :=
  (pa_cons ha hr (star_cons hst)).imp fun σ H Q ⟨ρ, F, ls, hl, hF, hs⟩ => by
    rw [evs] at hs
    refine ⟨ρ, F, ls, hl, hF, (Sat.bind hs).mono fun x ρ1 H1 F1 p1 hF1 hs1 v rv => ?_⟩
    refine ⟨ρ1, F1, ls, hl.mono p1, hF1, (Sat.bind hs1).mono fun ds ρ2 H2 F2 p2 hF2 hs2 vs rvs => ?_⟩
    exact hs2.here hF2 (v :: vs) ⟨v, vs, rfl, RD.mono p2 _ _ rv, rvs⟩
theorem sa_nil : PA X [] (rA X T xi C W []) := pa_nil.imp fun σ H Q ⟨ρ, F, ls, hl, hF, hs⟩ => by
  rw [eva] at hs
  exact hs.here hF [] .nil
/-- an argument: a name with anything, or data -/
def arg (C : CT) (P : Pg) (e : FE) (ls : Ls) (F : FH) : R SV := match e with
  | .var i => (match ls[i]? with
      | some (some v) => R.ok v F
      | _ => R.bad)
  | e => (ev C P e ls F).bind fun x F => R.ok (SV.d x) F
def r1 (X : Cx) (T : Tb) (xi : Xi) (C : CT) (W : WX) (e : FE) : TE := fun σ H Q => ∃ ρ F ls, Loc (gc X T) xi ρ H σ ls ∧ RH (gc X T) ρ H F ∧ Sat (gc X T) ρ H W σ (arg C T.P e ls F) fun s ρ' H' _ => ∀ v, RS (gc X T) xi ρ' H' s v → Q v H'
theorem s1_var {i : Nat} {x : Str} (h : nmB X.N X.env.scope i x = true) : PE X (.Name x pos) (r1 X T xi C W (.var i)) := by
  obtain ⟨h1, h2, h3, h4⟩ := nm_of h
  refine (pe_var h1 h2 h3 h4).imp fun σ H Q ⟨ρ, F, ls, hl, hF, hs⟩ => ?_
  unfold arg at hs
  simp only at hs
  split at hs
  · rename_i d e
    obtain ⟨v, k1, k2⟩ := hl.val i _ e
    exact ⟨v, k1, hs.here hF v k2⟩
  · exact False.elim hs
theorem s1_of (h : PE X a (rE X T xi C W fa)) (hn : ∀ i, fa ≠ .var i) : PE X a (r1 X T xi C W fa) := h.imp fun σ H Q ⟨ρ, F, ls, hl, hF, hs⟩ => by
  have e : arg C T.P fa ls F = (ev C T.P fa ls F).bind fun x F => R.ok (SV.d x) F := by
    cases fa <;> first | rfl | exact absurd rfl (hn _)
  rw [e] at hs
  exact ⟨ρ, F, ls, hl, hF, (Sat.bind hs).mono fun x ρ1 H1 F1 p1 hF1 hs1 v rv => hs1.here hF1 v rv⟩
theorem eva_cons (e : FE) (r : List FE) (ls : Ls) (F : FH) : eva C T.P (e :: r) ls F = (arg C T.P e ls F).bind fun v F => (eva C T.P r ls F).bind fun vs F => .ok (v :: vs) F := by
  rw [eva.eq_def]
  cases e <;> rfl
theorem sa_cons (hst : (!isStar a) = true) (ha : PE X a (r1 X T xi C W fa)) (hr : PA X xs (rA X T xi C W es)) : PA X (a :: xs) (rA X T xi C W (fa :: es)) :=
  (pa_cons ha hr (star_cons hst)).imp fun σ H Q ⟨ρ, F, ls, hl, hF, hs⟩ => by
    rw [eva_cons] at hs
    refine ⟨ρ, F, ls, hl, hF, (Sat.bind hs).mono fun x ρ1 H1 F1 p1 hF1 hs1 v rv => ?_⟩
    refine ⟨ρ1, F1, ls, hl.mono p1, hF1, (Sat.bind hs1).mono fun ds ρ2 H2 F2 p2 hF2 hs2 vs rvs => ?_⟩
    exact hs2.here hF2 (v :: vs) (.cons (RS.mono p2 _ _ rv) rvs)
theorem sk_nil : PK X [] (rA X T xi C W []) := ⟨fun pos pins s σ H Q I ⟨ρ, F, ls, hl, hF, hs⟩ => pk_nil.run pos pins s σ H Q I (by
  rw [eva] at hs
  exact hs.here hF [] .nil)⟩
theorem sk_cons {nm : Option Str} {kpos : Pos} {kws : List Keyword} (ha : PE X a (r1 X T xi C W fa)) (hr : PK X kws (rA X T xi C W es)) : PK X (⟨nm, a, kpos⟩ :: kws) (rA X T xi C W (fa :: es)) :=
  ⟨fun pos pins s σ H Q I ⟨ρ, F, ls, hl, hF, hs⟩ => (pk_cons ha hr).run pos pins s σ H Q I (by
    rw [eva_cons] at hs
    refine ⟨ρ, F, ls, hl, hF, (Sat.bind hs).mono fun x ρ1 H1 F1 p1 hF1 hs1 v rv => ?_⟩
    refine ⟨ρ1, F1, ls, hl.mono p1, hF1, (Sat.bind hs1).mono fun ds ρ2 H2 F2 p2 hF2 hs2 vs rvs => ?_⟩
    exact hs2.here hF2 (v :: vs) (.cons (RS.mono p2 _ _ rv) rvs))⟩
theorem se_tup {k : Nat} (h : PA X xs (rEs X T xi C W es)) : PE X (.Tuple xs k pos) (rE X T xi C W (.tup es)) := (pe_tup h).imp fun σ H Q ⟨ρ, F, ls, hl, hF, hs⟩ => by
  rw [ev] at hs
  refine ⟨ρ, F, ls, hl, hF, (Sat.bind hs).mono fun ds ρ1 H1 F1 p1 hF1 hs1 vs r => ?_⟩
  have q := sat_newT hF1 r hs1
  exact ⟨q.1, q.2.1⟩
theorem se_lst (h : PA X xs (rEs X T xi C W es)) : PE X (.List xs pos) (rE X T xi C W (.lst es)) := (pe_lst h).imp fun σ H Q ⟨ρ, F, ls, hl, hF, hs⟩ => by
  rw [ev] at hs
  exact ⟨ρ, F, ls, hl, hF, (Sat.bind hs).mono fun ds ρ1 H1 F1 p1 hF1 hs1 vs r => sat_newL hF1 r hs1⟩
theorem se_bin (o : BO) (ha : PE X a (rE X T xi C W fa)) (hb : PE X b (rE X T xi C W fb)) : PE X (.BinOp a o.op b pos) (rE X T xi C W (.bin o fa fb)) :=
  (pe_op (op_bin (T := T) (W := WT) (σ0 := []) o) ha hb).imp fun σ H Q ⟨ρ, F, ls, hl, hF, hs⟩ => by
    rw [ev] at hs
    refine ⟨ρ, F, ls, hl, hF, (Sat.bind hs).mono fun x ρ1 H1 F1 p1 hF1 hs1 v rv => ?_⟩
    refine ⟨ρ1, F1, ls, hl.mono p1, hF1, (Sat.bind hs1).mono fun y ρ2 H2 F2 p2 hF2 hs2 u ru => ?_⟩
    exact ⟨ρ2, F2, x, y, hF2, RD.mono p2 _ _ rv, ru, hs2.any⟩
theorem se_neg (ha : PE X a (rE X T xi C W fa)) : PE X (.UnaryOp .USub a pos) (rE X T xi C W (.neg fa)) := (pe_un un_neg ha).imp fun σ H Q ⟨ρ, F, ls, hl, hF, hs⟩ => by
  rw [ev] at hs
  refine ⟨ρ, F, ls, hl, hF, (Sat.bind hs).mono fun x ρ1 H1 F1 p1 hF1 hs1 v rv => ?_⟩
  split at hs1
  · cases (show v = _ from rv)
    exact ⟨_, rfl, hs1.here hF1 _ rfl⟩
  · exact False.elim hs1
theorem se_not (ha : PE X a (rE X T xi C W fa)) : PE X (.UnaryOp .Not a pos) (rE X T xi C W (.not fa)) := (pe_notT ha).imp fun σ H Q ⟨ρ, F, ls, hl, hF, hs⟩ => by
  rw [ev] at hs
  refine ⟨ρ, F, ls, hl, hF, (Sat.bind hs).mono fun x ρ1 H1 F1 p1 hF1 hs1 v rv => ?_⟩
  obtain ⟨k, e, q⟩ := lift_ok (Sat.bind hs1) hF1
  exact ⟨k, truv hF1 rv e, q.here hF1 _ rfl⟩
theorem mark_no {o : CmpOp} {b : Expr} (h : (!isSet b) = true) : behindInMarks o b = false := by
  cases b <;> first | rfl | (cases h; done)
theorem se_cmp (hu : X.A.units + 64 < cLine) (o : CO) (hm : (!isSet b) = true) (ha : PE X a (rE X T xi C W fa)) (hb : PE X b (rE X T xi C W fb)) : PE X (.Compare a [o.op] [b] pos) (rE X T xi C W (.cmp o fa fb)) :=
  (pe_cmpR (op_cmp (T := T) hu o) ha hb (mark_no hm)).imp fun σ H Q ⟨ρ, F, ls, hl, hF, hs⟩ => by
    rw [ev] at hs
    refine ⟨ρ, F, ls, hl, hF, (Sat.bind hs).mono fun x ρ1 H1 F1 p1 hF1 hs1 v rv => ?_⟩
    refine ⟨ρ1, F1, ls, hl.mono p1, hF1, (Sat.bind hs1).mono fun y ρ2 H2 F2 p2 hF2 hs2 u ru => ?_⟩
    obtain ⟨k, e, q⟩ := lift_ok (Sat.bind hs2) hF2
    exact ⟨ρ2, F2, x, y, k, hF2, RD.mono p2 _ _ rv, ru, e, q.here hF2 _ rfl⟩
theorem last_no {o o' : CmpOp} {b c : Expr} (h : (!isSet c) = true) : lastMarks [o, o'] [b, c] = false := by
  show behindInMarks o' c = false
  exact mark_no h
theorem se_chain (hu : X.A.units + 64 < cLine) (o o' : CO) (hm : (!isSet c) = true) (ha : PE X a (rE X T xi C W fa)) (hb : PE X b (rE X T xi C W fb)) (hc : PE X c (rE X T xi C W fc)) : PE X (.Compare a [o.op, o'.op] [b, c] pos) (rE X T xi C W (.chain o o' fa fb fc)) :=
  (pe_chain (op_cmp (T := T) hu o) (op_cmp (T := T) hu o') ha hb hc (last_no hm)).imp fun σ H Q ⟨ρ, F, ls, hl, hF, hs⟩ => by
    rw [ev] at hs
    refine ⟨ρ, F, ls, hl, hF, (Sat.bind hs).mono fun x ρ1 H1 F1 p1 hF1 hs1 v rv => ?_⟩
    refine ⟨ρ1, F1, ls, hl.mono p1, hF1, (Sat.bind hs1).mono fun y ρ2 H2 F2 p2 hF2 hs2 u ru => ?_⟩
    obtain ⟨k, e, q⟩ := lift_ok (Sat.bind hs2) hF2
    refine ⟨ρ2, F2, x, y, k, hF2, RD.mono p2 _ _ rv, ru, e, k, rfl, ?_⟩
    cases k with
    | false =>
      rw [if_neg Bool.false_ne_true] at q ⊢
      exact q.here hF2 _ rfl
    | true =>
      rw [if_pos rfl] at q ⊢
      refine ⟨ρ2, F2, ls, hl.mono (p1.trans p2), hF2, (Sat.bind q).mono fun z ρ3 H3 F3 p3 hF3 hs3 w rw' => ?_⟩
      obtain ⟨k, e, q⟩ := lift_ok (Sat.bind hs3) hF3
      exact ⟨ρ3, F3, y, z, k, hF3, RD.mono p3 _ _ ru, rw', e, q.here hF3 _ rfl⟩
theorem se_and {y : Expr} {r : List Expr} (ha : PE X a (rE X T xi C W fa)) (hb : PE X (.BoolOp .And (y :: r) pos) (rE X T xi C W fb)) : PE X (.BoolOp .And (a :: y :: r) pos) (rE X T xi C W (.and fa fb)) :=
  (pe_andT ha hb).imp fun σ H Q ⟨ρ, F, ls, hl, hF, hs⟩ => by
    rw [ev] at hs
    refine ⟨ρ, F, ls, hl, hF, (Sat.bind hs).mono fun x ρ1 H1 F1 p1 hF1 hs1 v rv => ?_⟩
    obtain ⟨k, e, q⟩ := lift_ok (Sat.bind hs1) hF1
    refine ⟨k, truv hF1 rv e, ?_⟩
    cases k with
    | true =>
      rw [if_pos rfl] at q ⊢
      exact ⟨ρ1, F1, ls, hl.mono p1, hF1, q⟩
    | false =>
      rw [if_neg Bool.false_ne_true] at q ⊢
      exact q.here hF1 _ rv
theorem se_or {y : Expr} {r : List Expr} (ha : PE X a (rE X T xi C W fa)) (hb : PE X (.BoolOp .Or (y :: r) pos) (rE X T xi C W fb)) : PE X (.BoolOp .Or (a :: y :: r) pos) (rE X T xi C W (.or fa fb)) :=
  (pe_orT ha hb).imp fun σ H Q ⟨ρ, F, ls, hl, hF, hs⟩ => by
    rw [ev] at hs
    refine ⟨ρ, F, ls, hl, hF, (Sat.bind hs).mono fun x ρ1 H1 F1 p1 hF1 hs1 v rv => ?_⟩
    obtain ⟨k, e, q⟩ := lift_ok (Sat.bind hs1) hF1
    refine ⟨k, truv hF1 rv e, ?_⟩
    cases k with
    | true =>
      rw [if_pos rfl] at q ⊢
      exact q.here hF1 _ rv
    | false =>
      rw [if_neg Bool.false_ne_true] at q ⊢
      exact ⟨ρ1, F1, ls, hl.mono p1, hF1, q⟩
/-! tests -/
theorem Sat.tru {G : Gc} {ρ : List Addr} {H : Hp} {F : FH} {σ : L2.St} {x : D} {k : Bool → List Addr → Hp → FH → Prop} (h : Sat G ρ H W σ (lift (truth F x) F) k) (hF : RH G ρ H F) : ∃ b, truth F x = some b ∧ k b ρ H F := lift_ok h hF
/-- what a test's first part has told -/
theorem tru_split {e : FE} {ls : Ls} {F : FH} {ρ : List Addr} {H : Hp} {σ : L2.St} {β : Type} {f : D → FH → R β} {g : Bool → D → FH → R Bool} {k : Bool → List Addr → Hp → FH → Prop} {h : β → FH → R Bool}
    (hs : Sat (gc X T) ρ H W σ (((ev C T.P e ls F).bind f).bind h) k) (hg : ∀ x F b, truth F x = some b → ((f x F).bind h) = g b x F) (hn : ∀ x F, truth F x = none → (f x F).bind h = .bad) {k' : Bool → List Addr → Hp → FH → Prop}
    (hk : ∀ x F1 b, truth F1 x = some b → Sat (gc X T) ρ H W σ (g b x F1) k → ∀ ρ1 H1, Post ρ H ρ1 H1 → RH (gc X T) ρ1 H1 F1 → k' b ρ1 H1 F1) : Sat (gc X T) ρ H W σ ((ev C T.P e ls F).bind fun x F => lift (truth F x) F) k' := by
  cases e1 : ev C T.P e ls F with
  | ok x F1 =>
    rw [e1] at hs
    replace hs : Sat (gc X T) ρ H W σ ((f x F1).bind h) k := hs
    show Sat (gc X T) ρ H W σ (lift (truth F1 x) F1) _
    cases e2 : truth F1 x with
    | none => rw [hn x F1 e2] at hs; exact False.elim hs
    | some b =>
      rw [hg x F1 b e2] at hs
      exact fun ρ1 H1 p1 hF1 => hk x F1 b e2 hs ρ1 H1 p1 hF1
  | exc c w F1 => rw [e1] at hs; exact hs
  | bad => rw [e1] at hs; exact hs
abbrev trF (x : D) (F : FH) : R Bool := lift (truth F x) F
theorem st_and (ha : PT X a (rT X T xi C W fa)) {y : Expr} {r : List Expr} (hb : PW X (.BoolOp .And (y :: r) pos) (rT X T xi C W fb)) : PT X (.BoolOp .And (a :: y :: r) pos) (rT X T xi C W (.and fa fb)) :=
  (pw_and ha hb).pt.imp fun σ H Q ⟨ρ, F, ls, hl, hF, hs⟩ => by
    rw [ev] at hs
    refine ⟨ρ, F, ls, hl, hF, tru_split hs (g := fun b x F => ((if b then ev C T.P fb ls F else .ok x F).bind trF)) (fun x F b e => by rw [e]; rfl) (fun x F e => by rw [e]; rfl) fun x F1 b e hs ρ1 H1 p1 hF1 => ?_⟩
    cases b with
    | true => exact ⟨ρ1, F1, ls, hl.mono p1, hF1, hs.later p1⟩
    | false =>
      replace hs : Sat (gc X T) ρ H W σ (lift (truth F1 x) F1) _ := hs
      rw [e] at hs
      exact hs ρ1 H1 p1 hF1
theorem st_or (ha : PT X a (rT X T xi C W fa)) {y : Expr} {r : List Expr} (hb : PW X (.BoolOp .Or (y :: r) pos) (rT X T xi C W fb)) : PT X (.BoolOp .Or (a :: y :: r) pos) (rT X T xi C W (.or fa fb)) :=
  (pw_or ha hb).pt.imp fun σ H Q ⟨ρ, F, ls, hl, hF, hs⟩ => by
    rw [ev] at hs
    refine ⟨ρ, F, ls, hl, hF, tru_split hs (g := fun b x F => ((if b then .ok x F else ev C T.P fb ls F).bind trF)) (fun x F b e => by rw [e]; rfl) (fun x F e => by rw [e]; rfl) fun x F1 b e hs ρ1 H1 p1 hF1 => ?_⟩
    cases b with
    | true =>
      replace hs : Sat (gc X T) ρ H W σ (lift (truth F1 x) F1) _ := hs
      rw [e] at hs
      exact hs ρ1 H1 p1 hF1
    | false => exact ⟨ρ1, F1, ls, hl.mono p1, hF1, hs.later p1⟩
theorem st_not (ha : PT X a (rT X T xi C W fa)) : PT X (.UnaryOp .Not a pos) (rT X T xi C W (.not fa)) :=
  (pt_not ha).imp fun σ H Q ⟨ρ, F, ls, hl, hF, hs⟩ => by
    rw [ev] at hs
    refine ⟨ρ, F, ls, hl, hF, tru_split hs (g := fun b x F => (R.ok (D.bl (!b)) F).bind trF) (fun x F b e => by rw [e]; rfl) (fun x F e => by rw [e]; rfl) fun x F1 b e hs ρ1 H1 p1 hF1 => ?_⟩
    exact hs ρ1 H1 p1 hF1
/-- the last of a row -/
theorem st_and1 {y : Expr} (h : PT X y (rT X T xi C W fa)) : PW X (.BoolOp .And [y] pos) (rT X T xi C W fa) := pw_and1 h
theorem st_or1 {y : Expr} (h : PT X y (rT X T xi C W fa)) : PW X (.BoolOp .Or [y] pos) (rT X T xi C W fa) := pw_or1 h
theorem pw_of_and {ys : List Expr} {t : TT} (h : PT X (.BoolOp .And ys pos) t) : PW X (.BoolOp .And ys pos) t := ⟨fun wh pins s σ H Q I hw => by
  have k := h.run pins s σ H Q I hw
  exact k⟩
theorem pw_of_or {ys : List Expr} {t : TT} (h : PT X (.BoolOp .Or ys pos) t) : PW X (.BoolOp .Or ys pos) t := ⟨fun wh pins s σ H Q I hw => by
  have k := h.run pins s σ H Q I hw
  exact k⟩
/-- a test whose value is a bool -/
theorem rT_bool {e : FE} {σ : L2.St} {H : Hp} {Q : Bool → Hp → Prop} (hb : ∀ ls F d F', ev C T.P e ls F = .ok d F' → ∃ k, d = .bl k) (h : rT X T xi C W e σ H Q) : rE X T xi C W e σ H fun v H' => ∃ k, v = .bl k ∧ Q k H' := by
  obtain ⟨ρ, F, ls, hl, hF, hs⟩ := h
  refine ⟨ρ, F, ls, hl, hF, ?_⟩
  cases e1 : ev C T.P e ls F with
  | ok x F1 =>
    rw [e1] at hs
    obtain ⟨k, rfl⟩ := hb ls F x F1 e1
    exact fun ρ1 H1 p1 hF1 v rv => ⟨k, rv, hs ρ1 H1 p1 hF1⟩
  | exc c w F1 => rw [e1] at hs; exact hs
  | bad => rw [e1] at hs; exact hs
/-- .. of any value -/
theorem rT_val {e : FE} {σ : L2.St} {H : Hp} {Q : Bool → Hp → Prop} (h : rT X T xi C W e σ H Q) : rE X T xi C W e σ H fun v H' => ∃ k, TruV X.K v H' k ∧ Q k H' := by
  obtain ⟨ρ, F, ls, hl, hF, hs⟩ := h
  refine ⟨ρ, F, ls, hl, hF, (Sat.bind hs).mono fun x ρ1 H1 F1 p1 hF1 hs1 v rv => ?_⟩
  obtain ⟨k, e, q⟩ := lift_ok hs1 hF1
  exact ⟨k, truv hF1 rv e, q⟩
theorem plain_true {e : Expr} {env : Env} (h : plainT e = true) (whole : Sem Value) : isTrue e env whole = (do let v ← whole; standAt e.pos; holding [v] (truthy v)) := by
  cases e <;> first | rfl | (cases h; done)
theorem st_plain (h : PE X a (rE X T xi C W fa)) (hp : plainT a = true) : PT X a (rT X T xi C W fa) := (pt_truth h (plain_true hp)).imp fun σ H Q h => rT_val h
/-- the readings of comparisons -/
theorem cmp_op {o : CO} {σ : L2.St} {H : Hp} {Q : VK} (h : rE X T xi C W (.cmp o fa fb) σ H Q) : tOp (rCmp (gc X T) o) (rE X T xi C W fa) (rE X T xi C W fb) σ H Q := by
  obtain ⟨ρ, F, ls, hl, hF, hs⟩ := h
  rw [ev] at hs
  refine ⟨ρ, F, ls, hl, hF, (Sat.bind hs).mono fun x ρ1 H1 F1 p1 hF1 hs1 v rv => ?_⟩
  refine ⟨ρ1, F1, ls, hl.mono p1, hF1, (Sat.bind hs1).mono fun y ρ2 H2 F2 p2 hF2 hs2 u ru => ?_⟩
  obtain ⟨k, e, q⟩ := lift_ok (Sat.bind hs2) hF2
  exact ⟨ρ2, F2, x, y, k, hF2, RD.mono p2 _ _ rv, ru, e, q.here hF2 _ rfl⟩
theorem chain_op {o o' : CO} {σ : L2.St} {H : Hp} {Q : VK} (h : rE X T xi C W (.chain o o' fa fb fc) σ H Q) : tChain (rCmp (gc X T) o) (rCmp (gc X T) o') (rE X T xi C W fa) (rE X T xi C W fb) (rE X T xi C W fc) σ H Q := by
  obtain ⟨ρ, F, ls, hl, hF, hs⟩ := h
  rw [ev] at hs
  refine ⟨ρ, F, ls, hl, hF, (Sat.bind hs).mono fun x ρ1 H1 F1 p1 hF1 hs1 v rv => ?_⟩
  refine ⟨ρ1, F1, ls, hl.mono p1, hF1, (Sat.bind hs1).mono fun y ρ2 H2 F2 p2 hF2 hs2 u ru => ?_⟩
  obtain ⟨k, e, q⟩ := lift_ok (Sat.bind hs2) hF2
  refine ⟨ρ2, F2, x, y, k, hF2, RD.mono p2 _ _ rv, ru, e, k, rfl, ?_⟩
  cases k with
  | false =>
    rw [if_neg Bool.false_ne_true] at q ⊢
    exact q.here hF2 _ rfl
  | true =>
    rw [if_pos rfl] at q ⊢
    refine ⟨ρ2, F2, ls, hl.mono (p1.trans p2), hF2, (Sat.bind q).mono fun z ρ3 H3 F3 p3 hF3 hs3 w rw' => ?_⟩
    obtain ⟨k, e, q⟩ := lift_ok (Sat.bind hs3) hF3
    exact ⟨ρ3, F3, y, z, k, hF3, RD.mono p3 _ _ ru, rw', e, q.here hF3 _ rfl⟩
theorem bind_ok {α β : Type} {r : R α} {f : α → FH → R β} {b : β} {F' : FH} (h : r.bind f = .ok b F') : ∃ a F, r = .ok a F ∧ f a F = .ok b F' := by
  cases r with
  | ok a F => exact ⟨a, F, rfl, h⟩
  | exc c w F => cases h
  | bad => cases h
theorem cmp_bl {o : CO} {ls : Ls} {F F' : FH} {d : D} (h : ev C T.P (.cmp o fa fb) ls F = .ok d F') : ∃ k, d = .bl k := by
  rw [ev] at h
  obtain ⟨x, F1, e1, h⟩ := bind_ok h
  obtain ⟨y, F2, e2, h⟩ := bind_ok h
  obtain ⟨k, F3, e3, h⟩ := bind_ok h
  cases h
  exact ⟨k, rfl⟩
theorem chain_bl {o o' : CO} {ls : Ls} {F F' : FH} {d : D} (h : ev C T.P (.chain o o' fa fb fc) ls F = .ok d F') : ∃ k, d = .bl k := by
  rw [ev] at h
  obtain ⟨x, F1, e1, h⟩ := bind_ok h
  obtain ⟨y, F2, e2, h⟩ := bind_ok h
  obtain ⟨k, F3, e3, h⟩ := bind_ok h
  cases k with
  | false => cases h; exact ⟨_, rfl⟩
  | true =>
    obtain ⟨z, F4, e4, h⟩ := bind_ok h
    obtain ⟨k, F5, e5, h⟩ := bind_ok h
    cases h
    exact ⟨k, rfl⟩
theorem st_cmp (hu : X.A.units + 64 < cLine) (o : CO) (hm : (!isSet b) = true) (ha : PE X a (rE X T xi C W fa)) (hb : PE X b (rE X T xi C W fb)) : PT X (.Compare a [o.op] [b] pos) (rT X T xi C W (.cmp o fa fb)) :=
  (pt_cmpR (op_cmp (T := T) hu o) ha hb (mark_no hm)).imp fun σ H Q h => cmp_op (rT_bool (fun _ _ _ _ e => cmp_bl e) h)
theorem st_chain (hu : X.A.units + 64 < cLine) (o o' : CO) (hm : (!isSet c) = true) (ha : PE X a (rE X T xi C W fa)) (hb : PE X b (rE X T xi C W fb)) (hc : PE X c (rE X T xi C W fc)) : PT X (.Compare a [o.op, o'.op] [b, c] pos) (rT X T xi C W (.chain o o' fa fb fc)) :=
  (pt_chain (op_cmp (T := T) hu o) (op_cmp (T := T) hu o') ha hb hc (last_no hm)).imp fun σ H Q h => chain_op (rT_bool (fun _ _ _ _ e => chain_bl e) h)
theorem se_ite (hc : PT X c (rT X T xi C W fc)) (ha : PE X a (rE X T xi C W fa)) (hb : PE X b (rE X T xi C W fb)) : PE X (.IfExp c a b pos) (rE X T xi C W (.ite fc fa fb)) :=
  (pe_ifExp hc ha hb).imp fun σ H Q ⟨ρ, F, ls, hl, hF, hs⟩ => by
    rw [ev] at hs
    refine ⟨ρ, F, ls, hl, hF, ?_⟩
    cases e1 : ev C T.P fc ls F with
    | ok x F1 =>
      rw [e1] at hs
      replace hs : Sat (gc X T) ρ H W σ ((lift (truth F1 x) F1).bind fun k F => if k then ev C T.P fa ls F else ev C T.P fb ls F) _ := hs
      show Sat (gc X T) ρ H W σ (lift (truth F1 x) F1) _
      cases e2 : truth F1 x with
      | none => rw [e2] at hs; exact False.elim hs
      | some k =>
        rw [e2] at hs
        intro ρ1 H1 p1 hF1
        cases k with
        | true => exact ⟨ρ1, F1, ls, hl.mono p1, hF1, Sat.later p1 hs⟩
        | false => exact ⟨ρ1, F1, ls, hl.mono p1, hF1, Sat.later p1 hs⟩
    | exc c w F1 => rw [e1] at hs; exact hs
    | bad => rw [e1] at hs; exact hs
/-! subscripts, built-ins, methods -/
theorem plainIx {b : Expr} (h : (!isSlice b) = true) : PlainIx b := by
  intro o i
  cases b <;> first | rfl | (cases h; done)
theorem se_idx (hu : X.A.units + 64 < cLine) (hw : X.w = T.w) (hs : (!isSlice b) = true) (ha : PE X a (rE X T xi C W fa)) (hb : PE X b (rE X T xi C W fb)) : PE X (.Subscript a b pos) (rE X T xi C W (.idx fa fb)) :=
  (pe_ix (ix_idx (T := T) (W := WT) (σ0 := []) hu hw) ha hb (plainIx hs)).imp fun σ H Q ⟨ρ, F, ls, hl, hF, hs⟩ => by
    rw [ev] at hs
    refine ⟨ρ, F, ls, hl, hF, (Sat.bind hs).mono fun x ρ1 H1 F1 p1 hF1 hs1 v rv => ?_⟩
    refine ⟨ρ1, F1, ls, hl.mono p1, hF1, (Sat.bind hs1).mono fun y ρ2 H2 F2 p2 hF2 hs2 u ru => ?_⟩
    exact ⟨ρ2, F2, x, y, hF2, RD.mono p2 _ _ rv, ru, hs2.any⟩
/-- a bound of a slice -/
def rO (X : Cx) (T : Tb) (xi : Xi) (C : CT) (W : WX) (e : FE) : TO := fun σ H Q => ∃ ρ F ls, Loc (gc X T) xi ρ H σ ls ∧ RH (gc X T) ρ H F ∧ Sat (gc X T) ρ H W σ ((ev C T.P e ls F).bind fun x F => lift (oint x) F) fun o _ H' _ => Q o H'
theorem so_none (h : isNon fa = true) : PO X none (rO X T xi C W fa) := by
  cases fa <;> first | (cases h; done) | skip
  refine ⟨fun pins s σ H Q I ⟨ρ, F, ls, hl, hF, hs⟩ => ?_⟩
  rw [ev] at hs
  exact po_none.run pins s σ H Q I (hs ρ H (Post.refl ρ H) hF)
theorem so_some (h : PE X a (rE X T xi C W fa)) : PO X (some a) (rO X T xi C W fa) := by
  refine ⟨fun pins s σ H Q I ⟨ρ, F, ls, hl, hF, hs⟩ => ?_⟩
  rw [evalPart_some]
  refine thn (h.run pins s σ H (fun x H1 => (x = .non ∧ Q none H1) ∨ ∃ i, x = .int i ∧ Q (some i) H1) I ⟨ρ, F, ls, hl, hF, (Sat.bind hs).mono fun x ρ1 H1 F1 p1 hF1 hs1 v rv => ?_⟩) fun u s1 ⟨x, H1, I1, r1, q1⟩ => ?_
  · obtain ⟨o, e, q⟩ := lift_ok hs1 hF1
    unfold oint at e
    split at e
    · cases e
      exact .inl ⟨rv, q⟩
    · cases e
      exact .inr ⟨_, rv, q⟩
    · cases e
  · rcases q1 with ⟨rfl, q⟩ | ⟨i, rfl, q⟩
    · cases (show u = Value.none from r1)
      exact ⟨none, H1, I1, .none, q⟩
    · obtain ⟨t, rfl⟩ := r1
      exact ⟨some i, H1, I1, .int i t, q⟩
/-- {} -/
theorem se_dict0 : PE X (.Dict [] [] pos) (rE X T xi C W (.bi .dict0 [])) := dic_new.imp fun σ H Q ⟨ρ, F, ls, hl, hF, hs⟩ a o h1 h2 h3 h4 => by
  rw [ev, evs] at hs
  exact hs _ _ (Post.newO h1) (hF.newD h1 h2 h3 h4) _ ⟨a, rfl, by rw [← hF.len, List.getElem?_append_right (Nat.le_refl _), Nat.sub_self] <;> rfl⟩
end
end Fv
set_option Elab.async false
set_option linter.all false
set_option maxRecDepth 100000
set_option maxHeartbeats 1000000
/-! Fv, 9: slices, built-ins, methods, calls. -/
namespace Fv
open PySem PySem.Spec PyProof.Rows L2
section
variable {X : Cx} {T : Tb} {xi : Xi} {C : CT} {W : WX} {a b c : Expr} {fa fb fc : FE} {pos : Pos} {es : List FE} {xs : List Expr}
theorem lift_split {α : Type} {o : Option α} {F : FH} {β : Type} {f : α → FH → R β} {G : Gc} {ρ : List Addr} {H : Hp} {σ : L2.St} {k : β → List Addr → Hp → FH → Prop} (h : Sat G ρ H W σ ((lift o F).bind f) k) : ∃ a, o = some a ∧ Sat G ρ H W σ (f a F) k := by
  cases o with
  | none => exact False.elim h
  | some a => exact ⟨a, rfl, h⟩
theorem R.bind_bind {α β γ : Type} (r : R α) (f : α → FH → R β) (g : β → FH → R γ) : (r.bind f).bind g = r.bind fun a F => (f a F).bind g := by
  cases r <;> rfl
theorem se_slc {lo hi : Option Expr} {fl fh : FE} {p2 : Pos} (ha : PE X a (rE X T xi C W fa)) (hl : PO X lo (rO X T xi C W fl)) (hh : PO X hi (rO X T xi C W fh)) : PE X (.Subscript a (.Slice lo hi none p2) pos) (rE X T xi C W (.slc fa fl fh)) :=
  (pe_slice (sl_slc (T := T) (W := WT) (σ0 := [])) ha hl hh).imp fun σ H Q ⟨ρ, F, ls, hl, hF, hs⟩ => by
    rw [ev] at hs
    refine ⟨ρ, F, ls, hl, hF, (Sat.bind hs).mono fun x ρ1 H1 F1 p1 hF1 hs1 v rv => ?_⟩
    rw [← R.bind_bind] at hs1
    refine ⟨ρ1, F1, ls, hl.mono p1, hF1, (Sat.bind hs1).mono fun l ρ2 H2 F2 p2 hF2 hs2 => ?_⟩
    rw [← R.bind_bind] at hs2
    refine ⟨ρ2, F2, ls, hl.mono (p1.trans p2), hF2, (Sat.bind hs2).mono fun h ρ3 H3 F3 p3 hF3 hs3 => ?_⟩
    exact ⟨ρ3, F3, x, hF3, RD.mono (p2.trans p3) _ _ rv, hs3.any⟩
/-! built-ins -/
theorem starA {x : Expr} {xs : List Expr} {e : FE} {P : Pg} {fl : Fl} {N : List Str} {sc : Scope} (h : chks P fl N sc (e :: es) (x :: xs) = true) : (!isStar x) = true ∧ chks P fl N sc es xs = true ∧ chk P fl N sc e x = true := by
  rw [chks.eq_def] at h
  simp only [Bool.and_eq_true] at h
  exact ⟨h.1.2, h.2, h.1.1⟩
theorem boot_bi {b : Bi} (h : biOk b = true) : bootBuiltins (so b.nm) = some b.val := by
  cases b <;> first | (cases h; done) | decide +kernel
theorem bi_name {b : Bi} (h : biOk b = true) : b.nm ∈ blts := by
  cases b <;> first | (cases h; done) | decide +kernel
theorem se_bi (L : Law X T) (hc : X.calm = true) (hgd : X.A.guards = some []) (hu : X.A.units + 64 < cLine) {bi : Bi} (hb : biOk bi = true) {y : Str} {p : Pos} {x : Expr} (e : so bi.nm = y) (hg : glB X.env.scope y = true) (hst : (!isStar x) = true) (hany : ∀ pos env, (backTo pos (starEach xs env)).any (·.1) = false)
    (ha : PA X (x :: xs) (rEs X T xi C W es)) : PE X (.Call (.Name y p) (x :: xs) [] pos) (rE X T xi C W (.bi bi es)) := by
  subst e
  obtain ⟨h1, h2, h3⟩ := gl_of hg
  have key : ∀ (σ : L2.St) (H : Hp) (Q : VK), rE X T xi C W (.bi bi es) σ H Q → tCB (rBi (gc X T) WT [] bi) (rEs X T xi C W es) σ H Q := fun σ H Q ⟨ρ, F, ls, hl, hF, hs⟩ => by
    rw [ev] at hs
    exact ⟨ρ, F, ls, hl, hF, (Sat.bind hs).mono fun ds ρ1 H1 F1 p1 hF1 hs1 vs rvs => ⟨ρ1, F1, ds, hF1, rvs, hs1.any⟩⟩
  have hm := L.blt _ (bi_name hb)
  have hbo := boot_bi hb
  have cb := call_bi (T := T) (W := WT) (σ0 := []) hc hgd hu bi hb
  cases bi with
  | len => exact (pe_callB cb h1 hm hbo ha h3 h2 (star_cons hst) (hany _ _)).imp key
  | max => exact (pe_callB cb h1 hm hbo ha h3 h2 (star_cons hst) (hany _ _)).imp key
  | min => exact (pe_callB cb h1 hm hbo ha h3 h2 (star_cons hst) (hany _ _)).imp key
  | tuple => exact (pe_callTy cb h1 hm hbo ha h3 h2 (star_cons hst) (hany _ _)).imp key
  | list => exact (pe_callTy cb h1 hm hbo ha h3 h2 (star_cons hst) (hany _ _)).imp key
  | int => exact (pe_callTy cb h1 hm hbo ha h3 h2 (star_cons hst) (hany _ _)).imp key
  | str => exact (pe_callTy cb h1 hm hbo ha h3 h2 (star_cons hst) (hany _ _)).imp key
  | _ => cases hb
theorem isi_name {t : String} (ht : isiT t = true) : t ∈ blts ∧ bootBuiltins (so t) = some (.type t) := by
  unfold isiT at ht
  simp only [Bool.or_eq_true, beq_iff_eq] at ht
  rcases ht with (((h | h) | h) | h) | h <;> subst h <;> exact ⟨by decide +kernel, by decide +kernel⟩
theorem se_isi (L : Law X T) {t : String} (ht : isiT t = true) {y z : Str} {p p2 : Pos} (e : so "isinstance" = y) (hg : glB X.env.scope y = true) (e2 : so t = z) (hg2 : glB X.env.scope z = true) (hst : (!isStar a) = true) (ha : PE X a (rE X T xi C W fa)) :
    PE X (.Call (.Name y p) [a, .Name z p2] [] pos) (rE X T xi C W (.isi fa t)) := by
  subst e e2
  obtain ⟨h1, h2, h3⟩ := gl_of hg
  obtain ⟨k1, k2, k3⟩ := gl_of hg2
  obtain ⟨i1, i2⟩ := isi_name ht
  refine (pe_callB call_isi h1 (L.blt _ (by decide +kernel)) (by decide +kernel) (pa_cons ha (pa_cons (pe_bltn (v := .ty t) k1 (L.blt _ i1) i2 rfl k3 k2) pa_nil) (star_cons hst)) h3 h2 (star_cons hst) rfl).imp fun σ H Q ⟨ρ, F, ls, hl, hF, hs⟩ => ?_
  rw [ev] at hs
  refine ⟨ρ, F, ls, hl, hF, (Sat.bind hs).mono fun x ρ1 H1 F1 p1 hF1 hs1 v rv => ?_⟩
  obtain ⟨k, e, q⟩ := lift_ok (Sat.bind hs1) hF1
  obtain ⟨ty, q1, q2⟩ := typOk_of hF1 rv e ht
  exact ⟨v, .ty t, .type ty, .type t, k, rfl, .ty t, q1, kit_ty q2, q.here hF1 _ rfl⟩
/-! methods of lists -/
theorem base_of {o : Expr} {name : Str} {env : Env} (h : noSuper o = true) (w : Sem Value) : attributeBase o name env w = w := by
  unfold attributeBase
  split
  · cases h
  · rfl
theorem mt_facts {m : Mt} (h : mtOk m = true) (hg : m ≠ .get) : Slot "list" (so m.nm) m.id ∧ typeOf (.builtin m.id) = pure (.type "method_descriptor") := by
  cases m with
  | append => exact ⟨PySem.F.slot_list_append, PySem.F.type_list_append⟩
  | extend => exact ⟨PySem.F.slot_list_extend, PySem.F.type_list_extend⟩
  | pop => exact ⟨PySem.F.slot_list_pop, PySem.F.type_list_pop⟩
  | get => exact absurd rfl hg
  | index => cases h
theorem chks_few {P : Pg} {fl : Fl} {N : List Str} {sc : Scope} {env : Env} : ∀ (es : List FE) (xs : List Expr), chks P fl N sc es xs = true → (backTo pos (starEach xs env)).all (fun x => !x.1) = true
  | [], xs, h => by
    rw [chks.eq_def] at h
    dsimp only at h
    split at h
    · rfl
    · cases h
  | e :: es, xs, h => by
    rw [chks.eq_def] at h
    dsimp only at h
    split at h
    · rename_i x xs
      simp only [Bool.and_eq_true] at h
      rw [star_cons h.1.2]
      show (true && (backTo pos (starEach xs env)).all (fun x => !x.1)) = true
      rw [Bool.true_and]
      exact chks_few es xs h.2
    · cases h
theorem se_meth0 (hu : X.A.units + 64 < cLine) (hw : X.w = T.w) {m : Mt} (hm : mtOk m = true) (hg : m ≠ .get) {y : Str} {x : Expr} {ap : Pos} (e : so m.nm = y) (hs : noSuper a = true) (hany : ∀ pos env, (backTo pos (starEach xs env)).any (·.1) = false) (hall : ∀ pos env, (backTo pos (starEach (x :: xs) env)).all (fun x => !x.1) = true)
    (hst : (!isStar x) = true) (hn : (x :: xs).length ≤ 20) (hline : ap.endLine = pos.line) (ho : PE X a (rE X T xi C W fa)) (ha : PA X (x :: xs) (rEs X T xi C W es)) : PE X (.Call (.Attribute a y ap) (x :: xs) [] pos) (rE X T xi C W (.meth m fa es)) := by
  subst e
  obtain ⟨s1, s2⟩ := mt_facts hm hg
  have few : ((backTo pos (starEach (x :: xs) X.env)).all (fun x => !x.1) && (backToKw pos (keywordEach [] X.env)).all (fun x => x.1.isSome)
      && decide ((x :: xs).length + ([] : List Keyword).length + (if ([] : List Keyword).isEmpty then 0 else 1) < 30)) = true := by
    rw [hall]
    show (true && true && decide _) = true
    rw [Bool.true_and, Bool.true_and]
    refine decide_eq_true ?_
    show (x :: xs).length + 0 + 0 < 30
    omega
  refine (pe_bm PySem.F.plainAttrs_list s1 s2 (mt_all (T := T) (W := WT) (σ0 := []) hu hw m) ho ha (base_of hs _) few (by rw [hline]; exact beq_self_eq_true _) (star_cons hst) (hany _ _)).imp fun σ H Q ⟨ρ, F, ls, hl, hF, hs⟩ => ?_
  rw [ev] at hs
  refine ⟨ρ, F, ls, hl, hF, (Sat.bind hs).mono fun o ρ1 H1 F1 p1 hF1 hs1 v rv => ?_⟩
  split at hs1
  · rename_i hr
    have hr' : (lis F1 o).isSome = true := by cases m <;> first | exact hr | exact absurd rfl hg
    obtain ⟨ds, e⟩ := Option.isSome_iff_exists.mp hr'
    obtain ⟨q, us, rfl, k1, k2⟩ := rv.lis hF1 e
    refine ⟨.inl ⟨rfl, us, k1⟩, ρ1, F1, ls, hl.mono p1, hF1, (Sat.bind hs1).mono fun ds ρ2 H2 F2 p2 hF2 hs2 vs rvs => ?_⟩
    exact ⟨ρ2, F2, o, ds, hF2, RD.mono p2 _ _ rv, rvs, hs2.any⟩
  · exact False.elim hs1
theorem se_get (hu : X.A.units + 64 < cLine) (hw : X.w = T.w) {x : Expr} {ap : Pos} (hs : noSuper a = true) (hany : ∀ pos env, (backTo pos (starEach xs env)).any (·.1) = false) (hall : ∀ pos env, (backTo pos (starEach (x :: xs) env)).all (fun x => !x.1) = true)
    (hst : (!isStar x) = true) (hn : (x :: xs).length ≤ 20) (hline : ap.endLine = pos.line) (ho : PE X a (rE X T xi C W fa)) (ha : PA X (x :: xs) (rEs X T xi C W es)) : PE X (.Call (.Attribute a (so "get") ap) (x :: xs) [] pos) (rE X T xi C W (.meth .get fa es)) := by
  have few : ((backTo pos (starEach (x :: xs) X.env)).all (fun x => !x.1) && (backToKw pos (keywordEach [] X.env)).all (fun x => x.1.isSome)
      && decide ((x :: xs).length + ([] : List Keyword).length + (if ([] : List Keyword).isEmpty then 0 else 1) < 30)) = true := by
    rw [hall]
    show (true && true && decide _) = true
    rw [Bool.true_and, Bool.true_and]
    refine decide_eq_true ?_
    show (x :: xs).length + 0 + 0 < 30
    omega
  refine ⟨fun pins s σ H Q I ⟨ρ, F, ls, hl, hF, h⟩ => ?_⟩
  rw [ev] at h
  refine wpAny_Call_method_late (base_of hs _) few (by rw [hline]; exact beq_self_eq_true _) rfl (thn (ho.run pins s σ H (fun v H1 => ∃ (q : Addr) (o : Obj), v = .ref q ∧ H1 q = some (exact o q) ∧ o.ExactDict ∧ rEs X T xi C W es σ H1 fun vs H2 => rMt (gc X T) WT [] .get v vs H2 Q) I ?_) fun v s1 ⟨x', H1, I1, r1, q, o, ex, h1, h2, q1⟩ => ?_)
  · refine ⟨ρ, F, ls, hl, hF, (Sat.bind h).mono fun o ρ1 H1 F1 p1 hF1 hs1 v rv => ?_⟩
    split at hs1
    · rename_i hr
      obtain ⟨p, e⟩ := Option.isSome_iff_exists.mp (show (dicOf F1 o).isSome = true from hr)
      unfold dicOf at e
      split at e
      · rename_i n
        split at e
        · rename_i ep kvs ef
          obtain ⟨q, rfl, hn⟩ := rv
          obtain ⟨ob, es', xs', h1, h2, h3, _⟩ := hF1.at_ n q _ hn ef
          refine ⟨q, ob, rfl, h1, h3, ρ1, F1, ls, hl.mono p1, hF1, (Sat.bind hs1).mono fun ds ρ2 H2 F2 p2 hF2 hs2 vs rvs => ?_⟩
          exact ⟨ρ2, F2, .ref n, ds, hF2, ⟨q, rfl, p2.pre hn⟩, rvs, hs2.any⟩
        · cases e
      · cases e
    · exact False.elim hs1
  · subst ex
    cases (show v = _ from r1)
    have hob := exact_get I1.hok h1
    refine ⟨"dict", "dict.get", PySem.F.plainAttrs_dict, PySem.F.slot_dict_get, PySem.F.type_dict_get, ⟨o, hob, h2.1⟩, fun b e => by cases e; exact ⟨o, hob, h2.2.1⟩, ?_⟩
    have hA := ha.run pos pins s1 σ H1 _ I1 q1
    rw [star_cons hst] at hA ⊢
    refine Calls.callWith_builtin (by show (false || (backTo pos (starEach xs X.env)).any (·.1)) = false; rw [hany] <;> rfl) (Calls.evalArgs_plain ?_)
    exact thn hA fun us s2 ⟨vs, H2, I2, r2, q2⟩ => mt_all (T := T) (W := WT) (σ0 := []) hu hw .get pins s2 σ H2 (.ref q) vs _ us Q I2 rfl r2 q2
theorem se_meth (hu : X.A.units + 64 < cLine) (hw : X.w = T.w) {m : Mt} (hm : mtOk m = true) {y : Str} {x : Expr} {ap : Pos} (e : so m.nm = y) (hs : noSuper a = true) (hany : ∀ pos env, (backTo pos (starEach xs env)).any (·.1) = false) (hall : ∀ pos env, (backTo pos (starEach (x :: xs) env)).all (fun x => !x.1) = true)
    (hst : (!isStar x) = true) (hn : (x :: xs).length ≤ 20) (hline : ap.endLine = pos.line) (ho : PE X a (rE X T xi C W fa)) (ha : PA X (x :: xs) (rEs X T xi C W es)) : PE X (.Call (.Attribute a y ap) (x :: xs) [] pos) (rE X T xi C W (.meth m fa es)) := by
  by_cases hg : m = .get
  · subst hg
    subst e
    exact se_get hu hw hs hany hall hst hn hline ho ha
  · exact se_meth0 hu hw hm hg e hs hany hall hst hn hline ho ha
end
end Fv
set_option Elab.async false
set_option linter.all false
set_option maxRecDepth 100000
set_option maxHeartbeats 1000000
/-! Fv, 10: calls. -/
namespace Fv
open PySem PySem.Spec PyProof.Rows L2
theorem Sat.at {G : Gc} {ρ : List Addr} {H : Hp} {W : WX} {σ : L2.St} {α : Type} {r : R α} {k : α → List Addr → Hp → FH → Prop} (h : Sat G ρ H W σ r k) : Sat G ρ H (fun c d _ H' => W c d σ H') [] r k := by
  cases r with
  | ok a F => exact h
  | exc c w F => exact h
  | bad => exact h
theorem run_len {G : Gc} {ρ : List Addr} {H : Hp} {W : WX} {σ : L2.St} {k : D → List Addr → Hp → FH → Prop} {P : Pg} : ∀ {n : Nat} {x : String} {us : List SV} {F : FH} {fd : FD}, P.fn x = some fd → Sat G ρ H W σ (run P n (.fn x) us F) k → us.length = fd.ps.length
  | 0, x, us, F, fd, _, h => False.elim h
  | n + 1, x, us, F, fd, e, h => by
    replace h : Sat G ρ H W σ (runC (run P n) P (.fn x) us F) k := h
    unfold runC at h
    simp only [e] at h
    split at h
    · assumption
    · exact False.elim h
section
variable {X : Cx} {T : Tb} {W : WX} {n : Nat} {x : String} {fd : FD} {a : Addr} {fdat : FuncData}
theorem call_run {pins : List (Addr × Obj)} {s : Shared} {σ : L2.St} {H : Hp} {ρ : List Addr} {F : FH} {us : List SV} {vs : List V} {uv : List Value} {ps : List Value} {kw : List (Str × Value)} {Q : VK}
    (tk : Takes X W) (hr : RmG n X.A) (F1 : Fn1 X T n x fd a fdat) (he : T.P.fn x = some fd) (I : L2.Inv X pins σ H s) (hF : RH (gc X T) ρ H F) (hu : RSs (gc X T) none ρ H us vs) (r : Vals vs uv) (hb : uv.length = fd.ps.length → BindsTo s fdat ⟨ps, kw⟩ ((fd.ps.map so).zip uv))
    (hs : Sat (gc X T) ρ H W σ (run T.P n (.fn x) us F) fun d ρ' H' _ => ∀ v, RD (gc X T) ρ' H' d v → Q v H') : wpAny (model X.prog X.w) X.A (call (.ref a) ps kw) (EP X pins σ Q) X.xe s := by
  have l1 := run_len he hs
  have l2 : us.length = vs.length := Paired.length hu
  have l3 : vs.length = uv.length := r.length
  refine wpAny_call (codeAny_mono (F1.ok.run X.A X.stack s H ⟨ps, kw⟩ uv vs Q (fun c d H' => W c d σ H') hr I.env0 (hb (by omega)) r ⟨by omega, ρ, F, us, hF, hu, hs.at⟩) fun r s' hq => ?_)
  cases r with
  | error e => exact tk e s' (XE.of_call I (fun _ _ _ h => h) hq)
  | ok fl =>
    cases fl with
    | ret u => exact I.after hq
    | next => exact False.elim hq
    | brk => exact False.elim hq
    | cont => exact False.elim hq
theorem bind_pos (F1 : Fn1 X T n x fd a fdat) (s : Shared) (uv : List Value) (hl : uv.length = fd.ps.length) : BindsTo s fdat ⟨uv, []⟩ ((fd.ps.map so).zip uv) := by
  obtain ⟨ar, h1, h2⟩ := F1.pr
  have h3 : (fd.ps.map so).length = uv.length := by rw [List.length_map, hl]
  refine .of_eq (binds_gen fdat ar h1 F1.df h2 uv [] uv (by omega) ?_ (by simp) h3.symm fun i p v e1 e2 => ?_)
  · rw [List.append_nil, List.map_fst_zip (by omega)]
    exact F1.nd
  · rw [List.append_nil]
    exact lookup_zip F1.nd e1 e2
where lookup_zip : ∀ {ps : List Str} {us : List Value} {i : Nat} {p : Str} {v : Value}, ps.Nodup → ps[i]? = some p → us[i]? = some v → (ps.zip us).lookup p = some v
  | [], _, _, _, _, _, h, _ => by simp at h
  | _ :: _, [], _, _, _, _, _, h => by simp at h
  | q :: ps, u :: us, 0, p, v, nd, h1, h2 => by
    simp at h1 h2
    subst h1 h2
    simp
  | q :: ps, u :: us, i + 1, p, v, nd, h1, h2 => by
    have hp : ps[i]? = some p := by simpa using h1
    have ne : p ≠ q := by
      rintro rfl
      exact (List.nodup_cons.mp nd).1 (List.mem_of_getElem? hp)
    rw [List.zip_cons_cons, List.lookup_cons, beq_eq_false_iff_ne.mpr ne]
    exact lookup_zip (List.nodup_cons.mp nd).2 hp (by simpa using h2)
variable {es : List FE} {xs : List Expr} {p pos : Pos} {y : Str}
/-- the call of a value that is such a def -/
theorem callW {pins : List (Addr × Obj)} {s : Shared} {σ : L2.St} {H : Hp} {ρ : List Addr} {F : FH} {ls : Ls} {Q : VK} (tk : Takes X W) (hr : RmG n X.A) (F1 : Fn1 X T n x fd a fdat) (he : T.P.fn x = some fd) (hx : xs = [] → es = [])
    (hst : ∀ x r, xs = x :: r → (!isStar x) = true) (hany : ∀ x r pos env, xs = x :: r → (backTo pos (starEach r env)).any (·.1) = false) (ha : PA X xs (rA X T none (run T.P n) W es)) (I : L2.Inv X pins σ H s) (hl : Loc (gc X T) none ρ H σ ls) (hF : RH (gc X T) ρ H F)
    (hs : Sat (gc X T) ρ H W σ ((eva (run T.P n) T.P es ls F).bind fun us F => run T.P n (.fn x) us F) fun d ρ' H' _ => ∀ v, RD (gc X T) ρ' H' d v → Q v H') :
    wpAny (model X.prog X.w) X.A (callWith pos (.ref a) [] (backTo pos (starEach xs X.env)) []) (EP X pins σ Q) X.xe s := by
  cases xs with
  | nil =>
    cases hx rfl
    rw [eva] at hs
    exact PySem.W.callWith_K0 I.kIn F1.kp (call_run (uv := []) tk hr F1 he I hF .nil .nil (bind_pos F1 s []) hs)
  | cons e r =>
    refine PySem.W.callWith_K (h₀ := X.base) I.ok.mod.kin F1.kp (thn (ha.run pos pins s σ H (fun vs H1 => ∃ ρ1 F1 us, RH (gc X T) ρ1 H1 F1 ∧ RSs (gc X T) none ρ1 H1 us vs ∧ Sat (gc X T) ρ1 H1 W σ (run T.P n (.fn x) us F1) fun d ρ' H' _ => ∀ v, RD (gc X T) ρ' H' d v → Q v H') I
      ⟨ρ, F, ls, hl, hF, (Sat.bind hs).mono fun us ρ1 H1 F1 p1 hF1 hs1 vs rvs => ⟨ρ1, F1, us, hF1, rvs, hs1⟩⟩) fun uv s1 ⟨vs, H1, I1, r1, ρ1, F1', us, hF1, hu, hs1⟩ => ⟨I1.kIn, ?_⟩) (star_cons (hst _ _ rfl)) (hany _ _ _ _ rfl)
    exact call_run tk hr F1 he I1 hF1 hu r1 (bind_pos F1 s1 uv) hs1
theorem se_call (tk : Takes X W) (hr : RmG n X.A) (F1 : Fn1 X T n x fd a fdat) (he : T.P.fn x = some fd) (e : so x = y) (hg : glB X.env.scope y = true) (hx : xs = [] → es = [])
    (hst : ∀ x r, xs = x :: r → (!isStar x) = true) (hany : ∀ x r pos env, xs = x :: r → (backTo pos (starEach r env)).any (·.1) = false) (ha : PA X xs (rA X T none (run T.P n) W es)) : PE X (.Call (.Name y p) xs [] pos) (rE X T none (run T.P n) W (.call x es)) := by
  subst e
  obtain ⟨h1, h2, h3⟩ := gl_of hg
  refine ⟨fun pins s σ H Q I ⟨ρ, F, ls, hl, hF, hs⟩ => ?_⟩
  rw [ev] at hs
  exact wpAny_Call_Name_kw (ld_glob I h1 F1.mg (callW tk hr F1 he hx hst hany ha I hl hF hs) h2)
end
end Fv
set_option Elab.async false
set_option linter.all false
set_option maxRecDepth 100000
set_option maxHeartbeats 1000000
/-! Fv, 11: calls by name, of what a slot holds. -/
namespace Fv
open PySem PySem.Spec PyProof.Rows L2
def permL {α : Type} (pm : List Nat) (l : List α) : List α := pm.filterMap (fun i => l[i]?)
theorem permL_get {α : Type} {l : List α} : ∀ {pm : List Nat}, (∀ j ∈ pm, j < l.length) → ∀ i : Nat, (permL pm l)[i]? = (pm[i]?).bind (fun j => l[j]?)
  | [], _, i => by simp [permL]
  | j :: pm, h, i => by
    have hj : j < l.length := h j (List.mem_cons_self ..)
    unfold permL
    rw [List.filterMap_cons, List.getElem?_eq_getElem hj]
    cases i with
    | zero => simp [hj]
    | succ i =>
      have := permL_get (l := l) (pm := pm) (fun k hk => h k (List.mem_cons_of_mem _ hk)) i
      simpa [permL] using this
theorem permL_len {α : Type} {l : List α} : ∀ {pm : List Nat}, (∀ j ∈ pm, j < l.length) → (permL pm l).length = pm.length
  | [], _ => rfl
  | j :: pm, h => by
    have hj : j < l.length := h j (List.mem_cons_self ..)
    unfold permL
    rw [List.filterMap_cons, List.getElem?_eq_getElem hj]
    have := permL_len (l := l) (pm := pm) (fun k hk => h k (List.mem_cons_of_mem _ hk))
    simpa [permL] using this
theorem paired_get {α β : Type} {R : α → β → Prop} : ∀ {l : List α} {m : List β}, Paired R l m → ∀ i : Nat, (l[i]? = none ∧ m[i]? = none) ∨ ∃ a b, l[i]? = some a ∧ m[i]? = some b ∧ R a b
  | _, _, .nil, i => .inl ⟨by simp, by simp⟩
  | _, _, .cons r t, 0 => .inr ⟨_, _, rfl, rfl, r⟩
  | _, _, .cons r t, i + 1 => by
    have := paired_get t i
    simpa using this
theorem paired_perm {α β : Type} {R : α → β → Prop} {l : List α} {m : List β} (h : Paired R l m) : ∀ pm : List Nat, Paired R (permL pm l) (permL pm m)
  | [] => .nil
  | j :: pm => by
    have t := paired_perm h pm
    unfold permL at t ⊢
    rw [List.filterMap_cons, List.filterMap_cons]
    rcases paired_get h j with ⟨e1, e2⟩ | ⟨a, b, e1, e2, r⟩
    · rw [e1, e2]; exact t
    · rw [e1, e2]; exact .cons r t
theorem paired_app {α β : Type} {R : α → β → Prop} : ∀ {l l' : List α} {m m' : List β}, Paired R l m → Paired R l' m' → Paired R (l ++ l') (m ++ m')
  | _, _, _, _, .nil, k => k
  | _, _, _, _, .cons r t, k => .cons r (paired_app t k)
theorem lookup_app {α : Type} {x : Str} {m : List (Str × α)} : ∀ {l : List (Str × α)}, l.lookup x = none → (l ++ m).lookup x = m.lookup x
  | [], _ => rfl
  | (y, v) :: l, h => by
    rw [List.lookup_cons] at h
    rw [List.cons_append, List.lookup_cons]
    split at h
    · cases h
    · exact lookup_app h
theorem lookup_app1 {α : Type} {x : Str} {v : α} {m : List (Str × α)} : ∀ {l : List (Str × α)}, l.lookup x = some v → (l ++ m).lookup x = some v
  | [], h => by cases h
  | (y, u) :: l, h => by
    rw [List.lookup_cons] at h
    rw [List.cons_append, List.lookup_cons]
    split at h
    · exact h
    · exact lookup_app1 h
theorem zip_fst {α : Type} : ∀ (ps : List Str) (uv : List α), (ps.zip uv).map (·.1) = ps.take uv.length
  | [], _ => by simp
  | _ :: _, [] => by simp
  | p :: ps, u :: uv => by
    rw [List.zip_cons_cons, List.map_cons, zip_fst ps uv]
    rfl
section
variable {X : Cx} {T : Tb} {W : WX} {n : Nat} {x : String} {fd : FD} {a : Addr} {fdat : FuncData}
theorem bind_kw (F1 : Fn1 X T n x fd a fdat) (s : Shared) {m : Nat} {ks : List Str} {pm : List Nat} (hp : permB (fd.ps.map so) m ks pm = true) {uv wv : List Value} (l1 : uv.length = m) (l2 : wv.length = ks.length) :
    BindsTo s fdat ⟨uv, ks.zip wv⟩ ((fd.ps.map so).zip (permL pm (uv ++ wv))) := by
  obtain ⟨ar, h1, h2⟩ := F1.pr
  unfold permB at hp
  simp only [Bool.and_eq_true, decide_eq_true_eq, List.all_eq_true, Bool.not_eq_true', List.contains_eq_mem, decide_eq_false_iff_not, List.mem_range] at hp
  obtain ⟨⟨⟨⟨⟨n1, n2⟩, n3⟩, n4⟩, n5⟩, n6⟩ := hp
  generalize fd.ps.map so = ps at *
  have rg : ∀ j ∈ pm, j < (uv ++ wv).length := fun j hj => by
    obtain ⟨i, hi, e⟩ := List.mem_iff_getElem.mp hj
    have q := n6 i (by omega)
    rw [List.getElem?_eq_getElem hi] at q
    rw [e] at q
    simp only at q
    rw [List.length_append]
    split at q
    · have := eq_of_beq q
      omega
    · rw [Bool.and_eq_true, decide_eq_true_eq, decide_eq_true_eq] at q
      obtain ⟨q1, q2⟩ := q
      have hi2 : i < ps.length := by omega
      rw [List.getElem?_eq_getElem hi2] at q2
      have := (List.getElem?_eq_some_iff.mp q2).1
      omega
  have disj : ∀ k ∈ ks, k ∉ ps.take m := fun k hk => (n5 k hk).2
  refine .of_eq (binds_gen fdat ar h1 F1.df h2 uv (ks.zip wv) _ (by omega) ?_ (fun z hz => (n5 z.1 (List.of_mem_zip hz).1).1) (by rw [permL_len rg]; omega) fun i p v e1 e2 => ?_)
  · rw [List.map_append, zip_fst, zip_fst, l1, l2, List.take_length]
    exact List.nodup_append.mpr ⟨n1.sublist (List.take_sublist ..), n2, fun x hx y hy z => disj y hy (z ▸ hx)⟩
  · have hi : i < ps.length := (List.getElem?_eq_some_iff.mp e1).1
    rw [permL_get rg] at e2
    have hpi : i < pm.length := by omega
    have q := n6 i hi
    rw [List.getElem?_eq_getElem hpi] at q e2
    simp only [Option.bind_some] at q e2
    split at q
    · rename_i him
      have := eq_of_beq q
      rw [this, List.getElem?_append_left (by omega)] at e2
      exact lookup_app1 (bind_pos.lookup_zip n1 e1 e2)
    · rename_i him
      rw [Bool.and_eq_true, decide_eq_true_eq, decide_eq_true_eq] at q
      obtain ⟨q1, q2⟩ := q
      rw [List.getElem?_append_right (by omega), l1] at e2
      rw [lookup_app]
      · exact bind_pos.lookup_zip n2 (q2.trans e1) e2
      · refine lookup_none fun z => ?_
        rw [zip_fst, l1] at z
        obtain ⟨j, hj, ej⟩ := List.mem_iff_getElem.mp z
        rw [List.getElem_take] at ej
        rw [List.length_take] at hj
        have e3 := (List.getElem?_eq_some_iff.mp e1).2
        have := (List.getElem_inj n1).mp (ej.trans e3.symm)
        omega
variable {es ws : List FE} {xs : List Expr} {kws : List Keyword} {p pos : Pos} {y : Str}
theorem kw_fst {env : Env} : ∀ kws : List Keyword, (backToKw pos (keywordEach kws env)).map (·.1) = kws.map (·.arg)
  | [] => rfl
  | ⟨n, e, q⟩ :: r => by
    show n :: (backToKw pos (keywordEach r env)).map (·.1) = _
    rw [kw_fst r]
    rfl
theorem kw_facts {P : Pg} {fl : Fl} {N : List Str} {sc : Scope} : ∀ (ws : List FE) (kws : List Keyword), chkk P fl N sc ws kws = true → (∀ k ∈ kws, k.arg.isSome = true)
  | [], kws, h => by
    rw [chkk.eq_def] at h
    dsimp only at h
    split at h
    · intro k hk; cases hk
    · cases h
  | e :: ws, kws, h => by
    rw [chkk.eq_def] at h
    dsimp only at h
    split at h
    · rename_i a x q r
      simp only [Bool.and_eq_true] at h
      intro k hk
      rcases List.mem_cons.mp hk with rfl | hk
      · rfl
      · exact kw_facts ws r h.2 k hk
    · cases h
theorem kw_names {env : Env} (kws : List Keyword) : (backToKw pos (keywordEach kws env)).filterMap (·.1) = kws.filterMap (·.arg) := by
  have e : ∀ (l : List (Option Str × Sem Value)), l.filterMap (·.1) = (l.map (·.1)).filterMap id := fun l => by rw [List.filterMap_map]; rfl
  have e2 : kws.filterMap (·.arg) = (kws.map (·.arg)).filterMap id := by rw [List.filterMap_map]; rfl
  rw [e, e2, kw_fst]
theorem kw_all {env : Env} {kws : List Keyword} (h : ∀ k ∈ kws, k.arg.isSome = true) : (backToKw pos (keywordEach kws env)).all (·.1.isSome) = true := by
  have e : ∀ (l : List (Option Str × Sem Value)), l.all (·.1.isSome) = (l.map (·.1)).all (·.isSome) := fun l => by rw [List.all_map]; rfl
  rw [e, kw_fst, List.all_map, List.all_eq_true]
  exact h
theorem kw_any {env : Env} {kws : List Keyword} (h : ∀ k ∈ kws, k.arg.isSome = true) : (backToKw pos (keywordEach kws env)).any (·.1.isNone) = false := by
  have e : ∀ (l : List (Option Str × Sem Value)), l.any (·.1.isNone) = (l.map (·.1)).any (·.isNone) := fun l => by rw [List.any_map]; rfl
  rw [e, kw_fst, List.any_map, List.any_eq_false]
  intro k hk
  have := h k hk
  cases q : k.arg with
  | none => rw [q] at this; cases this
  | some _ => simp [q]
theorem kw_len {kws : List Keyword} (h : ∀ k ∈ kws, k.arg.isSome = true) : (kws.filterMap (·.arg)).length = kws.length := by
  induction kws with
  | nil => rfl
  | cons k r ih =>
    have hk := h k (List.mem_cons_self ..)
    cases q : k.arg with
    | none => rw [q] at hk; cases hk
    | some a =>
      rw [List.filterMap_cons, q]
      simp [ih fun z hz => h z (List.mem_cons_of_mem _ hz)]
theorem Sat.with {G : Gc} {ρ : List Addr} {H : Hp} {σ : L2.St} {α : Type} {r : R α} {k : α → List Addr → Hp → FH → Prop} (h : Sat G ρ H W σ r k) {q : α → Prop} (hq : ∀ a F, r = .ok a F → q a) : Sat G ρ H W σ r fun a ρ' H' F' => q a ∧ k a ρ' H' F' := by
  cases r with
  | ok a F => exact fun ρ' H' p hF => ⟨hq a F rfl, h ρ' H' p hF⟩
  | exc c w F => exact h
  | bad => exact h
theorem eva_len {C : CT} {T : Tb} : ∀ {es : List FE} {ls : Ls} {F F' : FH} {us : List SV}, eva C T.P es ls F = .ok us F' → us.length = es.length
  | [], ls, F, F', us, h => by
    rw [eva] at h
    cases h
    rfl
  | e :: es, ls, F, F', us, h => by
    rw [eva_cons] at h
    obtain ⟨v, F1, e1, h⟩ := bind_ok h
    obtain ⟨vs, F2, e2, h⟩ := bind_ok h
    cases h
    rw [List.length_cons, List.length_cons, eva_len e2]
theorem chks_len {P : Pg} {fl : Fl} {N : List Str} {sc : Scope} : ∀ (es : List FE) (xs : List Expr), chks P fl N sc es xs = true → es.length = xs.length
  | [], xs, h => by
    rw [chks.eq_def] at h
    dsimp only at h
    split at h
    · rfl
    · cases h
  | e :: es, xs, h => by
    rw [chks.eq_def] at h
    dsimp only at h
    split at h
    · rename_i x xs
      simp only [Bool.and_eq_true] at h
      rw [List.length_cons, List.length_cons, chks_len es xs h.2]
    · cases h
theorem chkk_len {P : Pg} {fl : Fl} {N : List Str} {sc : Scope} : ∀ (es : List FE) (xs : List Keyword), chkk P fl N sc es xs = true → es.length = xs.length
  | [], xs, h => by
    rw [chkk.eq_def] at h
    dsimp only at h
    split at h
    · rfl
    · cases h
  | e :: es, xs, h => by
    rw [chkk.eq_def] at h
    dsimp only at h
    split at h
    · simp only [Bool.and_eq_true] at h
      rw [List.length_cons, List.length_cons, chkk_len es _ h.2]
    · cases h
theorem se_callK {pm : List Nat} (tk : Takes X W) (hr : RmG n X.A) (F1 : Fn1 X T n x fd a fdat) (he : T.P.fn x = some fd) (e : so x = y) (hg : glB X.env.scope y = true) (hl1 : es.length = xs.length) (hl2 : ws.length = kws.length) (hks : ∀ k ∈ kws, k.arg.isSome = true)
    (hp : permB (fd.ps.map so) xs.length (kws.filterMap (·.arg)) pm = true)
    (hst : ∀ x r, xs = x :: r → (!isStar x) = true) (hany : ∀ pos env, (backTo pos (starEach xs env)).any (·.1) = false) (ha : PA X xs (rA X T none (run T.P n) W es)) (hk : PK X kws (rA X T none (run T.P n) W ws)) : PE X (.Call (.Name y p) xs kws pos) (rE X T none (run T.P n) W (.callK x es pm ws)) := by
  subst e
  obtain ⟨h1, h2, h3⟩ := gl_of hg
  refine ⟨fun pins s σ H Q I ⟨ρ, F, ls, hl, hF, hs⟩ => ?_⟩
  rw [ev] at hs
  refine wpAny_Call_Name_kw (ld_glob I h1 F1.mg ?_ h2)
  have fin : ∀ {s1 : Shared} {H1 : Hp} {ρ1 : List Addr} {F1' : FH} {us : List SV} {vs : List V} {uv : List Value}, us.length = xs.length → L2.Inv X pins σ H1 s1 → Loc (gc X T) none ρ1 H1 σ ls → RH (gc X T) ρ1 H1 F1' → RSs (gc X T) none ρ1 H1 us vs → Vals vs uv →
      Sat (gc X T) ρ1 H1 W σ ((eva (run T.P n) T.P ws ls F1').bind fun vs F => run T.P n (.fn x) (permA pm (us ++ vs)) F) (fun d ρ' H' _ => ∀ v, RD (gc X T) ρ' H' d v → Q v H') →
      wpAny (model X.prog X.w) X.A (evalAll ((backToKw pos (keywordEach kws X.env)).map (·.2))) (fun ks s2 => X.K.In s2.heap ∧ wpAny (model X.prog X.w) X.A (call (.ref a) ([] ++ uv) (((backToKw pos (keywordEach kws X.env)).filterMap (·.1)).zip ks)) (EP X pins σ Q) X.xe s2) X.xe s1 := by
    intro s1 H1 ρ1 F1' us vs uv hlen I1 hl1' hF1 hu r1 hs1
    refine thn (hk.run pos pins s1 σ H1 (fun zs H2 => ∃ ρ2 F2 us2, us2.length = ws.length ∧ Post ρ1 H1 ρ2 H2 ∧ RH (gc X T) ρ2 H2 F2 ∧ RSs (gc X T) none ρ2 H2 us2 zs ∧ Sat (gc X T) ρ2 H2 W σ (run T.P n (.fn x) (permA pm (us ++ us2)) F2) fun d ρ' H' _ => ∀ v, RD (gc X T) ρ' H' d v → Q v H') I1
      ⟨ρ1, F1', ls, hl1', hF1, ((Sat.bind hs1).with fun a F e => eva_len e).mono fun us2 ρ2 H2 F2 p2 hF2 hs2 zs rzs => ⟨ρ2, F2, us2, hs2.1, p2, hF2, rzs, hs2.2⟩⟩) fun wv s2 ⟨zs, H2, I2, r2, ρ2, F2, us2, hlen2, p2, hF2, hu2, hs2⟩ => ⟨I2.kIn, ?_⟩
    rw [kw_names]
    have q1 := Paired.length hu
    have q2 := r1.length
    have q3 := Paired.length hu2
    have q4 := r2.length
    have q5 := kw_len hks
    have rr : Vals (permL pm (vs ++ zs)) (permL pm (uv ++ wv)) := paired_perm (r1.append r2) pm
    exact call_run tk hr F1 he I2 hF2 (paired_perm (paired_app (hu.mono p2) hu2) pm) rr (fun _ => bind_kw (uv := uv) F1 s2 hp (by omega) (by omega)) hs2
  cases xs with
  | nil =>
    cases es with
    | cons _ _ => cases hl1
    | nil =>
      rw [eva] at hs
      exact PySem.W.callWith_KW0 (h₀ := X.base) I.ok.mod.kin F1.kp (kw_all hks) (fin (us := []) rfl I hl hF .nil .nil hs) (by rw [kw_any hks]; rfl)
  | cons z r =>
    refine PySem.W.callWith_KW (h₀ := X.base) I.ok.mod.kin F1.kp (kw_all hks) (thn (ha.run pos pins s σ H (fun vs H1 => ∃ ρ1 F1 us, us.length = es.length ∧ Post ρ H ρ1 H1 ∧ RH (gc X T) ρ1 H1 F1 ∧ RSs (gc X T) none ρ1 H1 us vs ∧
        Sat (gc X T) ρ1 H1 W σ ((eva (run T.P n) T.P ws ls F1).bind fun vs F => run T.P n (.fn x) (permA pm (us ++ vs)) F) (fun d ρ' H' _ => ∀ v, RD (gc X T) ρ' H' d v → Q v H')) I
      ⟨ρ, F, ls, hl, hF, ((Sat.bind hs).with fun a F e => eva_len e).mono fun us ρ1 H1 F1 p1 hF1 hs1 vs rvs => ⟨ρ1, F1, us, hs1.1, p1, hF1, rvs, hs1.2⟩⟩) fun uv s1 ⟨vs, H1, I1, r1, ρ1, F1', us, hlen, p1, hF1, hu, hs1⟩ => fin (hlen.trans hl1) I1 (hl.mono p1) hF1 hu r1 hs1)
      (by rw [hany, kw_any hks]; rfl) (star_cons (hst _ _ rfl))
end
end Fv
set_option Elab.async false
set_option linter.all false
set_option maxRecDepth 100000
set_option maxHeartbeats 1000000
/-! Fv, 12: functions made in place: frozen for the call that gets them. -/
namespace Fv
open PySem PySem.Spec PyProof.Rows L2
open Classical in
/-- the objects at S as they stand -/
noncomputable def frz (S : Addr → Prop) (h : Heap) (H : Hp) : Hp := fun b => if S b then (h.get? b).map fun o => .frz o anyO else H b
open Classical in
/-- .. no more tracked -/
noncomputable def thw (S : Addr → Prop) (H : Hp) : Hp := fun b => if S b then none else H b
section
variable {G : Gc} {S : Addr → Prop} {h : Heap} {H H' : Hp} {ρ ρ' : List Addr} {F F' : FH}
theorem frz_in {b : Addr} {o : Obj} (hs : S b) (e : h.get? b = some o) : frz S h H b = some (.frz o anyO) := by
  unfold frz
  rw [if_pos hs, e]
  rfl
theorem frz_out {b : Addr} (hs : ¬ S b) : frz S h H b = H b := by
  unfold frz
  rw [if_neg hs]
theorem thw_in {b : Addr} (hs : S b) : thw S H b = none := by
  unfold thw
  rw [if_pos hs]
theorem thw_out {b : Addr} (hs : ¬ S b) : thw S H b = H b := by
  unfold thw
  rw [if_neg hs]
/-- what may be frozen: nothing tracked -/
def Free (S : Addr → Prop) (H : Hp) : Prop := ∀ b, S b → H b = none
theorem frz_ext (f : Free S H) : ∀ b o, H b = some o → frz S h H b = some o := fun b o e => by
  rw [frz_out fun z => by rw [f b z] at e; cases e]
  exact e
/-- behind: what stands at S is still frozen -/
def Still (S : Addr → Prop) (H : Hp) : Prop := ∀ b u, S b → H b = some u → ∃ o, u = .frz o anyO
theorem thw_of (st : Still S H) {b : Addr} {o : HO} (e : H b = some o) (hn : ∀ q, o ≠ .frz q anyO) : thw S H b = some o := by
  rw [thw_out fun z => by
    obtain ⟨q, rfl⟩ := st b o z e
    exact hn q rfl]
  exact e
theorem thw_sub {b : Addr} {o : HO} (e : thw S H b = some o) : H b = some o := by
  by_cases z : S b
  · rw [thw_in z] at e; cases e
  · rwa [thw_out z] at e
theorem SqT.thw (st : Still S H) {K : PySem.W.Frag} {a : Addr} {vs : List V} (k : SqT K H a vs) : SqT K (thw S H) a vs := by
  rcases k with (k | ⟨o, k⟩) | k
  · exact .inl (.inl (thw_of st k fun q z => by cases z))
  · exact .inl (.inr ⟨o, thw_of st k fun q z => by cases z⟩)
  · exact .inr k
theorem SqF.thw (st : Still S H) {K : PySem.W.Frag} {a : Addr} {vs : List V} (k : SqF K H a vs) : SqF K (thw S H) a vs := by
  rcases k with ⟨o, k⟩ | k
  · exact .inl ⟨o, thw_of st k fun q z => by cases z⟩
  · exact .inr k
mutual
theorem RD.thw (st : Still S H) : ∀ (d : D) (v : V), RD G ρ H d v → RD G ρ (thw S H) d v
  | .non, _, h => h
  | .bl _, _, h => h
  | .int _, _, h => h
  | .str _, _, h => h
  | .tup ds, _, ⟨a, vs, e, hs, hd⟩ => ⟨a, vs, e, SqT.thw st hs, RDs.thw st ds vs hd⟩
  | .ref _, _, h => h
  | .fn _, _, h => h
  | .frl ds, _, ⟨a, vs, e, hs, hd⟩ => ⟨a, vs, e, SqF.thw st hs, RDs.thw st ds vs hd⟩
theorem RDs.thw (st : Still S H) : ∀ (ds : List D) (vs : List V), RDs G ρ H ds vs → RDs G ρ (thw S H) ds vs
  | [], _, h => h
  | d :: ds, _, ⟨v, r, e, h1, h2⟩ => ⟨v, r, e, RD.thw st d v h1, RDs.thw st ds r h2⟩
end
theorem RH.thw (hF : RH G ρ H F) (st : Still S H) : RH G ρ (thw S H) F := by
  refine ⟨hF.len, hF.nd, fun n a o e1 e2 => ?_, fun p hp => ?_⟩
  · have q := hF.at_ n a o e1 e2
    cases o with
    | lst ds =>
      obtain ⟨vs, k1, k2⟩ := q
      exact ⟨vs, thw_of st k1 (fun q z => by cases z), RDs.thw st _ _ k2⟩
    | dic ep kvs =>
      obtain ⟨o, es, xs, h1, h2, h3, h4, h5, h6, h7⟩ := q
      exact ⟨o, es, xs, thw_of st h1 (fun q z => by unfold Fv.exact at z; cases z), h2, h3, h4, h5, h6, h7.imp fun d v r => RD.thw st d v r⟩
  · obtain ⟨ps, h1, h2, h3⟩ := hF.tab p hp
    refine ⟨ps, thw_of st h1 (fun q z => by cases z), h2, fun pos cv hc => ?_⟩
    obtain ⟨c, e1, e2⟩ := h3 pos cv hc
    exact ⟨c, e1, thw_of st e2 fun q z => by unfold LamX.CodeO at z; cases z⟩
/-- frozen things stay -/
theorem Post.still (f : Free S H) (hh : ∀ b, S b → ∃ o, h.get? b = some o) (p : Post ρ (frz S h H) ρ' H') : Still S H' := fun b u hs e => by
  obtain ⟨o, ho⟩ := hh b hs
  have := p.keep b _ (frz_in (H := H) hs ho) trivial
  rw [e] at this
  exact ⟨o, Option.some.inj this⟩
theorem Post.thw (f : Free S H) (hh : ∀ b, S b → ∃ o, h.get? b = some o) (p : Post ρ (frz S h H) ρ' H') : Post ρ H ρ' (thw S H') := by
  obtain ⟨l, e, hl⟩ := id p.new
  refine ⟨⟨l, e, fun a ha o ho hs => hl a ha o (frz_ext f a o ho) hs⟩, fun b o hb hs => ?_⟩
  rw [thw_out fun z => by rw [f b z] at hb; cases hb]
  exact p.keep b o (frz_ext f b o hb) hs
theorem Sat.frz {W : WX} {σ : L2.St} {r : R D} {Q : VK} (f : Free S H) (hh : ∀ b, S b → ∃ o, h.get? b = some o) (hs : Sat G ρ H W σ r fun d ρ' H' _ => ∀ v, RD G ρ' H' d v → Q v H') :
    Sat G ρ (frz S h H) (fun c d _ H' => W c d σ (thw S H')) [] r fun d ρ' H' _ => ∀ v, RD G ρ' H' d v → Q v (thw S H') := by
  cases r with
  | ok a F => exact fun ρ' H' p hF v rv => hs ρ' _ (p.thw f hh) (hF.thw (p.still f hh)) v (RD.thw (p.still f hh) _ _ rv)
  | exc c w F => exact fun ρ' H' cls dd u p hF hc hd hw => hs ρ' _ cls dd u (p.thw f hh) (hF.thw (p.still f hh)) hc (thw_of (p.still f hh) hd fun q z => by cases z) (RD.thw (p.still f hh) _ _ hw)
  | bad => exact hs
end
section
variable {P : Program} {w : World} {S : Addr → Prop} {H H' : Hp} {h h' : Heap} {ρ : List Addr}
theorem hok_frz (ok : HOk P w H h) (f : Free S H) (hh : ∀ b, S b → ∃ o, h.get? b = some o) : HOk P w (frz S h H) h := fun a o e => by
  by_cases z : S a
  · obtain ⟨ob, ho⟩ := hh a z
    rw [frz_in z ho] at e
    cases e
    exact ⟨ho, trivial, ⟨ob, ho⟩, fun _ _ _ _ => trivial⟩
  · rw [frz_out z] at e
    exact (ok a o e).stay (fun b u _ q => q) (fun b q => frz_ext f b _ q) fun b xs q => frz_ext f b _ q
theorem hok_thw (ok : HOk P w H h) (st : Still S H) : HOk P w (thw S H) h := fun a o e =>
  (ok a o (thw_sub e)).stay (fun b u _ q => q) (fun b q => thw_of st q fun q z => by cases z) fun b xs q => thw_of st q fun q z => by cases z
/-- behind the call: the frozen are still so -/
theorem un_still {fs ex : List Addr} (hh : ∀ b, S b → ∃ o, h.get? b = some o) (u : ∀ b o x, frz S h H b = some (.frz o x) → H' b = some (.frz o x)) : Still S H' := fun b v hs e => by
  obtain ⟨o, ho⟩ := hh b hs
  have := u b o anyO (frz_in (H := H) hs ho)
  rw [e] at this
  exact ⟨o, Option.some.inj this⟩
theorem ce_thw {outer : List Env} {s s' : Shared} {Q : VK} {u : Value} (f : Free S H) (hh : ∀ b, S b → ∃ o, s.heap.get? b = some o) (h : CE outer P w (frz S s.heap H) s (fun v H' => Q v (thw S H')) u s') : CE outer P w H s Q u s' := by
  obtain ⟨v, H', os, bare, un, hok, r, q⟩ := h
  have st : Still S H' := un_still (fs := []) (ex := []) hh un.frzs
  refine ⟨v, thw S H', os, bare, ⟨fun b o e n hb hx => ?_, fun b o e n hb hx => ?_, fun b o e n hx => ?_, un.there, fun b xs e => ?_, fun b o x e => ?_, fun b ps e => ?_⟩, hok_thw hok st, r, q⟩
  · by_cases z : S b
    · obtain ⟨k, _⟩ := hok b _ (un.frzs b o anyO (frz_in z e))
      exact k
    · exact un.keep b o e (by rw [frz_out z]; exact n) hb hx
  · by_cases z : S b
    · obtain ⟨k, _⟩ := hok b _ (un.frzs b o anyO (frz_in z e))
      exact ⟨_, k⟩
    · exact un.slot b o e (by rw [frz_out z]; exact n) hb hx
  · by_cases z : S b
    · exact thw_in z
    · rw [thw_out z]
      exact un.free b o e (by rw [frz_out z]; exact n) hx
  · exact thw_of st (un.tups b xs (frz_ext f b _ e)) fun q z => by cases z
  · by_cases z : S b
    · rw [f b z] at e; cases e
    · rw [thw_out z]
      exact un.frzs b o x (frz_ext f b _ e)
  · obtain ⟨m, k⟩ := un.tbls b ps (frz_ext f b _ e)
    exact ⟨m, thw_of st k fun q z => by cases z⟩
theorem cx_thw {outer : List Env} {s s' : Shared} {E : XK} {u : Value} (f : Free S H) (hh : ∀ b, S b → ∃ o, s.heap.get? b = some o) (hfr : ∀ b ∈ frs outer, ¬ S b) (h : L2.CX P w outer (frz S s.heap H) s (fun c d H' => E c d (thw S H')) u s') : L2.CX P w outer H s E u s' := by
  obtain ⟨a, B, H', cls, d, e, fl, hok, ub, na, os, ag, hE⟩ := h
  have st : Still S H' := un_still (fs := []) (ex := []) hh ub.frzs
  have nz : thw S H' a = none := by
    by_cases z : S a
    · exact thw_in z
    · rw [thw_out z]; exact na
  refine ⟨a, B, thw S H', cls, d, e, fl, hok_thw hok st, ⟨fun b o e n hb => ?_, ub.slot, fun b o e n => ?_, ub.there, fun b xs e => ?_, fun b o x e => ?_, fun b ps e => ?_⟩, nz, os, ag, hE⟩
  · by_cases z : S b
    · obtain ⟨k, _⟩ := hok b _ (ub.frzs b o anyO (frz_in z e))
      exact k
    · exact ub.keep b o e (by rw [frz_out z]; exact n) hb
  · by_cases z : S b
    · exact thw_in z
    · rw [thw_out z]
      exact ub.free b o e (by rw [frz_out z]; exact n)
  · exact thw_of st (ub.tups b xs (frz_ext f b _ e)) fun q z => by cases z
  · by_cases z : S b
    · rw [f b z] at e; cases e
    · rw [thw_out z]
      exact ub.frzs b o x (frz_ext f b _ e)
  · obtain ⟨m, k⟩ := ub.tbls b ps (frz_ext f b _ e)
    exact ⟨m, thw_of st k fun q z => by cases z⟩
end
section
variable {X : Cx} {T : Tb} {W : WX} {n : Nat}
/-- of what a slot holds -/
theorem se_callV {i : Nat} {es : List FE} {xs : List Expr} {p pos : Pos} {y : Str} (tk : Takes X W) (hr : RmG n X.A) (fns : ∀ x fd, T.P.fn x = some fd → ∃ a fdat, Fn1 X T n x fd a fdat) (clo : CloOk X.prog X.w X.K X.mg X.base T n) (hn : nmB X.N X.env.scope i y = true) (hl0 : es.length = xs.length)
    (hst : ∀ x r, xs = x :: r → (!isStar x) = true) (hany : ∀ x r pos env, xs = x :: r → (backTo pos (starEach r env)).any (·.1) = false) (ha : PA X xs (rA X T none (run T.P n) W es)) : PE X (.Call (.Name y p) xs [] pos) (rE X T none (run T.P n) W (.callV i es)) := by
  obtain ⟨n1, n2, n3, n4⟩ := nm_of hn
  refine ⟨fun pins s σ H Q I ⟨ρ, F, ls, hl, hF, hs⟩ => ?_⟩
  rw [ev] at hs
  split at hs
  · rename_i sv e
    split at hs
    · rename_i hc
      obtain ⟨v, k1, k2⟩ := hl.val i _ e
      refine wpAny_Call_Name_kw (thn ((pe_var (pos := p) n1 n2 n3 n4).run pins s σ H (fun v' H1 => v' = v ∧ H1 = H) I ⟨v, k1, rfl, rfl⟩) fun u s1 ⟨v', H1, I1, r1, q1⟩ => ?_)
      obtain ⟨rfl, rfl⟩ := q1
      cases sv with
      | d x =>
        cases x with
        | fn f =>
          obtain ⟨fd, hfd⟩ := Option.isSome_iff_exists.mp (show (T.P.fn f).isSome = true from hc)
          obtain ⟨a, fdat, F1⟩ := fns f fd hfd
          obtain ⟨a', rfl, hm⟩ := k2
          have ea : a' = a := by
            have : some (Value.ref a') = some (.ref a) := hm.symm.trans F1.mg
            cases this
            rfl
          subst ea
          cases (show u = Value.ref a' from r1)
          exact callW tk hr F1 hfd (fun z => by subst z; cases es with | nil => rfl | cons _ _ => cases hl0) hst hany ha I1 hl hF hs
        | _ => cases hc
      | exc c w => cases hc
      | clo b cap =>
        have h0 : es.length = 0 := eq_of_beq hc
        have e1 : es = [] := List.length_eq_zero_iff.mp h0
        subst e1
        have e2 : xs = [] := List.length_eq_zero_iff.mp hl0.symm
        subst e2
        rw [eva] at hs
        replace hs : Sat (gc X T) ρ H1 W σ (run T.P n (.clo b cap) [] F) _ := hs
        obtain ⟨f, rfl, kc⟩ := k2
        cases (show u = Value.ref f from r1)
        have of1 : ∃ name qual params body scope cells pm c' ctv, s1.heap.get? f = some (PySem.W.kla_obj name qual params body scope cells pm c' ctv) := by
          obtain ⟨q, ps, bd, sc, cl, pm, c', ctv, N, h1, _⟩ := id kc
          rcases h1 with h1 | h1
          · obtain ⟨k, _⟩ := I1.hok f _ h1
            exact ⟨_, _, _, _, _, _, _, _, _, k⟩
          · exact ⟨_, _, _, _, _, _, _, _, _, I1.bk f _ h1⟩
        obtain ⟨name, qual, params, body, scope, cells, pm, c', ctv, of1⟩ := of1
        refine PySem.W.callWith_F0 ⟨_, _, _, _, of1⟩ ?_
        refine wpAny_call (codeAny_mono (clo X.A X.stack s1 H1 Q (fun c d H' => W c d σ H') ρ F b cap f hr I1.env0 hF kc hs.at) fun r s' hq => ?_)
        cases r with
        | error e => exact tk e s' (XE.of_call I1 (fun _ _ _ h => h) hq)
        | ok fl =>
          cases fl with
          | ret u => exact I1.after hq
          | next => exact False.elim hq
          | brk => exact False.elim hq
          | cont => exact False.elim hq
    · exact False.elim hs
  · exact False.elim hs
end
end Fv
set_option Elab.async false
set_option linter.all false
set_option maxRecDepth 100000
set_option maxHeartbeats 1000000
/-! Fv, 13: a call that gets a function made in place. -/
namespace Fv
open PySem PySem.Spec PyProof.Rows L2
theorem lam_of {sc scope : Scope} (h : lamB sc scope = true) : LamX.LamS sc scope := LamX.lamS_by h
theorem post_extN {ρ : List Addr} {H H1 : Hp} (e : LamX.ExtN H H1) : Post ρ H ρ H1 := ⟨⟨[], by simp, fun _ h => by cases h⟩, fun b o h hs => e b o h fun ps z => by subst z; exact hs⟩
theorem rh_extN {G : Gc} {ρ : List Addr} {H H1 : Hp} {F : FH} (hF : RH G ρ H F) (e : LamX.ExtN H H1) (ht : LamX.Tabs G.T.tabs H1) : RH G ρ H1 F := by
  refine ⟨hF.len, hF.nd, fun n a o h1 h2 => ?_, ht⟩
  have q := hF.at_ n a o h1 h2
  cases o with
  | lst ds =>
    obtain ⟨vs, k1, k2⟩ := q
    exact ⟨vs, e _ _ k1 (fun ps z => by cases z), RDs.mono (post_extN e) _ _ k2⟩
  | dic ep kvs =>
    obtain ⟨o, es, xs, h1, h2, h3, h4, h5, h6, h7⟩ := q
    exact ⟨o, es, xs, e _ _ h1 (fun ps z => by unfold Fv.exact at z; cases z), h2, h3, h4, h5, h6, h7.mono (post_extN e)⟩
theorem capL_get {cs : List Nat} {ls : Ls} {i : Nat} {d : D} (h : (capL cs ls)[i]? = some (some d)) : ls[i]? = some (some (.d d)) ∧ i ∈ cs := by
  unfold capL at h
  rw [List.getElem?_map] at h
  by_cases hi : i < ls.length
  · rw [List.getElem?_range hi] at h
    simp only [Option.map_some, Option.some.injEq] at h
    split at h
    · rename_i hc
      refine ⟨?_, by simpa using hc⟩
      split at h
      · rename_i x e
        cases h
        exact e
      · cases h
    · cases h
  · rw [List.getElem?_eq_none (by simpa using hi)] at h
    cases h
section
variable {X : Cx} {T : Tb} {W : WX} {n : Nat} {x : String} {fd : FD} {a : Addr} {fdat : FuncData}
theorem Inv.noLoc {pins : List (Addr × Obj)} {σ : L2.St} {H : Hp} {s : Shared} (I : L2.Inv X pins σ H s) {f : Addr} {o : Obj} {fd : FuncData} (h : s.heap.get? f = some o) (hd : o.data = .func fd) : f ≠ X.env.locals := fun z => by
  obtain ⟨m, ⟨o', es, ep, ho', hd', _⟩, _⟩ := I.loc
  rw [z, ho'] at h
  cases h
  rw [hd'] at hd
  cases hd
theorem fs_stack {pins : List (Addr × Obj)} {σ : L2.St} {H : Hp} {s : Shared} (I : L2.Inv X pins σ H s) {f : Addr} (h : f ∉ frs X.stack) : f ∉ X.fs := fun z => by
  rcases I.ok.stk with e | ⟨e, hf⟩
  · rw [e] at h; exact h z
  · rw [e] at h
    refine h ?_
    unfold frs
    rw [List.filterMap_cons, hf]
    exact List.mem_cons_of_mem _ z
/-- the cells, and the function itself -/
def capS (X : Cx) (f : Addr) : Addr → Prop := fun b => (b = f ∧ X.base.get? f = none) ∨ ∃ x, X.env.cells.lookup x = some b
theorem cell_new {pins : List (Addr × Obj)} {σ : L2.St} {H : Hp} {s : Shared} (I : L2.Inv X pins σ H s) (top : ∀ x, X.fn x = true) {y : Str} {c : Addr} (h : X.env.cells.lookup y = some c) : X.base.get? c = none ∧ c ∉ frs X.stack := by
  have above := I.ok.cab y c (top y) h
  refine ⟨?_, fun z => ?_⟩
  · cases e : X.base.get? c with
    | none => rfl
    | some o =>
      have := Heap.lt_size (I.ok.bs c o e).1
      exact absurd (Nat.lt_of_lt_of_le this above) (Nat.lt_irrefl _)
  · rcases List.mem_cons.mp (I.stkSub c z) with e | e
    · exact I.cne y c h e
    · obtain ⟨_, o, ho, _⟩ := I.ok.funs.mem e
      exact absurd (Nat.lt_of_lt_of_le (Heap.lt_size ho) above) (Nat.lt_irrefl _)
theorem cel_ok {pins : List (Addr × Obj)} {σ : L2.St} {H : Hp} {s : Shared} {ρ : List Addr} {ls : Ls} {scope : Scope} {f : Addr} {ds : List Nat} (I : L2.Inv X pins σ H s) (hf : Free (capS X f) H) (hl : Loc (gc X T) none ρ H σ ls) (L : LamX.LamS X.env.scope scope) (hds : capB X.N scope ds = true) :
    CelOk (gc X T) ρ (frz (capS X f) s.heap H) X.N scope (cloFrom X.env.cells scope.names []) (capL ds ls) := by
  have hfree := L.has I.ok
  have cm : ∀ {y c}, (cloFrom X.env.cells scope.names []).lookup y = some c → X.env.cells.lookup y = some c := fun {y c} e => by
    rcases cloFrom_mem (PySem.mem_of_lookup e) with hm | ⟨h1, h2⟩
    · cases hm
    · obtain ⟨c1, hc⟩ := hfree _ h1 rfl
      have hc : X.env.cells.lookup y = some c1 := hc
      have e2 : c = c1 := by
        rw [h2, hc] <;> rfl
      rw [e2]
      exact hc
  have look : ∀ {y}, (y, NameKind.free) ∈ scope.names → ∃ c, (cloFrom X.env.cells scope.names []).lookup y = some c := fun {y} hy => mem_lookup (cloFrom_has (cells := X.env.cells) (acc := []) hy)
  refine ⟨fun y c e => ?_, fun y z c e1 e2 => I.ok.inj y z c (cm e1) (cm e2), fun y hy e => ?_, fun i d e => ?_, fun i y d e1 e2 e3 => ?_⟩
  · obtain ⟨v, o, ho, hd⟩ := I.cell y c (cm e)
    exact ⟨o, v, frz_in (.inr ⟨y, cm e⟩) ho, hd⟩
  · have hy' : (y.1, NameKind.free) ∈ scope.names := by rw [← e]; exact hy
    exact look hy'
  · have q := List.all_eq_true.mp hds i (capL_get e).2
    split at q
    · rename_i x e2
      exact ⟨x, e2, of_decide_eq_true q⟩
    · cases q
  · have hy : (y, NameKind.free) ∈ scope.names := PySem.mem_of_lookup e3
    obtain ⟨c2, h2⟩ := look hy
    obtain ⟨v, k1, k2⟩ := hl.val i _ (capL_get e2).1
    obtain ⟨m, hn, hlook⟩ := I.loc
    have hvis : Vis X.env.scope y := (L.free _ hy rfl).elim (fun k => .inr (.inl k)) (fun k => .inr (.inr k))
    obtain ⟨u, r, q⟩ := hlook i y v e1 k1 hvis
    have c1 := cm h2
    rcases q with ⟨k', _⟩ | ⟨_, c3, e', z⟩
    · have k' : X.env.scope.names.lookup y = some .local := k'
      rcases L.free _ hy rfl with k2 | k2 <;> rw [show X.env.scope.names.lookup y = _ from k2] at k' <;> cases k'
    · rw [c1] at e'
      cases e'
      obtain ⟨o, ho, hd⟩ := z
      exact ⟨c2, o, u, v, h2, frz_in (.inr ⟨y, c1⟩) ho, hd, r, RD.ext (frz_ext hf) k2⟩
theorem se_callL {b : FE} {ds : List Nat} {es : List FE} {xs : List Expr} {p pos lpos : Pos} {y : Str} {lps : Arguments} {lz : Expr} {scope : Scope} {fl : Fl} (cx : Cxt X T n fl) (hlam : fl.lam = true) (htop : fl.top = true) (hcm : fl.calm = true) (tk : Takes X W) (F1 : Fn1 X T n x fd a fdat) (he : T.P.fn x = some fd) (e : so x = y)
    (hg : glB X.env.scope y = true) (hany : ∀ pos env, (backTo pos (starEach xs env)).any (·.1) = false) (hps : noArgs lps = true) (hls : lamB X.env.scope scope = true) (hck : chk T.P Fl.in_ X.N scope b lz = true) (hds : capB X.N scope ds = true) (ha : PA X xs (rA X T none (run T.P n) W es)) :
    PE X (.Call (.Name y p) (.Lambda lps lz scope lpos :: xs) [] pos) (rE X T none (run T.P n) W (.callL x b ds es)) := by
  subst e
  obtain ⟨h1, h2, h3⟩ := gl_of hg
  have hr := cx.room hcm
  have top := cx.top htop
  obtain ⟨cc, Pt, TB, hcode, hmem, huni⟩ := cx.lam hlam
  have L := lam_of hls
  refine ⟨fun pins s σ H Q I ⟨ρ, F, ls, hl, hF, hs⟩ => ?_⟩
  rw [ev] at hs
  refine wpAny_Call_Name_kw (ld_glob I h1 F1.mg ?_ h2)
  refine PySem.W.callWith_K (h₀ := X.base) I.ok.mod.kin F1.kp ?_ rfl (hany _ _)
  show wpAny _ _ (spliced ((false, eval (.Lambda lps lz scope lpos) X.env) :: backTo pos (starEach xs X.env))) _ _ s
  refine Calls.spliced_cons ?_
  refine LamX.lam_make2 I TB hcode hmem huni hF.tab (by unfold noArgs at hps; split at hps <;> first | rfl | cases hps) (L.has I.ok) fun f c' pm ctv H1 s1 I1 hE hT1 hof hfn hfr hco => ?_
  have pE : Post ρ H ρ H1 := post_extN hE
  have hF1 : RH (gc X T) ρ H1 F := rh_extN hF hE hT1
  have I1p : L2.Inv X ((f, PySem.W.kla_obj "<lambda>" (X.env.qual ++ "<lambda>") lps lz scope (cloFrom X.env.cells scope.names []) pm c' ctv) :: pins) σ H1 s1 := I1.pins_of fun q hq => by
    rcases List.mem_cons.mp hq with rfl | hq
    · exact ⟨hof, hfn, Inv.noLoc I1 hof rfl, fs_stack I1 hfr, fun v z => by cases z⟩
    · exact I1.pin q (List.mem_append_right _ hq)
  refine thn (ha.run pos _ s1 σ H1 (fun vs H2 => ∃ ρ2 F2 us, Post ρ H1 ρ2 H2 ∧ RH (gc X T) ρ2 H2 F2 ∧ RSs (gc X T) none ρ2 H2 us vs ∧ Sat (gc X T) ρ2 H2 W σ (run T.P n (.fn x) (.clo b (capL ds ls) :: us) F2) fun d ρ' H' _ => ∀ v, RD (gc X T) ρ' H' d v → Q v H') I1p
    ⟨ρ, F, ls, hl.mono pE, hF1, (Sat.bind (hs.later pE)).mono fun us ρ2 H2 F2 p2 hF2 hs2 vs rvs => ⟨ρ2, F2, us, p2, hF2, rvs, hs2⟩⟩) fun uv s2 ⟨vs, H2, I2, r2, ρ2, F2, us, p2, hF2, hu, hs2⟩ => ⟨I2.kIn, ?_⟩
  obtain ⟨qf, qn, _, _, _⟩ := I2.pin (f, _) (List.mem_append_right _ (List.mem_cons_self ..))
  replace qf : s2.heap.get? f = some (PySem.W.kla_obj "<lambda>" (X.env.qual ++ "<lambda>") lps lz scope (cloFrom X.env.cells scope.names []) pm c' ctv) := qf
  replace qn : H2 f = none := qn
  have I2' : L2.Inv X pins σ H2 s2 := I2.pins_of fun q hq => I2.pin q (List.mem_append_right _ (List.mem_cons_of_mem _ hq))
  have fr : Free (capS X f) H2 := fun q hq => by
    rcases hq with ⟨rfl, _⟩ | ⟨z, hz⟩
    · exact qn
    · exact I2.freeC z q hz
  have hh : ∀ q, capS X f q → ∃ o, s2.heap.get? q = some o := fun q hq => by
    rcases hq with ⟨rfl, _⟩ | ⟨z, hz⟩
    · exact ⟨_, qf⟩
    · obtain ⟨v, o, ho, _⟩ := I2.cell z q hz
      exact ⟨o, ho⟩
  have hnf : ∀ q ∈ frs X.stack, ¬ capS X f q := fun q hq z => by
    rcases z with ⟨rfl, _⟩ | ⟨z, hz⟩
    · exact hfr hq
    · exact (cell_new I2 top hz).2 hq
  have e0 := I2.env0
  have e0' : Env0 X.prog X.w X.K X.mg X.base X.A X.stack s2 (frz (capS X f) s2.heap H2) := ⟨e0.frames, e0.mod, fun q o hq => ⟨(e0.bs q o hq).1, by
      rw [frz_out fun z => ?_]
      · exact (e0.bs q o hq).2
      · rcases z with ⟨rfl, hz⟩ | ⟨z, hz⟩
        · rw [hz] at hq; cases hq
        · rw [(cell_new I2 top hz).1] at hq; cases hq⟩, e0.bsz, e0.funs, fun q hq => by
      rw [frz_out (hnf q hq)]
      exact e0.frf q hq, hok_frz e0.hok fr hh, e0.bare⟩
  have pF : Post ρ2 H2 ρ2 (frz (capS X f) s2.heap H2) := ⟨⟨[], by simp, fun _ h => by cases h⟩, fun b o h _ => frz_ext fr b o h⟩
  have hnot : c' ∉ ρ := hF1.notin (fun vs z => by rw [hco] at z; unfold LamX.CodeO at z; cases z) fun o es ep hd z => by
    obtain ⟨oc, vs, t, e1, e2, _⟩ := (I1.hok _ _ hco).1
    rw [exact_get I1.hok z] at e1
    cases e1
    rw [hd] at e2
    cases e2
  have clo : Clo (gc X T) ρ2 (frz (capS X f) s2.heap H2) b (capL ds ls) f := by
    refine ⟨_, lps, lz, scope, _, pm, c', ctv, X.N, ?_, ⟨frz_ext fr _ _ (p2.keep _ _ hco hnot), p2.free hnot hco hnot⟩, hps, ⟨L.kind, L.co, L.gen, L.own⟩, hck, cx.nd, ?_, cel_ok I2 fr ((hl.mono pE).mono p2) L hds⟩
    · cases hb : X.base.get? f with
      | none => exact .inl (frz_in (.inl ⟨rfl, hb⟩) qf)
      | some o =>
        have := I2.bk f o hb
        rw [qf] at this
        exact .inr this.symm
    · unfold capL
      rw [List.length_map, List.length_range, hl.len, I.len]
  have l1 := run_len he hs2
  have l2 : us.length = vs.length := Paired.length hu
  have l3 : vs.length = uv.length := r2.length
  rw [List.length_cons] at l1
  refine wpAny_call (codeAny_mono (F1.ok.run X.A X.stack s2 (frz (capS X f) s2.heap H2) ⟨.ref f :: uv, []⟩ (.ref f :: uv) (.ref f :: vs) (fun v H' => Q v (thw (capS X f) H')) (fun c d H' => W c d σ (thw (capS X f) H')) hr e0'
    (bind_pos F1 s2 _ (by rw [List.length_cons]; omega)) (.cons rfl r2) ⟨by rw [List.length_cons]; omega, ρ2, F2, _, hF2.ext (frz_ext fr), .cons (show RS (gc X T) none ρ2 (frz (capS X f) s2.heap H2) (.clo b (capL ds ls)) (.ref f) from ⟨f, rfl, clo⟩) (hu.mono pF), Sat.frz fr hh hs2⟩) fun r s' hq => ?_)
  cases r with
  | error e => exact tk e s' (XE.of_call I2 (E := fun c d H' => W c d σ H') (fun _ _ _ h => h) (cx_thw (E := fun c d H' => W c d σ H') fr hh hnf hq))
  | ok flw =>
    cases flw with
    | ret u => exact I2'.after (ce_thw fr hh hq)
    | next => exact False.elim hq
    | brk => exact False.elim hq
    | cont => exact False.elim hq
end
end Fv
set_option Elab.async false
set_option linter.all false
set_option maxRecDepth 100000
set_option maxHeartbeats 1000000
/-! Fv, 14: enumerate(t), t a tuple. -/
namespace Fv
open PySem PySem.Spec PyProof.Rows L2
theorem enumT_meets {v : Value} {o : Obj} {H : Heap → Prop} (B : Begins v o H) :
    Meets (Builtin.«enumerate.__new__» ⟨[.type "enumerate", v], []⟩) (fun _ R s => H s.heap ∧
      R (.ok (.ret (.ref (s.heap.push o).objs.size))) { s with heap := (s.heap.push o).push { cls := .type "enumerate", data := .fields #[.none, .bool false, .ref s.heap.objs.size, rawInt 0, .none, .none] } }) :=
  .of_wp fun prog w A R s h => by
    obtain ⟨hp, g, d, tk, os⟩ := s
    obtain ⟨h1, h⟩ := h
    have hsub := sub_enumerate
    have it1 : ∀ {A' : Around} {E : Value → Shared → Prop} {Q : Value → Shared → Prop}, Q (.ref hp.objs.size) ⟨hp.push o, g, d, tk, os⟩ → wpAny (model prog w) A' (pyIter v) Q E ⟨hp, g, d, tk, os⟩ :=
      fun q => B.iter prog w _ _ ⟨hp, g, d, tk, os⟩ _ h1 q
    wp_walk using it1
    refine wpAny_stack_any fun st => wpAny_pure ?_
    split
    · rename_i c _ _ _ _ _
      cases (c == Value.type "enumerate") <;> (wp_walk using it1; exact ⟨_, rfl, h⟩)
    · wp_walk using it1
      exact ⟨_, rfl, h⟩
section
variable {prog : Program} {w : World} {A : Around} {E : Value → Shared → Prop} {s : Shared}
theorem enumT_call {v : Value} {o : Obj} {H : Heap → Prop} {Q : Value → Shared → Prop} (B : Begins v o H) (h1 : H s.heap)
    (h : ∀ h', IsEnum h' (s.heap.objs.size + 1) s.heap.objs.size 0 .none → h'.get? s.heap.objs.size = some o → (∀ b o, s.heap.get? b = some o → h'.get? b = some o) → Q (.ref (s.heap.objs.size + 1)) { s with heap := h' }) :
    wpAny (model prog w) A (call (.type "enumerate") [v]) Q E s := by
  refine callType_new F.called_enumerate (by decide) (F.typeCall_enumerate_1 _) (F.newCall_enumerate_1 _) (fun obj => F.args_object_init_2 obj _) F.entry_enumerate_new (enumT_meets B) ⟨h1, ?_⟩
  have hz : (s.heap.push o).objs.size = s.heap.objs.size + 1 := Heap.size_push ..
  show _ ∧ _
  rw [hz]
  have he : IsEnum ((s.heap.push o).push { cls := .type "enumerate", data := .fields #[.none, .bool false, .ref s.heap.objs.size, rawInt 0, .none, .none] }) (s.heap.objs.size + 1) s.heap.objs.size 0 .none := by
    have := Heap.get?_push_size (s.heap.push o) (o := { cls := .type "enumerate", data := .fields #[.none, .bool false, .ref s.heap.objs.size, rawInt 0, .none, .none] }) rfl
    rw [hz] at this
    exact this
  exact ⟨⟨_, he, rfl⟩, h _ he (Heap.get?_push_of_some _ (Heap.get?_push_size _ B.free)) fun b o x => Heap.get?_push_of_some _ (Heap.get?_push_of_some _ x)⟩
end
/-- the tuple at a, each item in a new pair -/
def ItT (K : PySem.W.Frag) (a : Addr) : It :=
  ⟨fun i H => ∃ (xs : List V) (x : V), SqT K H a xs ∧ xs[i]? = some x, fun i H v H' => ∃ T x, v = .ref T ∧ H T = none ∧ H' = upd H T (.tup [.int (i : Nat), x]) ∧ ∀ xs, SqT K H a xs → xs[i]? = some x, fun i H => ∃ xs : List V, SqT K H a xs ∧ xs.length = i⟩
theorem turn_enumT {P : Program} {w : World} {K : PySem.W.Frag} {elts : List Expr} {kk : Nat} {tpos : Pos} (a e it : Addr) (hai : a ≠ it) (hae : a ≠ e) :
    Turn P w K (.Tuple elts kk tpos) (ItT K a) [e, it] e (fun i h => (∃ old, IsEnum h e it ((i : Nat) : Int) old) ∧ h.IsTupleIter it a i ∧ e ≠ it) where
  mem := by simp
  obj := fun i h st b hb => by
    obtain ⟨⟨old, he⟩, ⟨o, ho, hc, hd⟩, _⟩ := st
    have e' : b = e ∨ b = it := by simpa using hb
    rcases e' with z | z
    · rw [z]; exact ⟨_, he, fun v q => nomatch q⟩
    · rw [z]; exact ⟨o, ho, fun v q => by rw [hd] at q; cases q⟩
  keep := fun i h h' st k => let ⟨⟨old, he⟩, hi, hne⟩ := st; ⟨⟨old, k e (by simp) _ he⟩, hi.at fun o q => k it (by simp) o q, hne⟩
  item := by
    intro X hP hw hK hc i pins s σ H E I hf st hg
    subst hP hw hK
    obtain ⟨⟨old, he⟩, hit, hne⟩ := st
    obtain ⟨xs, x, hq, hx⟩ := hg
    obtain ⟨its, rv, p, hz⟩ := I.tuple hq
    obtain ⟨u, hu, ru⟩ := rv.get hx
    have hel : e < s.heap.objs.size := Heap.lt_size he
    have hil : it < s.heap.objs.size := by obtain ⟨_, q, _⟩ := hit; exact Heap.lt_size q
    have hin : i < its.toArray.size := by
      have := (List.getElem?_eq_some_iff.mp hu).1
      simpa using this
    refine wpAny_pyNext_enum_itemD (Draws.tuple (A := X.A.in1) (show X.A.in1.handled = none from I.ok.hd hc) it a hai its.toArray) he ⟨hit, p⟩ hin hne (by simp [hne, Ne.symm hae]) fun x' h' tk hPx ho hst' hT hsz hk => ?_
    have ex : x' = u := by
      have : its.toArray[i]? = some u := by simpa using hu
      rw [this] at hPx
      exact (Option.some.inj hPx).symm
    subst ex
    obtain ⟨hit', p'⟩ := hst'
    refine ⟨_, rfl, wpAny_letOwnedTupleGo_enum (s := { s with heap := h', toks := tk + 1 }) ho fun h'' he' sb => ?_⟩
    have hT2 : h''.get? s.heap.objs.size = some { cls := .type "tuple", data := .seq #[.int i tk, x'] } := (sb.2 _ (Nat.ne_of_gt hel)).trans hT
    have new : ObjOk X.prog X.w (upd H s.heap.objs.size (.tup [.int (i : Nat), x])) h'' s.heap.objs.size (.tup [.int (i : Nat), x]) :=
      ⟨by show 2 ≤ sizeLine; decide, [.int i tk, x'], .cons ⟨_, rfl⟩ (.cons ru .nil), ⟨_, hT2, rfl, _, rfl⟩⟩
    have I1 : Inv X pins σ (upd H s.heap.objs.size (.tup [.int (i : Nat), x])) { s with heap := h'', toks := tk + 1 } :=
      I.turnedNew (ch := [e, it]) (fun b ob hb q => (sb.2 b (fun z => hb (by simp [z]))).trans (hk b ob (fun z => hb (by simp [z])) (fun z => hb (by simp [z])) q)) hf (Nat.le_refl _) new
    refine ⟨.ref s.heap.objs.size, _, I1, rfl, ⟨_, x, rfl, I.hok.fresh (Nat.le_refl _), rfl, fun ys hy => by rw [I.tuple_inj hy hq]; exact hx⟩, ⟨⟨x', ?_⟩, hit'.at fun o q => (sb.2 it (Ne.symm hne)).trans q, hne⟩, fun b hb => ?_⟩
    · have e1 : ((i + 1 : Nat) : Int) = (i : Int) + 1 := by omega
      rw [e1]; exact he'
    · have hb' : b < s.heap.objs.size := by
        have e' : b = e ∨ b = it := by simpa using hb
        rcases e' with z | z
        · rw [z]; exact hel
        · rw [z]; exact hil
      rw [upd_ne (Nat.ne_of_lt hb')]
      exact (hf b hb).1
  done := by
    intro X hP hw hK hc i pins s σ H E I hf st hg
    subst hP hw hK
    obtain ⟨⟨old, he⟩, hit, hne⟩ := st
    obtain ⟨xs, hq, hx⟩ := hg
    obtain ⟨its, rv, p, hz⟩ := I.tuple hq
    obtain ⟨f0, f1, f2, f3, f4, f5⟩ := hf it (by simp)
    have hl := rv.length
    have hn : its.toArray.size = i := by simp; omega
    subst hn
    exact wpAny_pyNext_enum_endD (Draws.tuple (A := X.A.in1) (show X.A.in1.handled = none from I.ok.hd hc) it a hai its.toArray) he ⟨hit, p⟩ fun h' eb => ⟨rfl, I.turned (t' := s.toks) (fun b o hb q => eb b o hb q) f0 f1 f3 f4 f5⟩
  self := fun A i s Q E st h => let ⟨⟨_, he⟩, _⟩ := st; wpAny_pyIter_enum he h
def iEnumT (K : PySem.W.Frag) (ta : TA) : TI := fun σ H R => ta σ H fun vs H1 => ∃ a xs, vs = [.ref a] ∧ SqT K H1 a xs ∧ R (ItT K a) H1
theorem pi_enumT {X : Cx} {e : Expr} {ta : TA} {p pos tpos : Pos} {elts : List Expr} {kk : Nat} (hg : Gl X "enumerate") (hm : X.mg "enumerate" = none) (ha : PA X [e] ta) (hs : starEach [e] X.env = [(false, eval e X.env)] := by rfl) :
    PI X (.Tuple elts kk tpos) (.Call (.Name "enumerate" p) [e] [] pos) (iEnumT X.K ta) := by
  refine ⟨fun pins s σ H R I h => ?_⟩
  refine Call_ (ld_blt I hg hm boot_enumerate (PyProof.Rows.callWith_type1 (thn (ha.run pos pins s σ H _ I h) fun us s1 ⟨vs, H1, I1, r1, q1⟩ => ?_) hs rfl))
  obtain ⟨a, xs, ex, hq, q⟩ := q1
  subst ex
  cases r1 with
  | cons r rr =>
    cases rr
    cases r
    obtain ⟨its, rv, p', hz⟩ := I1.tuple hq
    refine enumT_call (begins_tuple a its.toArray) p' fun h' he hit hk => wpAny_pyIter_enum he ?_
    have I2 : Inv X pins σ H1 { s1 with heap := h' } := I1.kept (t' := s1.toks) hk
    have ha : a < s1.heap.objs.size := p'.lt
    refine ⟨s1.heap.objs.size + 1, [s1.heap.objs.size + 1, s1.heap.objs.size], _, _, H1, rfl, I2, turn_enumT a (s1.heap.objs.size + 1) s1.heap.objs.size (Nat.ne_of_lt ha) (Nat.ne_of_lt (Nat.lt_succ_of_lt ha)), ⟨⟨.none, he⟩, ⟨_, hit, rfl, rfl⟩, Nat.succ_ne_self _⟩, fun b hb => ?_, q⟩
    have e' : b = s1.heap.objs.size + 1 ∨ b = s1.heap.objs.size := by simpa using hb
    have hle : s1.heap.objs.size ≤ b := by
      rcases e' with z | z
      · rw [z]; exact Nat.le_add_right _ _
      · rw [z]; exact Nat.le_refl _
    exact I1.fpOk hle (I1.hok.fresh hle)
end Fv
set_option Elab.async false
set_option linter.all false
set_option maxRecDepth 100000
set_option maxHeartbeats 1000000
/-! Fv, 30: a dict of ours is walked by its keys. -/
namespace Fv
open PySem PySem.Spec PyProof.Rows L2
def Itx (a : Addr) (ep n : Nat) : It :=
  ⟨fun i H => ∃ (o : Obj) (es : Array DictEntry) (en : DictEntry) (x : V), H a = some (exact o a) ∧ o.data = .dict es ep ∧ es.size = n ∧ es[i]? = some en ∧ RelV x en.key,
   fun i H v H' => H' = H ∧ ∀ (o : Obj) (es : Array DictEntry) (en : DictEntry), H a = some (exact o a) → o.data = .dict es ep → es[i]? = some en → RelV v en.key,
   fun i H => ∃ (o : Obj) (es : Array DictEntry), H a = some (exact o a) ∧ o.data = .dict es ep ∧ es.size = n ∧ n ≤ i⟩
theorem turn_dic {P : Program} {w : World} {K : PySem.W.Frag} {tg : Expr} {a : Addr} {ep n : Nat} (it : Addr) : Turn P w K tg (Itx a ep n) [it] it (fun i h => h.IsKeyIter it a i n ep) where
  mem := by simp
  obj := fun i h st b hb => by
    have e : b = it := by simpa using hb
    subst e
    obtain ⟨oi, e, c, dd⟩ := st
    exact ⟨oi, e, fun v z => by rw [dd] at z; cases z⟩
  keep := fun i h h' st k => st.at fun oi e => k it (by simp) oi e
  item := by
    intro X hP hw hK hc i pins s σ H E I hf st hg
    subst hP hw hK
    obtain ⟨o, es, en, x, h1, hdt, hsz, hen, rx⟩ := hg
    obtain ⟨f0, f1, f2, f3, f4, f5⟩ := hf it (by simp)
    have hgd := exact_get I.hok h1
    refine next_key_item st hgd hdt hsz hen fun h' st' sb => ?_
    have I1 : L2.Inv X pins σ H { s with heap := h' } := I.turned (t' := s.toks) (fun b ob hb e => (sb.2 b hb).trans e) f0 f1 f3 f4 f5
    obtain ⟨oi, e, c, dd⟩ := id st'
    refine ⟨en.key, rfl, go_of (s := { s with heap := h' }) e c dd (by decide) ⟨x, H, I1, rx, ⟨rfl, fun o' es' en' k1 k2 k3 => ?_⟩, st', fun b hb => (hf b hb).1⟩⟩
    have q := exact_get I.hok k1
    rw [hgd] at q
    cases q
    rw [hdt] at k2
    cases k2
    rw [hen] at k3
    cases k3
    exact rx
  done := by
    intro X hP hw hK hc i pins s σ H E I hf st hg
    subst hP hw hK
    obtain ⟨o, es, h1, hdt, hsz, hi⟩ := hg
    obtain ⟨f0, f1, f2, f3, f4, f5⟩ := hf it (by simp)
    exact next_key_end (I.ok.hd hc) st (exact_get I.hok h1) hdt hsz hi fun h' eb => ⟨rfl, I.turned (t' := s.toks) (fun b ob hb e => eb b ob hb e) f0 f1 f3 f4 f5⟩
  self := fun A i s Q E st h => by
    refine wpAny_pyIter_slot st.typeIs PySem.F.slot_dict_keyiterator_iter (wpAny_call_entry PySem.F.slot_dict_keyiterator_iter st.typeIs PySem.F.entry_dict_keyiterator_iter ?_ (PySem.F.args_dict_keyiterator_iter_1 _))
    show wpAny _ _ (ret (.ref it)) _ _ s
    exact wpAny_pure ⟨_, rfl, "dict_keyiterator", _, st.typeIs, PySem.F.slot_dict_keyiterator_next.lookup, h⟩
def iDic (td : TE) : TI := fun σ H R => td σ H fun x H1 => ∃ (a : Addr) (o : Obj) (es : Array DictEntry) (ep : Nat), x = .ref a ∧ (a == sysModules) = false ∧ H1 a = some (exact o a) ∧ o.ExactDict ∧ o.data = .dict es ep ∧ R (Itx a ep es.size) H1
theorem pi_dic {X : Cx} {tg e : Expr} {td : TE} (he : PE X e td) : PI X tg e (iDic td) := by
  refine ⟨fun pins s σ H R I h => ?_⟩
  refine thn (he.run pins s σ H _ I h) fun u s1 ⟨x, H1, I1, rx, a, o, es, ep, ex, hs, h1, hx, hdt, q⟩ => ?_
  subst ex
  obtain rfl : u = Value.ref a := rx
  refine iter_keys hs (exact_get I1.hok h1) hx hdt (pi_one (tk := s1.toks) I1 _ (turn_dic _) ⟨_, Heap.get?_push_size _ rfl, rfl, rfl⟩ q)
theorem relV_inj {v v' : V} {u : Value} (h : RelV v u) (h' : RelV v' u) : v = v' := Option.some.inj (h.abs.symm.trans h'.abs)
end Fv
set_option Elab.async false
set_option linter.all false
set_option maxRecDepth 100000
set_option maxHeartbeats 1000000
/-! Fv, 15: what is walked. -/
namespace Fv
open PySem PySem.Spec PyProof.Rows L2
mutual
theorem beq_eq : ∀ (a b : D), D.beq a b = true → a = b
  | .non, b, h => by cases b <;> first | rfl | (simp [D.beq] at h; done)
  | .bl x, b, h => by cases b <;> first | (simp [D.beq] at h; rw [h]; done) | (simp [D.beq] at h; done)
  | .int x, b, h => by cases b <;> first | (simp [D.beq] at h; rw [h]; done) | (simp [D.beq] at h; done)
  | .str x, b, h => by cases b <;> first | (simp [D.beq] at h; rw [h]; done) | (simp [D.beq] at h; done)
  | .tup ds, b, h => by
    cases b with
    | tup es => rw [beqs_eq ds es (by simpa [D.beq] using h)]
    | _ => simp [D.beq] at h
  | .ref x, b, h => by cases b <;> first | (simp [D.beq] at h; rw [h]; done) | (simp [D.beq] at h; done)
  | .fn x, b, h => by cases b <;> first | (simp [D.beq] at h; rw [h]; done) | (simp [D.beq] at h; done)
  | .frl ds, b, h => by
    cases b with
    | frl es => rw [beqs_eq ds es (by simpa [D.beq] using h)]
    | _ => simp [D.beq] at h
theorem beqs_eq : ∀ (a b : List D), D.beqs a b = true → a = b
  | [], [], _ => rfl
  | [], _ :: _, h => by simp [D.beqs] at h
  | _ :: _, [], h => by simp [D.beqs] at h
  | x :: a, y :: b, h => by
    simp only [D.beqs, Bool.and_eq_true] at h
    rw [beq_eq x y h.1, beqs_eq a b h.2]
end
theorem lstIs_eq {F : FH} {n : Nat} {ds : List D} (h : lstIs F n ds = true) : F[n]? = some (.lst ds) := by
  unfold lstIs at h
  split at h
  · rename_i es e
    rw [e, beqs_eq _ _ h]
  · cases h
def isTp : D → Bool
  | .tup _ => true
  | _ => false
mutual
theorem beq_refl : ∀ a : D, D.beq a a = true
  | .non => rfl
  | .bl _ => by simp [D.beq]
  | .int _ => by simp [D.beq]
  | .str _ => by simp [D.beq]
  | .tup ds => by simp only [D.beq]; exact beqs_refl ds
  | .ref _ => by simp [D.beq]
  | .fn _ => by simp [D.beq]
  | .frl ds => by simp only [D.beq]; exact beqs_refl ds
theorem beqs_refl : ∀ a : List D, D.beqs a a = true
  | [] => rfl
  | x :: a => by simp only [D.beqs, Bool.and_eq_true]; exact ⟨beq_refl x, beqs_refl a⟩
end
/-- what a walk leans on: the mutables' names, the tuples and frozen things -/
structure Pst (ρ0 : List Addr) (H0 : Hp) (ρ : List Addr) (H : Hp) : Prop where
  pre : ∀ (n : Nat) a, ρ0[n]? = some a → ρ[n]? = some a
  tup : ∀ b xs, H0 b = some (.tup xs) → H b = some (.tup xs)
  frz : ∀ b q u, H0 b = some (.frz q u) → H b = some (.frz q u)
  ext : ∀ b φ, b ∉ ρ0 → H0 b = some (.ext φ) → H b = some (.ext φ) ∧ b ∉ ρ
  xd : ∀ b fs, H0 b = some (.xd fs) → H b = some (.xd fs)
theorem Post.pst {ρ0 ρ : List Addr} {H0 H : Hp} (p : Post ρ0 H0 ρ H) : Pst ρ0 H0 ρ H := ⟨fun _ _ h => p.pre h, fun _ _ h => p.keep _ _ h trivial, fun _ _ _ h => p.keep _ _ h trivial, fun _ _ n h => ⟨p.keep _ _ h n, p.free n h n⟩, fun _ _ h => p.keep _ _ h trivial⟩
theorem Pst.trans {ρ0 ρ ρ' : List Addr} {H0 H H' : Hp} (p : Pst ρ0 H0 ρ H) (q : Pst ρ H ρ' H') : Pst ρ0 H0 ρ' H' := ⟨fun _ _ h => q.pre _ _ (p.pre _ _ h), fun _ _ h => q.tup _ _ (p.tup _ _ h), fun _ _ _ h => q.frz _ _ _ (p.frz _ _ _ h), fun _ _ n h => let ⟨k1, k2⟩ := p.ext _ _ n h; q.ext _ _ k2 k1, fun _ _ h => q.xd _ _ (p.xd _ _ h)⟩
theorem Pst.sqt {ρ0 ρ : List Addr} {H0 H : Hp} (p : Pst ρ0 H0 ρ H) {K : PySem.W.Frag} {a : Addr} {vs : List V} (h : SqT K H0 a vs) : SqT K H a vs := by
  rcases h with (h | ⟨o, h⟩) | h
  · exact .inl (.inl (p.tup _ _ h))
  · exact .inl (.inr ⟨o, p.frz _ _ _ h⟩)
  · exact .inr h
theorem Pst.sqf {ρ0 ρ : List Addr} {H0 H : Hp} (p : Pst ρ0 H0 ρ H) {K : PySem.W.Frag} {a : Addr} {vs : List V} (h : SqF K H0 a vs) : SqF K H a vs := by
  rcases h with ⟨o, h⟩ | h
  · exact .inl ⟨o, p.frz _ _ _ h⟩
  · exact .inr h
mutual
theorem RD.pst {G : Gc} {ρ0 ρ : List Addr} {H0 H : Hp} (p : Pst ρ0 H0 ρ H) : ∀ (d : D) (v : V), RD G ρ0 H0 d v → RD G ρ H d v
  | .non, _, h => h
  | .bl _, _, h => h
  | .int _, _, h => h
  | .str _, _, h => h
  | .tup ds, _, ⟨a, vs, e, hs, hd⟩ => ⟨a, vs, e, p.sqt hs, RDs.pst p ds vs hd⟩
  | .ref _, _, ⟨a, e, h⟩ => ⟨a, e, p.pre _ _ h⟩
  | .fn _, _, h => h
  | .frl ds, _, ⟨a, vs, e, hs, hd⟩ => ⟨a, vs, e, p.sqf hs, RDs.pst p ds vs hd⟩
theorem RDs.pst {G : Gc} {ρ0 ρ : List Addr} {H0 H : Hp} (p : Pst ρ0 H0 ρ H) : ∀ (ds : List D) (vs : List V), RDs G ρ0 H0 ds vs → RDs G ρ H ds vs
  | [], _, h => h
  | d :: ds, _, ⟨v, r, e, h1, h2⟩ => ⟨v, r, e, RD.pst p d v h1, RDs.pst p ds r h2⟩
end
theorem Clo.pst {G : Gc} {ρ0 ρ : List Addr} {H0 H : Hp} (p : Pst ρ0 H0 ρ H) {b : FE} {cap : List (Option D)} {f : Addr} (h : Clo G ρ0 H0 b cap f) : Clo G ρ H b cap f := by
  obtain ⟨q, ps, bd, sc, cl, pm, c', ctv, N, h1, ⟨h2, h3⟩, h4, h5, h6, h7, h8, h9⟩ := h
  refine ⟨q, ps, bd, sc, cl, pm, c', ctv, N, h1.imp (fun h => p.frz _ _ _ h) id, p.ext _ _ h3 h2, h4, h5, h6, h7, h8, ⟨fun x c e => ?_, h9.inj, h9.has, h9.fre, fun i x d e1 e2 e3 => ?_⟩⟩
  · obtain ⟨o, v, k1, k2⟩ := h9.at_ x c e
    exact ⟨o, v, p.frz _ _ _ k1, k2⟩
  · obtain ⟨c, o, u, w, k1, k2, k3, k4, k5⟩ := h9.val i x d e1 e2 e3
    exact ⟨c, o, u, w, k1, p.frz _ _ _ k2, k3, k4, RD.pst p _ _ k5⟩
theorem RS.pst {G : Gc} {ρ0 ρ : List Addr} {H0 H : Hp} (p : Pst ρ0 H0 ρ H) {xi : Xi} : ∀ (s : SV) (v : V), RS G xi ρ0 H0 s v → RS G xi ρ H s v
  | .d x, v, h => RD.pst p x v h
  | .clo b cap, v, ⟨f, e, h⟩ => ⟨f, e, h.pst p⟩
  | .exc c w, v, ⟨a, cls, dd, u, e1, e2, e3, e4, e5⟩ => ⟨a, cls, dd, u, e1, e2, p.xd _ _ e3, RD.pst p _ _ e4, e5⟩
theorem Loc.pst {G : Gc} {ρ0 ρ : List Addr} {H0 H : Hp} {xi : Xi} {σ : L2.St} {ls : Ls} (h : Loc G xi ρ0 H0 σ ls) (p : Pst ρ0 H0 ρ H) : Loc G xi ρ H σ ls :=
  ⟨h.len, fun i s e => let ⟨v, k1, k2⟩ := h.val i s e; ⟨v, k1, RS.pst p s v k2⟩⟩
/-- an iterator that gives the data xs as long as what it walks stands -/
structure Wd (G : Gc) (J : It) (xs : List D) (gd : Gd) (ρ0 : List Addr) (H0 : Hp) : Prop where
  go : ∀ i ρ H F, i < xs.length → Pst ρ0 H0 ρ H → RH G ρ H F → gok gd F = true → J.go i H
  stop : ∀ ρ H F, Pst ρ0 H0 ρ H → RH G ρ H F → gok gd F = true → J.stop xs.length H
  yld : ∀ i ρ H F v H', i < xs.length → Pst ρ0 H0 ρ H → RH G ρ H F → gok gd F = true → J.yld i H v H' → (∀ b o, H b = some o → H' b = some o) ∧ ∃ d, xs[i]? = some d ∧ RD G ρ H' d v
section
variable {G : Gc} {ρ0 : List Addr} {H0 : Hp} {F0 : FH}
/-- what a walked sequence is at any later heap -/
def Sq2 (G : Gc) (d : D) (xs : List D) (gd : Gd) (ρ0 : List Addr) (H0 : Hp) (a : Addr) : Prop :=
  ∀ ρ H F, Pst ρ0 H0 ρ H → RH G ρ H F → gok gd F = true → ∃ vs, (if isTp d = true then SqT G.K H a vs else SqL G.K H a vs) ∧ RDs G ρ H xs vs
theorem seqG_sq {d : D} {xs : List D} {gd : Gd} {v : V} (hF : RH G ρ0 H0 F0) (r : RD G ρ0 H0 d v) (h : seqG d F0 = some (xs, gd)) : ∃ a, v = .ref a ∧ Sq2 G d xs gd ρ0 H0 a := by
  unfold seqG at h
  split at h
  · cases h
    obtain ⟨a, vs, rfl, h1, h2⟩ := r
    refine ⟨a, rfl, fun ρ H F p _ _ => ⟨vs, ?_, RDs.pst p _ _ h2⟩⟩
    rw [if_pos (show isTp _ = true from rfl)]
    exact p.sqt h1
  · cases h
    obtain ⟨a, vs, rfl, h1, h2⟩ := r
    refine ⟨a, rfl, fun ρ H F p _ _ => ⟨vs, ?_, RDs.pst p _ _ h2⟩⟩
    simp only [isTp, Bool.false_eq_true, if_false]
    exact (p.sqf h1).sq
  · split at h
    · cases h
      obtain ⟨a, rfl, hn⟩ := r
      refine ⟨a, rfl, fun ρ H F p hF2 hg => ?_⟩
      have e := lstIs_eq (show lstIs F _ _ = true from by simpa [gok, gok1] using hg)
      obtain ⟨vs, k1, k2⟩ := hF2.lst (p.pre _ _ hn) e
      refine ⟨vs, ?_, k2⟩
      simp only [isTp, Bool.false_eq_true, if_false]
      exact .of k1
    · cases h
  · cases h
theorem wd_list {d : D} {xs : List D} {gd : Gd} {a : Addr} (h : Sq2 G d xs gd ρ0 H0 a) (hd : ¬ isTp d = true) : Wd G (Itl G.K a) xs gd ρ0 H0 := by
  refine ⟨fun i ρ H F hi p hF hg => ?_, fun ρ H F p hF hg => ?_, fun i ρ H F v H' hi p hF hg y => ?_⟩
  · obtain ⟨vs, k1, k2⟩ := h ρ H F p hF hg
    rw [if_neg hd] at k1
    obtain ⟨v, e, _⟩ := k2.vals i hi
    exact ⟨vs, v, k1, e⟩
  · obtain ⟨vs, k1, k2⟩ := h ρ H F p hF hg
    rw [if_neg hd] at k1
    exact ⟨vs, k1, by rw [k2.length]; exact Nat.le_refl _⟩
  · obtain ⟨vs, k1, k2⟩ := h ρ H F p hF hg
    rw [if_neg hd] at k1
    obtain ⟨rfl, y⟩ := y
    obtain ⟨w, e, r⟩ := k2.vals i hi
    have := (y vs k1).symm.trans e
    cases this
    exact ⟨fun _ _ z => z, _, List.getElem?_eq_getElem hi, r⟩
theorem wd_tup {d : D} {xs : List D} {gd : Gd} {a : Addr} (h : Sq2 G d xs gd ρ0 H0 a) (hd : isTp d = true) : Wd G (Itt G.K a) xs gd ρ0 H0 := by
  refine ⟨fun i ρ H F hi p hF hg => ?_, fun ρ H F p hF hg => ?_, fun i ρ H F v H' hi p hF hg y => ?_⟩
  · obtain ⟨vs, k1, k2⟩ := h ρ H F p hF hg
    rw [if_pos hd] at k1
    obtain ⟨v, e, _⟩ := k2.vals i hi
    exact ⟨vs, v, k1, e⟩
  · obtain ⟨vs, k1, k2⟩ := h ρ H F p hF hg
    rw [if_pos hd] at k1
    exact ⟨vs, k1, by rw [k2.length]; exact Nat.le_refl _⟩
  · obtain ⟨vs, k1, k2⟩ := h ρ H F p hF hg
    rw [if_pos hd] at k1
    obtain ⟨rfl, y⟩ := y
    obtain ⟨w, e, r⟩ := k2.vals i hi
    have := (y vs k1).symm.trans e
    cases this
    exact ⟨fun _ _ z => z, _, List.getElem?_eq_getElem hi, r⟩
theorem dicIs_eq {F : FH} {n ep : Nat} {ks : List D} (h : dicIs F n ep ks = true) : ∃ kvs, F[n]? = some (.dic ep kvs) ∧ kvs.map (·.1) = ks := by
  unfold dicIs at h
  split at h
  · rename_i e kvs he
    simp only [Bool.and_eq_true, beq_iff_eq] at h
    obtain ⟨rfl, h⟩ := h
    exact ⟨kvs, he, beqs_eq _ _ h⟩
  · cases h
theorem KVs.len : ∀ {ρ : List Addr} {H : Hp} {kvs : List (D × D)} {xs : List Ent}, KVs G ρ H kvs xs → xs.length = kvs.length
  | _, _, [], _, h => by cases (show _ = [] from h); rfl
  | _, _, _ :: _, _, ⟨_, _, e, _, _, _, _, h⟩ => by rw [e, List.length_cons, List.length_cons, KVs.len h]
theorem KVs.at' : ∀ {ρ : List Addr} {H : Hp} {kvs : List (D × D)} {xs : List Ent} {i : Nat} {x : Ent}, KVs G ρ H kvs xs → xs[i]? = some x → ∃ p kv, kvs[i]? = some p ∧ RelV kv x.2.1 ∧ RD G ρ H p.1 kv
  | _, _, [], _, i, x, h, e => by cases (show _ = [] from h); cases e
  | _, _, p :: r, _, 0, x, ⟨x0, xr, e0, _, _, ⟨kv, k1, k2⟩, _, h⟩, e => by
    subst e0
    cases e
    exact ⟨p, kv, rfl, k1, k2⟩
  | _, _, p :: r, _, i + 1, x, ⟨x0, xr, e0, _, _, _, _, h⟩, e => by
    subst e0
    exact KVs.at' (i := i) h e
/-- a dict at any later heap -/
theorem dic_later {n ep : Nat} {ks : List D} {a : Addr} (hn : ρ0[n]? = some a) {ρ : List Addr} {H : Hp} {F : FH} (p : Pst ρ0 H0 ρ H) (hF : RH G ρ H F) (hg : gok [(n, .dic ep ks)] F = true) :
    ∃ o es xs kvs, H a = some (exact o a) ∧ (a == sysModules) = false ∧ o.ExactDict ∧ o.data = .dict es ep ∧ es.toList = xs.map (entM G.T.w) ∧ kvs.map (·.1) = ks ∧ KVs G ρ H kvs xs ∧ es.size = ks.length := by
  obtain ⟨kvs, e1, e2⟩ := dicIs_eq (show dicIs F n ep ks = true from by simpa [gok, gok1] using hg)
  obtain ⟨o, es, xs, h1, h2, h3, h4, h5, h6, h7⟩ := hF.at_ n a _ (p.pre _ _ hn) e1
  refine ⟨o, es, xs, kvs, h1, h2, h3, h4, h5, e2, h7, ?_⟩
  rw [← Array.length_toList, h5, List.length_map, h7.len, ← e2, List.length_map]
theorem wd_dic {n ep : Nat} {ks : List D} {a : Addr} (hn : ρ0[n]? = some a) : Wd G (Itx a ep ks.length) ks [(n, .dic ep ks)] ρ0 H0 := by
  have ent : ∀ {es : Array DictEntry} {xs : List Ent} {i : Nat}, es.toList = xs.map (entM G.T.w) → es[i]? = (xs[i]?).map (entM G.T.w) := fun he => ent_at he _
  refine ⟨fun i ρ H F hi p hF hg => ?_, fun ρ H F p hF hg => ?_, fun i ρ H F v H' hi p hF hg y => ?_⟩
  · obtain ⟨o, es, xs, kvs, h1, h2, h3, h4, h5, h6, h7, h8⟩ := dic_later hn p hF hg
    have hl : i < xs.length := by rw [h7.len, ← List.length_map (f := (·.1)), h6]; exact hi
    have e := List.getElem?_eq_getElem hl
    obtain ⟨q, kv, _, k2, _⟩ := h7.at' e
    exact ⟨o, es, _, kv, h1, h4, h8, by rw [ent h5, e]; rfl, k2⟩
  · obtain ⟨o, es, xs, kvs, h1, h2, h3, h4, h5, h6, h7, h8⟩ := dic_later hn p hF hg
    exact ⟨o, es, h1, h4, h8, Nat.le_refl _⟩
  · obtain ⟨o, es, xs, kvs, h1, h2, h3, h4, h5, h6, h7, h8⟩ := dic_later hn p hF hg
    have hl : i < xs.length := by rw [h7.len, ← List.length_map (f := (·.1)), h6]; exact hi
    have e := List.getElem?_eq_getElem hl
    obtain ⟨q, kv, k1, k2, k3⟩ := h7.at' e
    obtain ⟨rfl, y⟩ := y
    have r := y o es _ h1 h4 (by rw [ent h5, e]; rfl)
    cases relV_inj r k2
    exact ⟨fun _ _ z => z, q.1, by rw [← h6, List.getElem?_map, k1]; rfl, k3⟩
theorem enumL_len (xs : List D) : (enumL xs).length = xs.length := by
  unfold enumL
  simp
theorem enumL_get {xs : List D} {i : Nat} {d : D} (h : xs[i]? = some d) : (enumL xs)[i]? = some (.tup [.int i, d]) := by
  unfold enumL
  have hi := (List.getElem?_eq_some_iff.mp h).1
  rw [List.getElem?_zipWith, List.getElem?_range hi, h]
/-- a new pair of the number and the item -/
theorem pair_rd {ρ : List Addr} {H : Hp} {T : Addr} {i : Nat} {d : D} {x : V} (hT : H T = none) (r : RD G ρ H d x) : RD G ρ (upd H T (.tup [.int (i : Nat), x])) (.tup [.int i, d]) (.ref T) :=
  ⟨T, [.int (i : Nat), x], rfl, .of upd_same, .int i, [x], rfl, rfl, x, [], rfl, RD.ext (ext_upd hT) r, rfl⟩
theorem wd_enum {d : D} {xs : List D} {gd : Gd} {a : Addr} (h : Sq2 G d xs gd ρ0 H0 a) (hd : ¬ isTp d = true) : Wd G (Ite G.K a) (enumL xs) gd ρ0 H0 := by
  refine ⟨fun i ρ H F hi p hF hg => ?_, fun ρ H F p hF hg => ?_, fun i ρ H F v H' hi p hF hg y => ?_⟩
  · obtain ⟨vs, k1, k2⟩ := h ρ H F p hF hg
    rw [if_neg hd] at k1
    obtain ⟨v, e, _⟩ := k2.vals i (by rw [← enumL_len]; exact hi)
    exact ⟨vs, v, k1, e⟩
  · obtain ⟨vs, k1, k2⟩ := h ρ H F p hF hg
    rw [if_neg hd] at k1
    exact ⟨vs, k1, by rw [enumL_len, k2.length]; exact Nat.le_refl _⟩
  · obtain ⟨vs, k1, k2⟩ := h ρ H F p hF hg
    rw [if_neg hd] at k1
    obtain ⟨T, x, rfl, hT, rfl, y⟩ := y
    have hi' : i < xs.length := by rw [← enumL_len]; exact hi
    obtain ⟨w, e, r⟩ := k2.vals i hi'
    have := (y vs k1).symm.trans e
    cases this
    exact ⟨ext_upd hT, _, enumL_get (List.getElem?_eq_getElem hi'), pair_rd hT r⟩
theorem wd_enumT {d : D} {xs : List D} {gd : Gd} {a : Addr} (h : Sq2 G d xs gd ρ0 H0 a) (hd : isTp d = true) : Wd G (ItT G.K a) (enumL xs) gd ρ0 H0 := by
  refine ⟨fun i ρ H F hi p hF hg => ?_, fun ρ H F p hF hg => ?_, fun i ρ H F v H' hi p hF hg y => ?_⟩
  · obtain ⟨vs, k1, k2⟩ := h ρ H F p hF hg
    rw [if_pos hd] at k1
    obtain ⟨v, e, _⟩ := k2.vals i (by rw [← enumL_len]; exact hi)
    exact ⟨vs, v, k1, e⟩
  · obtain ⟨vs, k1, k2⟩ := h ρ H F p hF hg
    rw [if_pos hd] at k1
    exact ⟨vs, k1, by rw [enumL_len, k2.length]⟩
  · obtain ⟨vs, k1, k2⟩ := h ρ H F p hF hg
    rw [if_pos hd] at k1
    obtain ⟨T, x, rfl, hT, rfl, y⟩ := y
    have hi' : i < xs.length := by rw [← enumL_len]; exact hi
    obtain ⟨w, e, r⟩ := k2.vals i hi'
    have := (y vs k1).symm.trans e
    cases this
    exact ⟨ext_upd hT, _, enumL_get (List.getElem?_eq_getElem hi'), pair_rd hT r⟩
theorem rng_get {i j : Int} {k : Nat} (h : k < (j - i).toNat) : (rng i j)[k]? = some (.int (i + k)) := by
  unfold rng
  rw [List.getElem?_map, List.getElem?_range h]
  rfl
theorem rng_len (i j : Int) : (rng i j).length = (j - i).toNat := by
  unfold rng
  simp
theorem wd_rng (i j : Int) : Wd G (Itr i (j - i).toNat) (rng i j) [] ρ0 H0 := by
  refine ⟨fun k ρ H F hi p hF hg => ?_, fun ρ H F p hF hg => ?_, fun k ρ H F v H' hi p hF hg y => ?_⟩
  · rw [rng_len] at hi
    exact hi
  · show (j - i).toNat ≤ (rng i j).length
    rw [rng_len]
    exact Nat.le_refl _
  · rw [rng_len] at hi
    obtain ⟨rfl, rfl⟩ := y
    exact ⟨fun _ _ z => z, _, rng_get hi, rfl⟩
end
section
variable {X : Cx} {T : Tb} {xi : Xi} {C : CT} {W : WX} {tg : Expr}
theorem PI.imp {it : Expr} {w w' : TI} (h : PI X tg it w) (hi : ∀ σ H R, w' σ H R → w σ H R) : PI X tg it w' := ⟨fun pins s σ H R I hw => h.run pins s σ H R I (hi σ H R hw)⟩
/-- what is walked, by data -/
def rI (X : Cx) (T : Tb) (xi : Xi) (C : CT) (W : WX) (k : IK) (its : List FE) : TI := fun σ H R => ∃ ρ F ls, Loc (gc X T) xi ρ H σ ls ∧ RH (gc X T) ρ H F ∧
  Sat (gc X T) ρ H W σ (evs C T.P its ls F) fun ds ρ' H' F' => ∃ xs g, walk k ds F' = some (xs, g) ∧ ∀ J, Wd (gc X T) J xs g ρ' H' → R J H'
theorem evs_one {e : FE} {ls : Ls} {F : FH} {ρ : List Addr} {H : Hp} {σ : L2.St} {k : List D → List Addr → Hp → FH → Prop} (h : Sat (gc X T) ρ H W σ (evs C T.P [e] ls F) k) : Sat (gc X T) ρ H W σ (ev C T.P e ls F) fun d => k [d] := by
  rw [evs] at h
  cases q : ev C T.P e ls F with
  | ok d F1 =>
    rw [q] at h
    replace h : Sat (gc X T) ρ H W σ ((evs C T.P [] ls F1).bind fun xs F => R.ok (d :: xs) F) k := h
    rw [evs] at h
    exact h
  | exc c w F1 => rw [q] at h; exact h
  | bad => rw [q] at h; exact h
theorem seqG_gok {d : D} {F : FH} {xs : List D} {g : Gd} (e2 : seqG d F = some (xs, g)) : gok g F = true := by
  unfold seqG at e2
  split at e2
  · cases e2; rfl
  · cases e2; rfl
  · split at e2
    · rename_i ds' e3
      cases e2
      unfold gok gok1 lstIs
      simp only [List.all_cons, List.all_nil, Bool.and_true, e3]
      exact beqs_refl _
    · cases e2
  · cases e2
theorem si_plain {it : Expr} {e : FE} (h : PE X it (rE X T xi C W e)) : PI X tg it (rI X T xi C W .plain [e]) := by
  refine ⟨fun pins s σ H R I ⟨ρ, F, ls, hl, hF, hs⟩ => ?_⟩
  have hs := evs_one hs
  by_cases hdic : ∃ d F1 xs g, ev C T.P e ls F = .ok d F1 ∧ seqG d F1 = none ∧ dicG d F1 = some (xs, g)
  · obtain ⟨d, F1, xs, g, e1, e2, e3⟩ := hdic
    refine (pi_dic h).run pins s σ H R I ⟨ρ, F, ls, hl, hF, ?_⟩
    rw [e1] at hs ⊢
    intro ρ' H' p hF' v r
    obtain ⟨xs', g', w1, hk⟩ := hs ρ' H' p hF'
    have w2 : (match seqG d F1 with
      | some p => some p
      | none => dicG d F1) = some (xs', g') := w1
    rw [e2] at w2
    replace w2 : dicG d F1 = some (xs', g') := w2
    unfold dicG at w2
    split at w2
    · rename_i n
      split at w2
      · rename_i ep kvs ef
        cases w2
        obtain ⟨a, rfl, hn⟩ := r
        obtain ⟨o, es, xs, h1, h2, h3, h4, h5, h6, h7⟩ := hF'.at_ n a _ hn ef
        have hz : es.size = (kvs.map (·.1)).length := by rw [← Array.length_toList, h5, List.length_map, h7.len, List.length_map]
        exact ⟨a, o, es, ep, rfl, h2, h1, h3, h4, by rw [hz]; exact hk _ (wd_dic hn)⟩
      · cases w2
    · cases w2
  have two : ∀ d ρ' H' F' v, seqG d F' ≠ none → RH (gc X T) ρ' H' F' → (∃ xs g, walk .plain [d] F' = some (xs, g) ∧ ∀ J, Wd (gc X T) J xs g ρ' H' → R J H') → RD (gc X T) ρ' H' d v →
      ∃ a, v = .ref a ∧ ((¬ isTp d = true) → (∃ xs, SqL X.K H' a xs) ∧ R (Itl X.K a) H') ∧ ((isTp d = true) → (∃ xs, SqT X.K H' a xs) ∧ R (Itt X.K a) H') := by
    intro d ρ' H' F' v hz hF' ⟨xs, g, e1, hk⟩ r
    have e2 : seqG d F' = some (xs, g) := by
      have w : (match seqG d F' with
        | some p => some p
        | none => dicG d F') = some (xs, g) := e1
      cases z : seqG d F' with
      | some p => rw [z] at w; exact w
      | none => exact absurd z hz
    obtain ⟨a, rfl, q⟩ := seqG_sq hF' r e2
    have hg : gok g F' = true := by
      unfold seqG at e2
      split at e2
      · cases e2; rfl
      · cases e2; rfl
      · split at e2
        · rename_i ds' e3
          cases e2
          unfold gok gok1 lstIs
          simp only [List.all_cons, List.all_nil, Bool.and_true, e3]
          exact beqs_refl _
        · cases e2
      · cases e2
    obtain ⟨vs, k1, k2⟩ := q ρ' H' F' (Post.refl _ _).pst hF' hg
    refine ⟨a, rfl, fun hd => ?_, fun hd => ?_⟩
    · rw [if_neg hd] at k1
      exact ⟨⟨vs, k1⟩, hk _ (wd_list q hd)⟩
    · rw [if_pos hd] at k1
      exact ⟨⟨vs, k1⟩, hk _ (wd_tup q hd)⟩
  by_cases ht : ∃ ds F1, ev C T.P e ls F = .ok (.tup ds) F1
  · obtain ⟨ds, F1, e1⟩ := ht
    refine (pi_tup h).run pins s σ H R I ⟨ρ, F, ls, hl, hF, ?_⟩
    rw [e1] at hs ⊢
    intro ρ' H' p hF' v r
    obtain ⟨a, rfl, _, h2⟩ := two _ ρ' H' F1 v (by unfold seqG; exact fun z => by cases z) hF' (hs ρ' H' p hF') r
    exact ⟨a, rfl, h2 rfl⟩
  · refine (pi_list h).run pins s σ H R I ⟨ρ, F, ls, hl, hF, ?_⟩
    cases e1 : ev C T.P e ls F with
    | ok d F1 =>
      rw [e1] at hs
      intro ρ' H' p hF' v r
      have hz : seqG d F1 ≠ none := fun z => by
        obtain ⟨xs', g', w1, _⟩ := hs ρ' H' p hF'
        have w2 : (match seqG d F1 with
          | some p => some p
          | none => dicG d F1) = some (xs', g') := w1
        rw [z] at w2
        exact hdic ⟨d, F1, xs', g', e1, z, w2⟩
      obtain ⟨a, rfl, h1, _⟩ := two _ ρ' H' F1 v hz hF' (hs ρ' H' p hF') r
      exact ⟨a, rfl, h1 fun z => by
        cases d with
        | tup ds => exact ht ⟨ds, F1, e1⟩
        | _ => cases z⟩
    | exc c w F1 => rw [e1] at hs; exact hs
    | bad => rw [e1] at hs; exact hs
theorem evs_len {es : List FE} : ∀ {ls : Ls} {F F' : FH} {ds : List D}, evs C T.P es ls F = .ok ds F' → ds.length = es.length := by
  induction es with
  | nil =>
    intro ls F F' ds h
    rw [evs] at h
    cases h
    rfl
  | cons e es ih =>
    intro ls F F' ds h
    rw [evs] at h
    obtain ⟨v, F1, e1, h⟩ := bind_ok h
    obtain ⟨vs, F2, e2, h⟩ := bind_ok h
    cases h
    rw [List.length_cons, List.length_cons, ih e2]
theorem bnd_of {i : Int} (h : bnd i = true) : -(2 ^ 62) ≤ i ∧ i < 2 ^ 62 := by
  obtain ⟨h1, h2⟩ := two h
  exact ⟨of_decide_eq_true h1, of_decide_eq_true h2⟩
theorem si_range1 {a : Expr} {e : FE} {p pos : Pos} (hg : Gl X (so "range")) (hm : X.mg (so "range") = none) (hst : (!isStar a) = true) (ha : PA X [a] (rEs X T xi C W [e])) : PI X tg (.Call (.Name (so "range") p) [a] [] pos) (rI X T xi C W .range [e]) :=
  PI.imp (pi_range1 hg hm ha (star_cons hst)) fun σ H R ⟨ρ, F, ls, hl, hF, hs⟩ => by
    refine ⟨ρ, F, ls, hl, hF, (hs.with fun a F e => evs_len e).mono fun ds ρ1 H1 F1 p1 hF1 ⟨hn, xs, g, hw, hk⟩ vs r => ?_⟩
    unfold walk at hw
    split at hw
    · contradiction
    · split at hw
      · rename_i hb
        cases hw
        obtain ⟨v, rfl, r0⟩ := r.one
        cases (show v = _ from r0)
        obtain ⟨b1, b2⟩ := bnd_of hb
        refine ⟨_, rfl, b1, b2, ?_⟩
        have := hk _ (wd_rng 0 _)
        rwa [Int.sub_zero] at this
      · cases hw
    · cases hn
    · contradiction
    · contradiction
    · cases hw
theorem si_range2 {a b : Expr} {e e2 : FE} {p pos : Pos} (hg : Gl X (so "range")) (hm : X.mg (so "range") = none) (hst : (!isStar a) = true) (hst2 : (!isStar b) = true) (ha : PA X [a, b] (rEs X T xi C W [e, e2])) : PI X tg (.Call (.Name (so "range") p) [a, b] [] pos) (rI X T xi C W .range [e, e2]) :=
  PI.imp (pi_range2 hg hm ha (by rw [star_cons hst, star_cons hst2]; rfl) (star_cons hst2)) fun σ H R ⟨ρ, F, ls, hl, hF, hs⟩ => by
    refine ⟨ρ, F, ls, hl, hF, (hs.with fun a F e => evs_len e).mono fun ds ρ1 H1 F1 p1 hF1 ⟨hn, xs, g, hw, hk⟩ vs r => ?_⟩
    unfold walk at hw
    split at hw
    · contradiction
    · cases hn
    · split at hw
      · rename_i hb
        cases hw
        obtain ⟨v, u, rfl, r0, r'⟩ := r.two
        cases (show v = _ from r0)
        cases (show u = _ from r')
        obtain ⟨b1, b2⟩ := two hb
        obtain ⟨b1, b3⟩ := bnd_of b1
        obtain ⟨b2, b4⟩ := bnd_of b2
        exact ⟨_, _, rfl, ⟨b1, b3, b2, b4⟩, hk _ (wd_rng _ _)⟩
      · cases hw
    · contradiction
    · contradiction
    · cases hw
theorem si_enum {a : Expr} {e : FE} {p pos tpos : Pos} {elts : List Expr} {kk : Nat} (hg : Gl X (so "enumerate")) (hm : X.mg (so "enumerate") = none) (hst : (!isStar a) = true) (ha : PA X [a] (rEs X T xi C W [e])) :
    PI X (.Tuple elts kk tpos) (.Call (.Name (so "enumerate") p) [a] [] pos) (rI X T xi C W .enum [e]) := by
  refine ⟨fun pins s σ H R I ⟨ρ, F, ls, hl, hF, hs⟩ => ?_⟩
  have two : ∀ ds ρ' H' F' vs, RH (gc X T) ρ' H' F' → (∃ xs g, walk .enum ds F' = some (xs, g) ∧ ∀ J, Wd (gc X T) J xs g ρ' H' → R J H') → RDs (gc X T) ρ' H' ds vs →
      ∃ d a, ds = [d] ∧ vs = [.ref a] ∧ ((¬ isTp d = true) → ∃ xs, SqL X.K H' a xs ∧ R (Ite X.K a) H') ∧ ((isTp d = true) → ∃ xs, SqT X.K H' a xs ∧ R (ItT X.K a) H') := by
    intro ds ρ' H' F' vs hF' ⟨xs, g, e1, hk⟩ r
    unfold walk at e1
    split at e1
    · contradiction
    · contradiction
    · contradiction
    · rename_i d _
      obtain ⟨v, rfl, r0⟩ := r.one
      cases e2 : seqG d F' with
      | none => rw [e2] at e1; cases e1
      | some pr =>
        rw [e2] at e1
        obtain ⟨ys, g⟩ := pr
        cases e1
        obtain ⟨a, rfl, q⟩ := seqG_sq hF' r0 e2
        have hg : gok g F' = true := by
          unfold seqG at e2
          split at e2
          · cases e2; rfl
          · cases e2; rfl
          · split at e2
            · rename_i ds' e3
              cases e2
              unfold gok gok1 lstIs
              simp only [List.all_cons, List.all_nil, Bool.and_true, e3]
              exact beqs_refl _
            · cases e2
          · cases e2
        obtain ⟨vs, k1, k2⟩ := q ρ' H' F' (Post.refl _ _).pst hF' hg
        refine ⟨d, a, rfl, rfl, fun hd => ?_, fun hd => ?_⟩
        · rw [if_neg hd] at k1
          exact ⟨vs, k1, hk _ (wd_enum q hd)⟩
        · rw [if_pos hd] at k1
          exact ⟨vs, k1, hk _ (wd_enumT q hd)⟩
    · contradiction
    · cases e1
  by_cases ht : ∃ ds F1, evs C T.P [e] ls F = .ok [.tup ds] F1
  · obtain ⟨ds, F1, e1⟩ := ht
    refine (pi_enumT hg hm ha (star_cons hst)).run pins s σ H R I ⟨ρ, F, ls, hl, hF, ?_⟩
    rw [e1] at hs ⊢
    intro ρ' H' p hF' v r
    obtain ⟨d, a, ed, rfl, _, h2⟩ := two _ ρ' H' F1 v hF' (hs ρ' H' p hF') r
    cases ed
    obtain ⟨xs, k1, k2⟩ := h2 rfl
    exact ⟨a, xs, rfl, k1, k2⟩
  · refine (pi_enum hg hm ha (star_cons hst)).run pins s σ H R I ⟨ρ, F, ls, hl, hF, ?_⟩
    cases e1 : evs C T.P [e] ls F with
    | ok ds F1 =>
      rw [e1] at hs
      intro ρ' H' p hF' v r
      obtain ⟨d, a, rfl, rfl, h1, _⟩ := two _ ρ' H' F1 v hF' (hs ρ' H' p hF') r
      obtain ⟨xs, k1, k2⟩ := h1 fun z => by
        cases d with
        | tup ds => exact ht ⟨ds, F1, e1⟩
        | _ => cases z
      exact ⟨a, xs, rfl, k1, k2⟩
    | exc c w F1 => rw [e1] at hs; exact hs
    | bad => rw [e1] at hs; exact hs
theorem folded_no {e : Expr} (h : (!isSet e) = true) (env : Env) (x : Value) : foldedSetIterable e env x = pure x := by
  cases e <;> first | rfl | (cases h; done)
end
end Fv
set_option Elab.async false
set_option linter.all false
set_option maxRecDepth 100000
set_option maxHeartbeats 1000000
/-! Fv, 16: targets, comprehensions. -/
namespace Fv
open PySem PySem.Spec PyProof.Rows L2
/-! ### slots forgotten -/
theorem wipe_in {σ : L2.St} {i : Nat} : ∀ {vs : List Nat}, i ∈ vs → (L2.wipe σ vs)[i]? = if i < σ.length then some none else none
  | v :: vs, h => by
    unfold L2.wipe
    rw [List.getElem?_set, L2.wipe_length]
    by_cases e : v = i
    · subst e
      rw [if_pos rfl]
    · rw [if_neg e]
      exact wipe_in ((List.mem_cons.mp h).resolve_left fun z => e z.symm)
theorem wipe_set {σ : L2.St} {i : Nat} {x : Option V} {vs : List Nat} (h : i ∈ vs) : L2.wipe (σ.set i x) vs = L2.wipe σ vs := by
  refine List.ext_getElem? fun j => ?_
  by_cases hj : j ∈ vs
  · rw [wipe_in hj, wipe_in hj, List.length_set]
  · rw [wipe_out hj, wipe_out hj, List.getElem?_set_ne (fun z => hj (by rw [← z]; exact h))]
theorem wipe_wipe (σ : L2.St) (vs : List Nat) : L2.wipe (L2.wipe σ vs) vs = L2.wipe σ vs := by
  refine List.ext_getElem? fun j => ?_
  by_cases hj : j ∈ vs
  · rw [wipe_in hj, wipe_in hj, L2.wipe_length]
  · rw [wipe_out hj]
/-! ### targets -/
def rG (X : Cx) (T : Tb) (xi : Xi) (t : Tg) : TG := fun v σ H Q => ∃ ρ F d ls ls', RH (gc X T) ρ H F ∧ RD (gc X T) ρ H d v ∧ Loc (gc X T) xi ρ H σ ls ∧ bindT t d ls = some ls' ∧
  ∀ σ', Loc (gc X T) xi ρ H σ' ls' → (∀ vs, tgIn vs t = true → L2.wipe σ' vs = L2.wipe σ vs) → Q σ' H
def rGs (X : Cx) (T : Tb) (xi : Xi) (is : List Nat) : TGs := fun us σ H Q => ∃ ρ F ds ls, RH (gc X T) ρ H F ∧ RDs (gc X T) ρ H ds us ∧ Loc (gc X T) xi ρ H σ ls ∧ ds.length = is.length ∧
  ∀ σ', Loc (gc X T) xi ρ H σ' (setAll is ds ls) → (∀ vs, (∀ i ∈ is, i ∈ vs) → L2.wipe σ' vs = L2.wipe σ vs) → Q σ' H
section
variable {X : Cx} {T : Tb} {xi : Xi} {C : CT} {W : WX} {fl : Fl}
theorem loc_of {sc : Scope} {x : Str} (h : locB fl sc x = true) (hf : fl.top = true → ∀ x, X.fn x = true) (e : sc = X.env.scope) : L2.Loc X.env.scope x ∧ (X.fn x = true ∨ X.env.scope.names.lookup x = some .local) := by
  subst e
  unfold locB knd at h
  split at h
  · rename_i e
    exact ⟨.inl e, .inr e⟩
  · rename_i e
    exact ⟨.inr e, .inl (hf h x)⟩
  · cases h
theorem sg_name {i : Nat} {x : Str} {p : Pos} (hN : X.N.Nodup) (hi : X.N[i]? = some x) (hx : L2.Loc X.env.scope x ∧ (X.fn x = true ∨ X.env.scope.names.lookup x = some .local)) : PG X (.Name x p) (rG X T xi (.nm i)) :=
  ⟨fun pins s σ H v u Q I r ⟨ρ, F, d, ls, ls', hF, rd, hl, hb, q⟩ => (pg_name (pos := p) hN hi hx.1 hx.2).run pins s σ H v u Q I r (by
    cases hb
    exact q _ (hl.set (s := .d d) rd i) fun vs hv => wipe_set (by simpa [tgIn] using hv))⟩
theorem gs_run (hN : X.N.Nodup) (hf : fl.top = true → ∀ x, X.fn x = true) : ∀ (is : List Nat) (es : List Expr), chkT.goT fl X.N X.env.scope is es = true → PGs X es (rGs X T xi is)
  | [], es, h => by
    unfold chkT.goT at h
    split at h
    · refine ⟨fun pins s σ H vs us Q I r ⟨ρ, F, ds, ls, hF, rd, hl, hn, q⟩ => pgs_nil.run pins s σ H vs us Q I r ?_⟩
      cases ds with
      | cons _ _ => cases hn
      | nil => exact ⟨rd, q σ hl fun _ _ => rfl⟩
    · contradiction
    · cases h
  | i :: is, es, h => by
    unfold chkT.goT at h
    split at h
    · contradiction
    · rename_i i' is' x p es' e
      cases e
      simp only [Bool.and_eq_true, decide_eq_true_eq] at h
      obtain ⟨⟨h1, h2⟩, h3⟩ := h
      have hx := loc_of (X := X) h2 hf rfl
      refine ⟨fun pins s σ H vs us Q I r ⟨ρ, F, ds, ls, hF, rd, hl, hn, q⟩ => (pgs_cons (pg_name (pos := p) hN h1 hx.1 hx.2) (gs_run hN hf is es' h3) rfl).run pins s σ H vs us Q I r ?_⟩
      cases ds with
      | nil => cases hn
      | cons d ds =>
        obtain ⟨v, r', rfl, r1, r2⟩ := rd
        refine ⟨v, r', rfl, ρ, F, ds, _, hF, r2, hl.set (s := .d d) r1 i, by simpa using hn, fun σ' hl' hw => q σ' hl' fun vs hv => ?_⟩
        rw [hw vs fun j hj => hv j (List.mem_cons_of_mem _ hj)]
        exact wipe_set (hv i (List.mem_cons_self ..))
    · cases h
theorem ea_len (env : Env) : ∀ (is : List Nat) (es : List Expr), chkT.goT fl X.N X.env.scope is es = true → (assignEach es env).length = is.length ∧ (assignEach es env).findIdx? (·.1) = none
  | [], es, h => by
    unfold chkT.goT at h
    split at h
    · exact ⟨rfl, rfl⟩
    · contradiction
    · cases h
  | i :: is, es, h => by
    unfold chkT.goT at h
    split at h
    · contradiction
    · rename_i i' is' x p es' e
      cases e
      simp only [Bool.and_eq_true, decide_eq_true_eq] at h
      obtain ⟨l1, l2⟩ := ea_len env is es' h.2
      refine ⟨?_, ?_⟩
      · show (assignEach es' env).length + 1 = is.length + 1
        rw [l1]
      · show List.findIdx? (·.1) ((false, assign (.Name x p) env) :: assignEach es' env) = none
        rw [List.findIdx?_cons]
        simp [l2]
    · cases h
theorem sg_any {t : Tg} {e : Expr} (hN : X.N.Nodup) (hc : X.calm = true) (hf : fl.top = true → ∀ x, X.fn x = true) (h : chkT fl X.N X.env.scope t e = true) : PG X e (rG X T xi t) := by
  unfold chkT at h
  split at h
  · simp only [Bool.and_eq_true, decide_eq_true_eq] at h
    exact sg_name hN h.1 (loc_of h.2 hf rfl)
  · rename_i is es k p
    obtain ⟨l1, l2⟩ := ea_len X.env is es h
    refine ⟨fun pins s σ H v u Q I r ⟨ρ, F, d, ls, ls', hF, rd, hl, hb, q⟩ => (pg_tup hc (gs_run (T := T) (xi := xi) hN hf is es h) l1 l2).run pins s σ H v u Q I r ?_⟩
    have hb' : ∃ ds0, d = .tup ds0 ∧ ds0.length = is.length ∧ setAll is ds0 ls = ls' := by
      cases d with
      | tup ds0 =>
        unfold bindT at hb
        simp only at hb
        split at hb
        · rename_i hn
          exact ⟨ds0, rfl, hn, Option.some.inj hb⟩
        · cases hb
      | _ => cases hb
    obtain ⟨ds0, rfl, hn, rfl⟩ := hb'
    obtain ⟨a, us, rfl, k1, k2⟩ := rd
    refine ⟨a, us, rfl, k1, by rw [← k2.length]; exact hn, ρ, F, ds0, ls, hF, k2, hl, hn, fun σ' hl' hw => q σ' hl' fun vs hv => hw vs fun i hi => ?_⟩
    have := List.all_eq_true.mp (show is.all (fun i => vs.contains i) = true from hv) i hi
    simpa using this
  · cases h
/-! ### comprehensions -/
/-- all but lists stays -/
def Fix (H H' : Hp) : Prop := ∀ b o, H b = some o → (∀ vs, o ≠ .lst vs) → H' b = some o
end
section
variable {G : Gc} {ρ : List Addr} {H H' : Hp} {F : FH}
theorem Fix.tup (x : Fix H H') {K : PySem.W.Frag} {a : Addr} {vs : List V} (h : SqT K H a vs) : SqT K H' a vs := by
  rcases h with (h | ⟨o, h⟩) | h
  · exact .inl (.inl (x _ _ h fun _ z => by cases z))
  · exact .inl (.inr ⟨o, x _ _ h fun _ z => by cases z⟩)
  · exact .inr h
theorem Fix.frl (x : Fix H H') {K : PySem.W.Frag} {a : Addr} {vs : List V} (h : SqF K H a vs) : SqF K H' a vs := by
  rcases h with ⟨o, h⟩ | h
  · exact .inl ⟨o, x _ _ h fun _ z => by cases z⟩
  · exact .inr h
mutual
theorem RD.fix (x : Fix H H') : ∀ (d : D) (v : V), RD G ρ H d v → RD G ρ H' d v
  | .non, _, h => h
  | .bl _, _, h => h
  | .int _, _, h => h
  | .str _, _, h => h
  | .tup ds, _, ⟨a, vs, e, hs, hd⟩ => ⟨a, vs, e, x.tup hs, RDs.fix x ds vs hd⟩
  | .ref _, _, h => h
  | .fn _, _, h => h
  | .frl ds, _, ⟨a, vs, e, hs, hd⟩ => ⟨a, vs, e, x.frl hs, RDs.fix x ds vs hd⟩
theorem RDs.fix (x : Fix H H') : ∀ (ds : List D) (vs : List V), RDs G ρ H ds vs → RDs G ρ H' ds vs
  | [], _, h => h
  | d :: ds, _, ⟨v, r, e, h1, h2⟩ => ⟨v, r, e, RD.fix x d v h1, RDs.fix x ds r h2⟩
end
/-- a list that is not of ours is changed -/
theorem fix_upd {Dd : Addr} {us vs : List V} (h : H Dd = some (.lst us)) : Fix H (L2.upd H Dd (.lst vs)) := fun b o e hn => by
  rw [upd_ne fun z => by subst z; rw [h] at e; exact hn _ (Option.some.inj e).symm]
  exact e
theorem RH.other {Dd : Addr} {us vs : List V} (hF : RH G ρ H F) (h : H Dd = some (.lst us)) (hn : Dd ∉ ρ) : RH G ρ (L2.upd H Dd (.lst vs)) F := by
  have x : Fix H (L2.upd H Dd (.lst vs)) := fix_upd h
  refine ⟨hF.len, hF.nd, fun n a o e1 e2 => ?_, fun p hp => ?_⟩
  · have q := hF.at_ n a o e1 e2
    cases o with
    | lst ds =>
      obtain ⟨ws, k1, k2⟩ := q
      exact ⟨ws, by rw [upd_ne fun z => hn (by rw [← z]; exact List.mem_of_getElem? e1)]; exact k1, RDs.fix x _ _ k2⟩
    | dic ep kvs =>
      obtain ⟨o, es, xs, q1, q2, q3, q4, q5, q6, q7⟩ := q
      exact ⟨o, es, xs, by rw [upd_ne fun z => hn (by rw [← z]; exact List.mem_of_getElem? e1)]; exact q1, q2, q3, q4, q5, q6, q7.imp fun d v r => RD.fix x d v r⟩
  · obtain ⟨ps, h1, h2, h3⟩ := hF.tab p hp
    refine ⟨ps, x _ _ h1 (fun _ z => by cases z), h2, fun pos cv hc => ?_⟩
    obtain ⟨c, e1, e2⟩ := h3 pos cv hc
    exact ⟨c, e1, x _ _ e2 fun _ z => by unfold LamX.CodeO at z; cases z⟩
/-- a list that was not of ours becomes so -/
theorem RH.adopt {Dd : Addr} {ds : List D} {vs : List V} (hF : RH G ρ H F) (h : H Dd = some (.lst vs)) (hn : Dd ∉ ρ) (r : RDs G ρ H ds vs) : RH G (ρ ++ [Dd]) H (F ++ [.lst ds]) ∧ RD G (ρ ++ [Dd]) H (.ref F.length) (.ref Dd) := by
  have p : ∀ d v, RD G ρ H d v → RD G (ρ ++ [Dd]) H d v := fun d v => more d v
  refine ⟨⟨by simp [hF.len], List.nodup_append.mpr ⟨hF.nd, by simp, fun x hx y hy e => hn (by rw [List.mem_singleton] at hy; rw [← hy, ← e]; exact hx)⟩, fun n b o h1 h2 => ?_, hF.tab⟩, ⟨Dd, rfl, ?_⟩⟩
  · by_cases hl : n < ρ.length
    · rw [List.getElem?_append_left hl] at h1
      rw [List.getElem?_append_left (by rw [← hF.len]; exact hl)] at h2
      have q := hF.at_ n b o h1 h2
      cases o with
      | lst es =>
        obtain ⟨ws, q1, q2⟩ := q
        exact ⟨ws, q1, mores _ _ q2⟩
      | dic ep kvs =>
        obtain ⟨o, es, xs, q1, q2, q3, q4, q5, q6, q7⟩ := q
        exact ⟨o, es, xs, q1, q2, q3, q4, q5, q6, q7.imp fun d v r => more d v r⟩
    · have e1 : n = ρ.length := by
        have := (List.getElem?_eq_some_iff.mp h1).1
        rw [List.length_append, List.length_singleton] at this
        omega
      subst e1
      rw [List.getElem?_append_right (Nat.le_refl _), Nat.sub_self] at h1
      rw [hF.len, List.getElem?_append_right (Nat.le_refl _), Nat.sub_self] at h2
      cases h1
      cases h2
      exact ⟨vs, h, mores _ _ r⟩
  · rw [← hF.len, List.getElem?_append_right (Nat.le_refl _), Nat.sub_self]
    rfl
where
  more : ∀ (d : D) (v : V), RD G ρ H d v → RD G (ρ ++ [Dd]) H d v
  | .non, _, h => h
  | .bl _, _, h => h
  | .int _, _, h => h
  | .str _, _, h => h
  | .tup ds, _, ⟨a, vs, e, hs, hd⟩ => ⟨a, vs, e, hs, mores ds vs hd⟩
  | .ref _, _, ⟨a, e, h⟩ => ⟨a, e, by rw [List.getElem?_append_left (List.getElem?_eq_some_iff.mp h).1]; exact h⟩
  | .fn _, _, h => h
  | .frl ds, _, ⟨a, vs, e, hs, hd⟩ => ⟨a, vs, e, hs, mores ds vs hd⟩
  mores : ∀ (ds : List D) (vs : List V), RDs G ρ H ds vs → RDs G (ρ ++ [Dd]) H ds vs
  | [], _, h => h
  | d :: ds, _, ⟨v, r, e, h1, h2⟩ => ⟨v, r, e, more d v h1, mores ds r h2⟩
theorem compL_ok {g : Gd} {body : D → FH → R (List D)} : ∀ {xs acc : List D} {F : FH} {c : String} {w : D} {F' : FH}, compL g body xs acc F ≠ .exc c w F'
  | [], acc, F, c, w, F', h => by
    unfold compL at h
    split at h <;> cases h
  | x :: xs, acc, F, c, w, F', h => by
    unfold compL at h
    split at h
    · split at h
      · exact compL_ok h
      · cases h
    · cases h
theorem compL_len {g : Gd} {body : D → FH → R (List D)} : ∀ {xs acc : List D} {F : FH} {r : List D} {F' : FH}, compL g body xs acc F = .ok r F' → acc.length ≤ r.length
  | [], acc, F, r, F', h => by
    unfold compL at h
    split at h
    · cases h; exact Nat.le_refl _
    · cases h
  | x :: xs, acc, F, r, F', h => by
    unfold compL at h
    split at h
    · split at h
      · have := compL_len h
        rw [List.length_append] at this
        omega
      · cases h
    · cases h
/-- a comprehension's rest that is fit to be gone: how many it has made -/
theorem comp_fit {W : WX} {σ : L2.St} {g : Gd} {body : D → FH → R (List D)} {xs acc : List D} {k : D → List Addr → Hp → FH → Prop} (h : Sat G ρ H W σ ((compL g body xs acc F).bind newL) k) : acc.length ≤ sizeLine := by
  cases e : compL g body xs acc F with
  | ok r F' =>
    rw [e] at h
    replace h : Sat G ρ H W σ (newL r F') k := h
    unfold newL at h
    split at h
    · rename_i hb
      exact Nat.le_trans (compL_len e) (big_line hb)
    · exact False.elim h
  | exc c w F' => exact absurd e compL_ok
  | bad => rw [e] at h; exact False.elim h
end
section
variable {X : Cx} {T : Tb} {C : CT} {W : WX}
abbrev WF : WX := fun _ _ _ _ => False
/-- the tests of a clause -/
def rTs (X : Cx) (T : Tb) (C : CT) (W : WX) (ifs : List FE) : TT := fun σ H Q => ∃ ρ F ls, Loc (gc X T) none ρ H σ ls ∧ RH (gc X T) ρ H F ∧ Sat (gc X T) ρ H W σ (evt C T.P ifs ls F) fun b _ H' _ => Q b H'
theorem evt_one {e : FE} {ls : Ls} {F : FH} {ρ : List Addr} {H : Hp} {σ : L2.St} {k : Bool → List Addr → Hp → FH → Prop} (h : Sat (gc X T) ρ H W σ (evt C T.P [e] ls F) k) : Sat (gc X T) ρ H W σ ((ev C T.P e ls F).bind fun x F => lift (truth F x) F) k := by
  rw [evt] at h
  cases q : ev C T.P e ls F with
  | ok d F1 =>
    rw [q] at h
    replace h : Sat (gc X T) ρ H W σ ((lift (truth F1 d) F1).bind fun b F => if b then evt C T.P [] ls F else .ok false F) k := h
    show Sat (gc X T) ρ H W σ (lift (truth F1 d) F1) k
    cases q2 : truth F1 d with
    | none => rw [q2] at h; exact h
    | some b =>
      rw [q2] at h
      cases b with
      | true =>
        replace h : Sat (gc X T) ρ H W σ (evt C T.P [] ls F1) k := h
        rw [evt] at h
        exact h
      | false => exact h
  | exc c w F1 => rw [q] at h; exact h
  | bad => rw [q] at h; exact h
/-- one turn -/
def turn1 (C : CT) (P : Pg) (vs : List Nat) (elt : FE) (tg : Tg) (ifs : List FE) (ls : Ls) (x : D) (F : FH) : R (List D) := (match bindT tg x (wipeL ls vs) with
      | some ls' => (evt C P ifs ls' F).bind fun b F => if b then (ev C P elt ls' F).bind fun y F => .ok [y] F else .ok [] F
      | none => .bad)
theorem comp_read {vs : List Nat} {elt : FE} {tg : Tg} {k : IK} {its ifs : List FE} {σ : L2.St} {H : Hp} {Q : VK} (htg : tgIn vs tg = true) (h : rE X T none C W (.comp vs elt tg k its ifs) σ H Q) :
    tLc (rI X T none C W k its) (rG X T none tg) (rTs X T C WF ifs) (rE X T none C WF elt) vs σ H Q := by
  obtain ⟨ρ, F, ls, hl, hF, hs⟩ := h
  rw [ev] at hs
  refine ⟨ρ, F, ls, hl, hF, (Sat.bind hs).mono fun ds ρ1 H1 F1 p1 hF1 hs1 => ?_⟩
  split at hs1
  case h_2 => exact False.elim hs1
  rename_i xs g hw
  refine ⟨xs, g, hw, fun J wd Dd hD => ?_⟩
  replace hs1 : Sat (gc X T) ρ1 H1 W σ ((compL g (turn1 C T.P vs elt tg ifs ls) xs [] F1).bind newL) fun d ρ' H' _ => ∀ v, RD (gc X T) ρ' H' d v → Q v H' := hs1
  have hDn : Dd ∉ ρ1 := hF1.notin (fun vs z => by rw [hD] at z; cases z) fun _ _ _ _ z => by rw [hD] at z; cases z
  have hl1 := hl.mono p1
  clear hs hw
  refine ⟨fun i m H => i ≤ xs.length ∧ m = xs.length - i ∧ ∃ ρ F acc accV, Post ρ1 H1 ρ H ∧ Dd ∉ ρ ∧ H Dd = some (.lst accV) ∧ RDs (gc X T) ρ H acc accV ∧ RH (gc X T) ρ H F ∧
    Sat (gc X T) ρ1 H1 W σ ((compL g (turn1 C T.P vs elt tg ifs ls) (xs.drop i) acc F).bind newL) (fun d ρ' H' _ => ∀ v, RD (gc X T) ρ' H' d v → Q v H'),
    ⟨xs.length, Nat.zero_le _, rfl, ρ1, F1, [], [], Post.upd ρ1 hD, hDn, upd_same, rfl, hF1.upd hD, hs1⟩, ?_⟩
  rintro i m H2 ⟨hi, rfl, ρ2, F2, acc, accV, p2, hn2, hD2, ra, hF2, hs2⟩
  by_cases hlt : i < xs.length
  · rw [List.drop_eq_getElem_cons hlt] at hs2
    unfold compL at hs2
    split at hs2
    case isFalse => exact False.elim hs2
    rename_i hg
    refine .inr ⟨wd.go i ρ2 H2 F2 hlt p2.pst hF2 hg, fun H' => ∃ ρ F acc accV, Post ρ1 H1 ρ H' ∧ Dd ∉ ρ ∧ H' Dd = some (.lst accV) ∧ RDs (gc X T) ρ H' acc accV ∧ RH (gc X T) ρ H' F ∧
      Sat (gc X T) ρ1 H1 W σ ((compL g (turn1 C T.P vs elt tg ifs ls) (xs.drop (i + 1)) acc F).bind newL) (fun d ρ' H' _ => ∀ v, RD (gc X T) ρ' H' d v → Q v H'),
      fun H' hN => ⟨xs.length - (i + 1), by omega, hlt, rfl, hN⟩, fun v H3 hy => ?_⟩
    obtain ⟨ext, d, hd, rd⟩ := wd.yld i ρ2 H2 F2 v H3 hlt p2.pst hF2 hg hy
    rw [List.getElem?_eq_getElem hlt] at hd
    cases hd
    have p23 : Post ρ2 H2 ρ2 H3 := ⟨⟨[], by simp, fun _ h => by cases h⟩, fun b o h _ => ext b o h⟩
    have p3 := p2.trans p23
    have hF3 := hF2.ext ext
    split at hs2
    case h_2 => exact False.elim hs2
    rename_i ys F' e1
    unfold turn1 at e1
    split at e1
    case h_2 => cases e1
    rename_i ls' hb
    obtain ⟨b, F3, e2, e1⟩ := bind_ok e1
    refine ⟨ρ2, F2, _, _, ls', hF3, rd, (hl1.mono p3).wipe vs, hb, fun σ' hl' hw => ?_⟩
    refine ⟨by rw [hw vs htg]; exact wipe_wipe σ vs, ρ2, F2, ls', hl', hF3, ?_⟩
    rw [e2]
    intro ρ4 H4 p4 hF4
    have hn4 : Dd ∉ ρ4 := p4.free hn2 (ext _ _ hD2) hn2
    have hD4 : H4 Dd = some (.lst accV) := p4.keep _ _ (ext _ _ hD2) hn2
    cases b with
    | false =>
      cases e1
      rw [List.append_nil] at hs2
      exact ⟨ρ4, _, acc, accV, p3.trans p4, hn4, hD4, RDs.mono (p23.trans p4) _ _ ra, hF4, hs2⟩
    | true =>
      rw [if_pos rfl] at e1
      obtain ⟨y, F5, e3, e1⟩ := bind_ok e1
      cases e1
      refine ⟨ρ4, F3, ls', hl'.mono p4, hF4, ?_⟩
      rw [e3]
      intro ρ5 H5 p5 hF5 yv ry
      have hn5 : Dd ∉ ρ5 := p5.free hn4 hD4 hn4
      have hD5 : H5 Dd = some (.lst accV) := p5.keep _ _ hD4 hn4
      have ra5 := RDs.mono ((p23.trans p4).trans p5) _ _ ra
      have fit := comp_fit hs2
      rw [List.length_append, List.length_singleton] at fit
      refine ⟨accV, hD5, by rw [← ra.length]; omega, ρ5, _, acc ++ [y], accV ++ [yv], ⟨((p3.trans p4).trans p5).new, fun b o hb hs => ?_⟩, hn5, upd_same, RDs.fix (fix_upd hD5) _ _ (ra5.append ⟨yv, [], rfl, ry, rfl⟩), hF5.other hD5 hn5, hs2⟩
      rw [upd_ne fun z => by subst z; rw [hD] at hb; cases hb]
      exact ((p3.trans p4).trans p5).keep b o hb hs
  · have e : i = xs.length := by omega
    subst e
    rw [List.drop_length] at hs2
    unfold compL at hs2
    split at hs2
    case isFalse => exact False.elim hs2
    rename_i hg
    refine .inl ⟨wd.stop ρ2 H2 F2 p2.pst hF2 hg, ?_⟩
    replace hs2 : Sat (gc X T) ρ1 H1 W σ (newL acc F2) fun d ρ' H' _ => ∀ v, RD (gc X T) ρ' H' d v → Q v H' := hs2
    unfold newL at hs2
    split at hs2
    case isFalse => exact False.elim hs2
    obtain ⟨a1, a2⟩ := hF2.adopt hD2 hn2 ra
    obtain ⟨l, el, hl0⟩ := id p2.new
    refine hs2 (ρ2 ++ [Dd]) H2 ⟨⟨l ++ [Dd], by rw [el]; simp, fun a ha o ho hst => ?_⟩, p2.keep⟩ a1 _ a2
    rcases List.mem_append.mp ha with z | z
    · exact hl0 a z o ho hst
    · rw [List.mem_singleton.mp z, hD] at ho; cases ho
/-- one turn of the outer clause -/
def turn2 (C : CT) (P : Pg) (vs : List Nat) (elt : FE) (tg : Tg) (ifs : List FE) (tg2 : Tg) (k2 : IK) (its2 ifs2 : List FE) (ls : Ls) (x : D) (F : FH) : R (List D) := (match bindT tg x (wipeL ls vs) with
      | some ls' => (evt C P ifs ls' F).bind fun b F => if b then (evs C P its2 ls' F).bind fun ds2 F => (match walk k2 ds2 F with
          | some (xs2, g2) => compL g2 (turn1 C P (tgS tg2) elt tg2 ifs2 ls') xs2 [] F
          | none => .bad) else .ok [] F
      | none => .bad)
theorem tgS_in {tg : Tg} {vs : List Nat} (h : tgIn vs tg = true) : ∀ i ∈ tgS tg, i ∈ vs := fun i hi => by
  cases tg with
  | nm j =>
    have : i = j := by simpa [tgS] using hi
    subst this
    simpa [tgIn] using h
  | tup is =>
    have := List.all_eq_true.mp (show is.all (fun i => vs.contains i) = true from h) i hi
    simpa using this
theorem tgIn_S (tg : Tg) : tgIn (tgS tg) tg = true := by
  cases tg with
  | nm j => simp [tgIn, tgS]
  | tup is => simp [tgIn, tgS]
theorem comp2_read {vs : List Nat} {elt : FE} {tg tg2 : Tg} {k k2 : IK} {its ifs its2 ifs2 : List FE} {σ : L2.St} {H : Hp} {Q : VK} (htg : tgIn vs tg = true) (h : rE X T none C W (.comp2 vs elt tg k its ifs tg2 k2 its2 ifs2) σ H Q) :
    tLc2 (rI X T none C W k its) (rG X T none tg) (rTs X T C WF ifs) (rI X T none C WF k2 its2) (rG X T none tg2) (rTs X T C WF ifs2) (rE X T none C WF elt) vs (tgS tg2) σ H Q := by
  obtain ⟨ρ, F, ls, hl, hF, hs⟩ := h
  rw [ev] at hs
  refine ⟨ρ, F, ls, hl, hF, (Sat.bind hs).mono fun ds ρ1 H1 F1 p1 hF1 hs1 => ?_⟩
  split at hs1
  case h_2 => exact False.elim hs1
  rename_i xs g hw
  refine ⟨xs, g, hw, fun J wd Dd hD => ?_⟩
  replace hs1 : Sat (gc X T) ρ1 H1 W σ ((compL g (turn2 C T.P vs elt tg ifs tg2 k2 its2 ifs2 ls) xs [] F1).bind newL) fun d ρ' H' _ => ∀ v, RD (gc X T) ρ' H' d v → Q v H' := hs1
  have hDn : Dd ∉ ρ1 := hF1.notin (fun vs z => by rw [hD] at z; cases z) fun _ _ _ _ z => by rw [hD] at z; cases z
  have hl1 := hl.mono p1
  clear hs hw
  refine ⟨fun i m H => i ≤ xs.length ∧ m = xs.length - i ∧ ∃ ρ F acc accV, Post ρ1 H1 ρ H ∧ Dd ∉ ρ ∧ H Dd = some (.lst accV) ∧ RDs (gc X T) ρ H acc accV ∧ RH (gc X T) ρ H F ∧
    Sat (gc X T) ρ1 H1 W σ ((compL g (turn2 C T.P vs elt tg ifs tg2 k2 its2 ifs2 ls) (xs.drop i) acc F).bind newL) (fun d ρ' H' _ => ∀ v, RD (gc X T) ρ' H' d v → Q v H'),
    ⟨xs.length, Nat.zero_le _, rfl, ρ1, F1, [], [], Post.upd ρ1 hD, hDn, upd_same, rfl, hF1.upd hD, hs1⟩, ?_⟩
  rintro i m H2 ⟨hi, rfl, ρ2, F2, acc, accV, p2, hn2, hD2, ra, hF2, hs2⟩
  by_cases hlt : i < xs.length
  · rw [List.drop_eq_getElem_cons hlt] at hs2
    unfold compL at hs2
    split at hs2
    case isFalse => exact False.elim hs2
    rename_i hg
    refine .inr ⟨wd.go i ρ2 H2 F2 hlt p2.pst hF2 hg, fun H' => ∃ ρ F acc accV, Post ρ1 H1 ρ H' ∧ Dd ∉ ρ ∧ H' Dd = some (.lst accV) ∧ RDs (gc X T) ρ H' acc accV ∧ RH (gc X T) ρ H' F ∧
      Sat (gc X T) ρ1 H1 W σ ((compL g (turn2 C T.P vs elt tg ifs tg2 k2 its2 ifs2 ls) (xs.drop (i + 1)) acc F).bind newL) (fun d ρ' H' _ => ∀ v, RD (gc X T) ρ' H' d v → Q v H'),
      fun H' hN => ⟨xs.length - (i + 1), by omega, hlt, rfl, hN⟩, fun v H3 hy => ?_⟩
    obtain ⟨ext, d, hd, rd⟩ := wd.yld i ρ2 H2 F2 v H3 hlt p2.pst hF2 hg hy
    rw [List.getElem?_eq_getElem hlt] at hd
    cases hd
    have p23 : Post ρ2 H2 ρ2 H3 := ⟨⟨[], by simp, fun _ h => by cases h⟩, fun b o h _ => ext b o h⟩
    have p3 := p2.trans p23
    have hF3 := hF2.ext ext
    split at hs2
    case h_2 => exact False.elim hs2
    rename_i ys F' e1
    unfold turn2 at e1
    split at e1
    case h_2 => cases e1
    rename_i ls' hb
    obtain ⟨b, F3, e2, e1⟩ := bind_ok e1
    refine ⟨ρ2, F2, _, _, ls', hF3, rd, (hl1.mono p3).wipe vs, hb, fun σ' hl' hw => ?_⟩
    refine ⟨by rw [hw vs htg]; exact wipe_wipe σ vs, ρ2, F2, ls', hl', hF3, ?_⟩
    rw [e2]
    intro ρ4 H4 p4 hF4
    have hn4 : Dd ∉ ρ4 := p4.free hn2 (ext _ _ hD2) hn2
    have hD4 : H4 Dd = some (.lst accV) := p4.keep _ _ (ext _ _ hD2) hn2
    cases b with
    | false =>
      cases e1
      rw [List.append_nil] at hs2
      exact ⟨ρ4, _, acc, accV, p3.trans p4, hn4, hD4, RDs.mono (p23.trans p4) _ _ ra, hF4, hs2⟩
    | true =>
      rw [if_pos rfl] at e1
      obtain ⟨ds2, F5, e3, e1⟩ := bind_ok e1
      refine ⟨ρ4, F3, ls', hl'.mono p4, hF4, ?_⟩
      rw [e3]
      intro ρ5 H5 p5 hF5
      split at e1
      case h_2 => cases e1
      rename_i xs2 g2 hw2
      refine ⟨xs2, g2, hw2, fun J1 wd1 => ?_⟩
      have hn5 : Dd ∉ ρ5 := p5.free hn4 hD4 hn4
      have hD5 : H5 Dd = some (.lst accV) := p5.keep _ _ hD4 hn4
      have ra5 := RDs.mono ((p23.trans p4).trans p5) _ _ ra
      have fit := comp_fit hs2
      rw [List.length_append] at fit
      have hl5 := (hl'.mono p4).mono p5
      have p15 := (p3.trans p4).trans p5
      refine ⟨fun j m H => j ≤ xs2.length ∧ m = xs2.length - j ∧ ∃ ρ F acc2 accW, Pst ρ5 H5 ρ H ∧ Post ρ1 H1 ρ H ∧ Dd ∉ ρ ∧ H Dd = some (.lst accW) ∧ RDs (gc X T) ρ H (acc ++ acc2) accW ∧ RH (gc X T) ρ H F ∧
        compL g2 (turn1 C T.P (tgS tg2) elt tg2 ifs2 ls') (xs2.drop j) acc2 F = .ok ys F',
        ⟨xs2.length, Nat.zero_le _, rfl, ρ5, F5, [], accV, (Post.refl _ _).pst, p15, hn5, hD5, by rw [List.append_nil]; exact ra5, hF5, e1⟩, ?_⟩
      rintro j m H6 ⟨hj, rfl, ρ6, F6, acc2, accW, p6, q6, hn6, hD6, ra6, hF6, e6⟩
      by_cases hlt2 : j < xs2.length
      · rw [List.drop_eq_getElem_cons hlt2] at e6
        unfold compL at e6
        split at e6
        case isFalse => cases e6
        rename_i hg2
        refine .inr ⟨wd1.go j ρ6 H6 F6 hlt2 p6 hF6 hg2, fun H => ∃ ρ F acc2 accW, Pst ρ5 H5 ρ H ∧ Post ρ1 H1 ρ H ∧ Dd ∉ ρ ∧ H Dd = some (.lst accW) ∧ RDs (gc X T) ρ H (acc ++ acc2) accW ∧ RH (gc X T) ρ H F ∧
          compL g2 (turn1 C T.P (tgS tg2) elt tg2 ifs2 ls') (xs2.drop (j + 1)) acc2 F = .ok ys F', fun H' hN => ⟨xs2.length - (j + 1), by omega, hlt2, rfl, hN⟩, fun v2 H7 hy2 => ?_⟩
        obtain ⟨ext2, d2, hd2, rd2⟩ := wd1.yld j ρ6 H6 F6 v2 H7 hlt2 p6 hF6 hg2 hy2
        rw [List.getElem?_eq_getElem hlt2] at hd2
        cases hd2
        have p67 : Post ρ6 H6 ρ6 H7 := ⟨⟨[], by simp, fun _ h => by cases h⟩, fun b o h _ => ext2 b o h⟩
        have hF7 := hF6.ext ext2
        split at e6
        case h_2 => cases e6
        rename_i zs F7' e7
        unfold turn1 at e7
        split at e7
        case h_2 => cases e7
        rename_i ls2 hb2
        obtain ⟨b2, F8, e8, e7⟩ := bind_ok e7
        refine ⟨ρ6, F6, _, _, ls2, hF7, rd2, ((hl5.pst p6).mono p67).wipe _, hb2, fun σ3 hl3 hw3 => ?_⟩
        refine ⟨by rw [hw3 _ (tgIn_S tg2)]; exact wipe_wipe σ' _, ρ6, F6, ls2, hl3, hF7, ?_⟩
        rw [e8]
        intro ρ8 H8 p8 hF8
        have hn8 : Dd ∉ ρ8 := p8.free hn6 (ext2 _ _ hD6) hn6
        have hD8 : H8 Dd = some (.lst accW) := p8.keep _ _ (ext2 _ _ hD6) hn6
        have p68 := p67.trans p8
        cases b2 with
        | false =>
          cases e7
          rw [List.append_nil] at e6
          exact ⟨ρ8, _, acc2, accW, p6.trans p68.pst, q6.trans p68, hn8, hD8, RDs.mono p68 _ _ ra6, hF8, e6⟩
        | true =>
          rw [if_pos rfl] at e7
          obtain ⟨y, F9, e9, e7⟩ := bind_ok e7
          cases e7
          refine ⟨ρ8, F8, ls2, hl3.mono p8, hF8, ?_⟩
          rw [e9]
          intro ρ9 H9 p9 hF9 yv ry
          have hn9 : Dd ∉ ρ9 := p9.free hn8 hD8 hn8
          have hD9 : H9 Dd = some (.lst accW) := p9.keep _ _ hD8 hn8
          have ra9 := RDs.mono (p68.trans p9) _ _ ra6
          have l1 := compL_len e6
          rw [List.length_append, List.length_singleton] at l1
          have l2 := ra6.length
          rw [List.length_append] at l2
          have p59 := (p6.trans p68.pst).trans p9.pst
          have q19 := (q6.trans p68).trans p9
          refine ⟨accW, hD9, by omega, ρ9, _, acc2 ++ [y], accW ++ [yv], ⟨p59.pre, fun b ws hb => fix_upd hD9 _ _ (p59.tup _ _ hb) (fun _ z => by cases z), fun b q u hb => fix_upd hD9 _ _ (p59.frz _ _ _ hb) (fun _ z => by cases z), fun b φ n hb => ⟨fix_upd hD9 _ _ (p59.ext _ _ n hb).1 (fun _ z => by cases z), (p59.ext _ _ n hb).2⟩, fun b fs hb => fix_upd hD9 _ _ (p59.xd _ _ hb) (fun _ z => by cases z)⟩, ⟨q19.new, fun b o hb hs => ?_⟩, hn9, upd_same, ?_, hF9.other hD9 hn9, e6⟩
          · rw [upd_ne fun z => by subst z; rw [hD] at hb; cases hb]
            exact q19.keep b o hb hs
          · rw [← List.append_assoc]
            exact RDs.fix (fix_upd hD9) _ _ (ra9.append ⟨yv, [], rfl, ry, rfl⟩)
      · have e : j = xs2.length := by omega
        subst e
        rw [List.drop_length] at e6
        unfold compL at e6
        split at e6
        case isFalse => cases e6
        rename_i hg2
        cases e6
        exact .inl ⟨wd1.stop ρ6 H6 _ p6 hF6 hg2, ρ6, _, _, accW, q6, hn6, hD6, ra6, hF6, hs2⟩
  · have e : i = xs.length := by omega
    subst e
    rw [List.drop_length] at hs2
    unfold compL at hs2
    split at hs2
    case isFalse => exact False.elim hs2
    rename_i hg
    refine .inl ⟨wd.stop ρ2 H2 F2 p2.pst hF2 hg, ?_⟩
    replace hs2 : Sat (gc X T) ρ1 H1 W σ (newL acc F2) fun d ρ' H' _ => ∀ v, RD (gc X T) ρ' H' d v → Q v H' := hs2
    unfold newL at hs2
    split at hs2
    case isFalse => exact False.elim hs2
    obtain ⟨a1, a2⟩ := hF2.adopt hD2 hn2 ra
    obtain ⟨l, el, hl0⟩ := id p2.new
    refine hs2 (ρ2 ++ [Dd]) H2 ⟨⟨l ++ [Dd], by rw [el]; simp, fun a ha o ho hst => ?_⟩, p2.keep⟩ a1 _ a2
    rcases List.mem_append.mp ha with z | z
    · exact hl0 a z o ho hst
    · rw [List.mem_singleton.mp z, hD] at ho; cases ho
end
end Fv
set_option Elab.async false
set_option linter.all false
set_option maxRecDepth 100000
set_option maxHeartbeats 1000000
/-! Fv: sorted(xs, key=f) as an expression. -/
namespace Fv
open PySem PySem.Spec PyProof.Rows L2
section
variable {X : Cx} {T : Tb} {xi : Xi} {C : CT} {W : WX} {n : Nat} {f : String} {fd : FD} {fa : Addr} {fdat : FuncData}
theorem se_sortK (L : Law X T) (hr : RmG n X.A) (F1 : Fn1 X T n f fd fa fdat) (hk : isKey fd = true) {x : Expr} {fe : FE} {y z k : Str} {p p2 kp pos : Pos} (e : so "sorted" = y) (hg : glB X.env.scope y = true) (ek : so "key" = k) (ez : so f = z) (hgz : glB X.env.scope z = true)
    (hst : (!isStar x) = true) (ha : PE X x (rE X T xi C W fe)) : PE X (.Call (.Name y p) [x] [⟨some k, .Name z p2, kp⟩] pos) (rE X T xi C W (.bi (.sortedK f) [fe])) := by
  subst e ek ez
  obtain ⟨h1, h2, h3⟩ := gl_of hg
  obtain ⟨z1, z2, z3⟩ := gl_of hgz
  have hn : PE X (.Name (so f) p2) (tC (.ref fa)) := pe_glob (v := .ref fa) z1 F1.mg rfl z2
  have pk : PK X [⟨some (so "key"), .Name (so f) p2, kp⟩] (tCons (tC (.ref fa)) tNil) := pk_cons hn pk_nil
  have pa : PA X [x] (rEs X T xi C W [fe]) := ss_cons hst ha ss_nil
  refine (pe_callBK (cr_sortedK (T := T) (F1.key hk) hr.units hr.depth) h1 (L.blt "sorted" (by decide +kernel)) (by decide +kernel) pa pk h3 h2 (by rw [star_cons hst]; rfl) (by rw [star_cons hst]; rfl) (by rfl) (by rfl) (by rfl)).imp fun σ H Q ⟨ρ, F, ls, hl, hF, hs⟩ => ?_
  rw [ev] at hs
  refine ⟨ρ, F, ls, hl, hF, (Sat.bind hs).mono fun ds ρ1 H1 F1' p1 hF1 hs1 vs rvs => ?_⟩
  show rSortK (gc X T) fa vs [.ref fa] H1 Q
  unfold biop at hs1
  split at hs1 <;> first | exact False.elim hs1 | skip
  all_goals first | (rename_i q; cases q; done) | skip
  rename_i d q
  split at hs1
  · rename_i es el
    split at hs1
    · rename_i hok
      have hz : (es.mergeSort leKey).length ≤ sizeLine := by
        unfold newL at hs1
        split at hs1
        · rename_i hb
          exact big_line hb
        · exact False.elim hs1
      exact ⟨ρ1, F1', d, es, hF1, rvs, rfl, el, hok, hz, fun p vs' hp rv => (sat_newL hF1 rv hs1).2 p hp⟩
    · exact False.elim hs1
  · exact False.elim hs1
end
end Fv
set_option Elab.async false
set_option linter.all false
set_option maxRecDepth 100000
set_option maxHeartbeats 4000000
/-! Fv, 17: an expression that is checked is read by its run. -/
namespace Fv
open PySem PySem.Spec PyProof.Rows L2
section
variable {T : Tb} {n : Nat}
theorem cxt_blk {X : Cx} {fl : Fl} (cx : Cxt X T n fl) (hc : fl.calm = true) (s : Shared) (H : Hp) (scope : Scope) (cenv : Env) (fp : List Addr) : Cxt (X.blk s H scope cenv fp) T n Fl.in_ :=
  ⟨⟨cx.law.wd, cx.law.exm, cx.law.exc, cx.law.blt, cx.law.con⟩, fun x fd h => let ⟨a, fdat, F⟩ := cx.fns x fd h; ⟨a, fdat, ⟨F.mg, F.kp, F.ok, F.pr, F.df, F.nd, F.lk, F.key⟩⟩, cx.clo, cx.nd, fun _ => cx.calm hc, fun _ => cx.room hc, fun h => (by cases h), fun h => (by cases h), fun h => (by cases h)⟩
theorem takes_blk {X : Cx} (s : Shared) (H : Hp) (scope : Scope) (cenv : Env) (fp : List Addr) : Takes (X.blk s H scope cenv fp) WF := fun _ _ ⟨_, _, _, _, _, _, _, _, _, _, _, _, _, _, _, _, w⟩ => w
theorem bt {a b : Bool} (h : (a && b) = true) : a = true ∧ b = true := Bool.and_eq_true_iff.mp h
theorem bt_key {c k g3 g5 : Bool} {p q : Prop} [Decidable p] [Decidable q] {g1 : Bool} (h : (c && (k && (decide p && (g1 && (decide q && (g3 && g5)))))) = true) : k = true ∧ p ∧ g1 = true ∧ q ∧ g3 = true ∧ g5 = true := by
  simp only [Bool.and_eq_true, decide_eq_true_eq] at h
  exact ⟨h.2.1, h.2.2.1, h.2.2.2.1, h.2.2.2.2.1, h.2.2.2.2.2.1, h.2.2.2.2.2.2⟩
theorem range_mem : "range" ∈ blts := by decide +kernel
theorem enum_mem : "enumerate" ∈ blts := by decide +kernel
theorem chks_cons {P : Pg} {fl : Fl} {N : List Str} {sc : Scope} {e : FE} {es : List FE} {x : Expr} {xs : List Expr} (h : chks P fl N sc (e :: es) (x :: xs) = true) : chk P fl N sc e x = true ∧ (!isStar x) = true ∧ chks P fl N sc es xs = true := by
  rw [chks.eq_def] at h
  dsimp only at h
  obtain ⟨h1, h2⟩ := bt h
  obtain ⟨h1, h3⟩ := bt h1
  exact ⟨h1, h3, h2⟩
/-- what is shown of an expression -/
abbrev Is (X : Cx) (T : Tb) (n : Nat) (W : WX) (fe : FE) (e : Expr) : Prop := PE X e (rE X T none (run T.P n) W fe) ∧ (tOk fe = true → PT X e (rT X T none (run T.P n) W fe))
theorem is_plain {X : Cx} {W : WX} {fe : FE} {e : Expr} (h : PE X e (rE X T none (run T.P n) W fe)) (hp : plainT e = true) : Is X T n W fe e := ⟨h, fun _ => st_plain h hp⟩
theorem arg_of {X : Cx} {W : WX} {fl : Fl} {fe : FE} {e : Expr} (hc : chk T.P fl X.N X.env.scope fe e = true) (h : PE X e (rE X T none (run T.P n) W fe)) : PE X e (r1 X T none (run T.P n) W fe) := by
  by_cases hv : ∃ i, fe = .var i
  · obtain ⟨i, rfl⟩ := hv
    rw [chk.eq_def] at hc
    dsimp only at hc
    split at hc
    · exact s1_var hc
    · cases hc
  · exact s1_of h fun i z => hv ⟨i, z⟩
mutual
theorem ok_e : ∀ (fe : FE) (e : Expr) (fl : Fl) (X : Cx) (W : WX), Cxt X T n fl → fl.calm = true → Takes X W → chk T.P fl X.N X.env.scope fe e = true → Is X T n W fe e
  | .var i, e, fl, X, W, cx, hc, tk, h => by
    rw [chk.eq_def] at h
    dsimp only at h
    split at h
    · exact is_plain (se_var h) rfl
    · cases h
  | .what i, e, fl, X, W, cx, hc, tk, h => by
    rw [chk.eq_def] at h
    dsimp only at h
    split at h
    · rw [hc] at h; cases h
    · cases h
  | .non, e, fl, X, W, cx, hc, tk, h => by
    rw [chk.eq_def] at h
    dsimp only at h
    split at h
    · exact is_plain (se_con (d := .non) pe_non (fun _ _ => by rw [ev]) fun _ _ => rfl) rfl
    · cases h
  | .bl b, e, fl, X, W, cx, hc, tk, h => by
    rw [chk.eq_def] at h
    dsimp only at h
    split at h
    · cases eq_of_beq h
      exact is_plain (se_con (d := .bl b) pe_bl (fun _ _ => by rw [ev]) fun _ _ => rfl) rfl
    · cases h
  | .int b, e, fl, X, W, cx, hc, tk, h => by
    rw [chk.eq_def] at h
    dsimp only at h
    split at h
    · cases of_decide_eq_true h
      exact is_plain (se_con (d := .int b) pe_int (fun _ _ => by rw [ev]) fun _ _ => rfl) rfl
    · cases h
  | .str b, e, fl, X, W, cx, hc, tk, h => by
    rw [chk.eq_def] at h
    dsimp only at h
    split at h
    · obtain ⟨h1, h2⟩ := bt h
      have h1 := of_decide_eq_true h1
      subst h1
      exact is_plain (se_con (d := .str (so b)) pe_str (fun _ _ => by rw [ev]) fun _ _ => ⟨rfl, h2⟩) rfl
    · cases h
  | .glob x, e, fl, X, W, cx, hc, tk, h => by
    rw [chk.eq_def] at h
    dsimp only at h
    split at h
    · obtain ⟨h1, h2⟩ := bt h
      exact is_plain (se_glob cx.law (of_decide_eq_true h1) h2) rfl
    · cases h
  | .fn x, e, fl, X, W, cx, hc, tk, h => by
    rw [chk.eq_def] at h
    dsimp only at h
    split at h
    · obtain ⟨h1, h2⟩ := bt h
      obtain ⟨h1, h3⟩ := bt h1
      obtain ⟨fd, hfd⟩ := Option.isSome_iff_exists.mp h2
      obtain ⟨a, fdat, F1⟩ := cx.fns x fd hfd
      exact is_plain (se_fn F1 (of_decide_eq_true h1) h3) rfl
    · cases h
  | .tup es, e, fl, X, W, cx, hc, tk, h => by
    rw [chk.eq_def] at h
    dsimp only at h
    split at h
    · exact is_plain (se_tup (ok_es es _ fl X W cx hc tk h)) rfl
    · cases h
  | .lst es, e, fl, X, W, cx, hc, tk, h => by
    rw [chk.eq_def] at h
    dsimp only at h
    split at h
    · exact is_plain (se_lst (ok_es es _ fl X W cx hc tk (bt h).2)) rfl
    · cases h
  | .bin o a b, e, fl, X, W, cx, hc, tk, h => by
    rw [chk.eq_def] at h
    dsimp only at h
    split at h
    · obtain ⟨h, h3⟩ := bt h
      obtain ⟨h, h2⟩ := bt h
      cases of_decide_eq_true (bt h).2
      exact is_plain (se_bin o (ok_e a _ fl X W cx hc tk h2).1 (ok_e b _ fl X W cx hc tk h3).1) rfl
    · cases h
  | .neg a, e, fl, X, W, cx, hc, tk, h => by
    rw [chk.eq_def] at h
    dsimp only at h
    split at h
    · obtain ⟨h, h2⟩ := bt h
      cases of_decide_eq_true (bt h).2
      exact ⟨se_neg (ok_e a _ fl X W cx hc tk h2).1, fun z => by cases z⟩
    · cases h
  | .not a, e, fl, X, W, cx, hc, tk, h => by
    rw [chk.eq_def] at h
    dsimp only at h
    split at h
    · obtain ⟨h, h2⟩ := bt h
      cases of_decide_eq_true (bt h).2
      have k := ok_e a _ fl X W cx hc tk h2
      exact ⟨se_not k.1, fun z => st_not (k.2 (by rw [tOk] at z; exact z))⟩
    · cases h
  | .cmp o a b, e, fl, X, W, cx, hc, tk, h => by
    rw [chk.eq_def] at h
    dsimp only at h
    split at h
    · obtain ⟨h, h3⟩ := bt h
      obtain ⟨h, h2⟩ := bt h
      obtain ⟨h, hm⟩ := bt h
      cases of_decide_eq_true (bt h).2
      have hu := (cx.room hc).units
      have k1 := (ok_e a _ fl X W cx hc tk h2).1
      have k2 := (ok_e b _ fl X W cx hc tk h3).1
      exact ⟨se_cmp hu o hm k1 k2, fun _ => st_cmp hu o hm k1 k2⟩
    · cases h
  | .chain o o' a b c, e, fl, X, W, cx, hc, tk, h => by
    rw [chk.eq_def] at h
    dsimp only at h
    split at h
    · obtain ⟨h, h4⟩ := bt h
      obtain ⟨h, h3⟩ := bt h
      obtain ⟨h, h2⟩ := bt h
      obtain ⟨h, hm⟩ := bt h
      obtain ⟨h, e2⟩ := bt h
      have e1 := of_decide_eq_true (bt h).2
      have e2 := of_decide_eq_true e2
      subst e1 e2
      have hu := (cx.room hc).units
      have k1 := (ok_e a _ fl X W cx hc tk h2).1
      have k2 := (ok_e b _ fl X W cx hc tk h3).1
      have k3 := (ok_e c _ fl X W cx hc tk h4).1
      exact ⟨se_chain hu o o' hm k1 k2 k3, fun _ => st_chain hu o o' hm k1 k2 k3⟩
    · cases h
  | .and a b, e, fl, X, W, cx, hc, tk, h => by
    rw [chk.eq_def] at h
    dsimp only at h
    split at h
    · obtain ⟨h, h3⟩ := bt h
      obtain ⟨h, h2⟩ := bt h
      cases of_decide_eq_true (bt h).2
      have k1 := ok_e a _ fl X W cx hc tk h2
      have k2 := ok_e b _ fl X W cx hc tk h3
      exact ⟨se_and k1.1 (pe_one k2.1), fun z => by rw [tOk] at z; exact st_and (k1.2 (bt z).1) (st_and1 (k2.2 (bt z).2))⟩
    · obtain ⟨h, h3⟩ := bt h
      obtain ⟨h, h2⟩ := bt h
      cases of_decide_eq_true (bt h).2
      have k1 := ok_e a _ fl X W cx hc tk h2
      have k2 := ok_e b _ fl X W cx hc tk h3
      exact ⟨se_and k1.1 k2.1, fun z => by rw [tOk] at z; exact st_and (k1.2 (bt z).1) (pw_of_and (k2.2 (bt z).2))⟩
    · cases h
  | .or a b, e, fl, X, W, cx, hc, tk, h => by
    rw [chk.eq_def] at h
    dsimp only at h
    split at h
    · obtain ⟨h, h3⟩ := bt h
      obtain ⟨h, h2⟩ := bt h
      cases of_decide_eq_true (bt h).2
      have k1 := ok_e a _ fl X W cx hc tk h2
      have k2 := ok_e b _ fl X W cx hc tk h3
      exact ⟨se_or k1.1 (pe_one k2.1), fun z => by rw [tOk] at z; exact st_or (k1.2 (bt z).1) (st_or1 (k2.2 (bt z).2))⟩
    · obtain ⟨h, h3⟩ := bt h
      obtain ⟨h, h2⟩ := bt h
      cases of_decide_eq_true (bt h).2
      have k1 := ok_e a _ fl X W cx hc tk h2
      have k2 := ok_e b _ fl X W cx hc tk h3
      exact ⟨se_or k1.1 k2.1, fun z => by rw [tOk] at z; exact st_or (k1.2 (bt z).1) (pw_of_or (k2.2 (bt z).2))⟩
    · cases h
  | .ite c a b, e, fl, X, W, cx, hc, tk, h => by
    rw [chk.eq_def] at h
    dsimp only at h
    split at h
    · obtain ⟨h, h4⟩ := bt h
      obtain ⟨h, h3⟩ := bt h
      obtain ⟨h, h2⟩ := bt h
      exact ⟨se_ite ((ok_e c _ fl X W cx hc tk h2).2 (bt h).2) (ok_e a _ fl X W cx hc tk h3).1 (ok_e b _ fl X W cx hc tk h4).1, fun z => by cases z⟩
    · cases h
  | .call f es, e, fl, X, W, cx, hc, tk, h => by
    rw [chk.eq_def] at h
    dsimp only at h
    split at h
    · rename_i y p xs pos
      obtain ⟨h, h3⟩ := bt h
      obtain ⟨h, h2⟩ := bt h
      obtain ⟨h, h1⟩ := bt h
      obtain ⟨fd, hfd⟩ := Option.isSome_iff_exists.mp (bt h).2
      obtain ⟨a, fdat, F1⟩ := cx.fns f fd hfd
      refine is_plain (se_call tk (cx.room hc) F1 hfd (of_decide_eq_true h1) h2 (fun z => ?_) (fun x r z => ?_) (fun x r pos env z => ?_) (ok_as es xs fl X W cx hc tk h3)) rfl
      · subst z
        have := chks_len _ _ h3
        exact List.length_eq_zero_iff.mp this
      · subst z
        cases es with
        | nil => cases h3
        | cons e es => exact (chks_cons h3).2.1
      · subst z
        cases es with
        | nil => cases h3
        | cons e es => exact chks_any es r (chks_cons h3).2.2
    · cases h
  | .callK f es pm ws, e, fl, X, W, cx, hc, tk, h => by
    rw [chk.eq_def] at h
    dsimp only at h
    split at h
    · rename_i y p xs kws pos
      obtain ⟨h, h6⟩ := bt h
      obtain ⟨h, h5⟩ := bt h
      obtain ⟨h, h4⟩ := bt h
      obtain ⟨h, h3⟩ := bt h
      obtain ⟨h, h2⟩ := bt h
      obtain ⟨h, h1⟩ := bt h
      obtain ⟨fd, hfd⟩ := Option.isSome_iff_exists.mp (bt h).2
      obtain ⟨a, fdat, F1⟩ := cx.fns f fd hfd
      rw [hfd] at h6
      refine is_plain (se_callK tk (cx.room hc) F1 hfd (of_decide_eq_true h1) h2 (chks_len _ _ h3) (chkk_len _ _ h4) (kw_facts _ _ h4) h6 (fun x r z => ?_) (fun pos env => chks_any es xs h3) (ok_as es xs fl X W cx hc tk h3) (ok_ks ws kws fl X W cx hc tk h4)) rfl
      subst z
      cases es with
      | nil => cases h3
      | cons e es => exact (chks_cons h3).2.1
    · cases h
  | .callV i es, e, fl, X, W, cx, hc, tk, h => by
    rw [chk.eq_def] at h
    dsimp only at h
    split at h
    · rename_i y p xs pos
      obtain ⟨h, h3⟩ := bt h
      obtain ⟨h, h2⟩ := bt h
      refine is_plain (se_callV tk (cx.room hc) cx.fns cx.clo h2 (chks_len _ _ h3) (fun x r z => ?_) (fun x r pos env z => ?_) (ok_as es xs fl X W cx hc tk h3)) rfl
      · subst z
        cases es with
        | nil => cases h3
        | cons e es => exact (chks_cons h3).2.1
      · subst z
        cases es with
        | nil => cases h3
        | cons e es => exact chks_any es r (chks_cons h3).2.2
    · cases h
  | .callL f b ds es, e, fl, X, W, cx, hc, tk, h => by
    rw [chk.eq_def] at h
    dsimp only at h
    split at h
    · rename_i y p ps z scope lp xs pos
      obtain ⟨h, h7⟩ := bt h
      obtain ⟨h, h6⟩ := bt h
      obtain ⟨h, h5⟩ := bt h
      obtain ⟨h, h4⟩ := bt h
      obtain ⟨h, h3⟩ := bt h
      obtain ⟨h, h2⟩ := bt h
      obtain ⟨h, h1⟩ := bt h
      obtain ⟨h, h0⟩ := bt h
      obtain ⟨h, hlam⟩ := bt h
      obtain ⟨fd, hfd⟩ := Option.isSome_iff_exists.mp h0
      obtain ⟨a, fdat, F1⟩ := cx.fns f fd hfd
      exact is_plain (se_callL cx hlam (cx.lamTop hlam) hc tk F1 hfd (of_decide_eq_true h1) h2 (fun pos env => chks_any es xs h3) h4 h5 h6 h7 (ok_as es xs fl X W cx hc tk h3)) rfl
    · cases h
  | .bi b es, e, fl, X, W, cx, hc, tk, h => by
    rw [chk.eq_def] at h
    dsimp only at h
    split at h
    · rename_i y p xs pos
      obtain ⟨h, h5⟩ := bt h
      obtain ⟨h, h4⟩ := bt h
      obtain ⟨h, h3⟩ := bt h
      obtain ⟨h, h2⟩ := bt h
      have hy := of_decide_eq_true (bt h).2
      cases es with
      | nil => cases h5
      | cons fe es =>
        cases xs with
        | nil => cases h3
        | cons x xs =>
          obtain ⟨k1, k2, k3⟩ := chks_cons h3
          exact is_plain (se_bi cx.law (cx.calm hc) (cx.room hc).g (cx.room hc).units h4 hy h2 k2 (fun pos env => chks_any es xs k3) (ok_es (fe :: es) (x :: xs) fl X W cx hc tk h3)) rfl
    · obtain ⟨h1, h2⟩ := bt (bt h).2
      cases of_decide_eq_true h1
      cases es with
      | nil => exact is_plain se_dict0 rfl
      | cons _ _ => cases h2
    · rename_i y p x k z p2 kp pos
      obtain ⟨kb, g1, g2, g3, g4, g5⟩ := bt_key h
      unfold keyB at kb
      split at kb
      · rename_i f
        obtain ⟨kf, kk⟩ := bt kb
        cases efd : T.P.fn f with
        | none => rw [efd] at kk; cases kk
        | some fd =>
          rw [efd] at kk
          obtain ⟨a, fdat, F1⟩ := cx.fns f fd efd
          cases es with
          | nil => cases g5
          | cons fe es =>
            obtain ⟨k1, k2, k3⟩ := chks_cons g5
            cases es with
            | nil => exact is_plain (se_sortK cx.law (cx.room hc) F1 kk g1 g2 g3 (of_decide_eq_true kf) g4 k2 (ok_e fe x fl X W cx hc tk k1).1) rfl
            | cons _ _ => cases k3
      · cases kb
    · cases h
  | .isi a t, e, fl, X, W, cx, hc, tk, h => by
    rw [chk.eq_def] at h
    dsimp only at h
    split at h
    · obtain ⟨h, h7⟩ := bt h
      obtain ⟨h, h6⟩ := bt h
      obtain ⟨h, h5⟩ := bt h
      obtain ⟨h, h4⟩ := bt h
      obtain ⟨h, h3⟩ := bt h
      obtain ⟨h, h2⟩ := bt h
      exact is_plain (se_isi cx.law h3 (of_decide_eq_true (bt h).2) h2 (of_decide_eq_true h6) h7 h5 (ok_e a _ fl X W cx hc tk h4).1) rfl
    · cases h
  | .meth m o es, e, fl, X, W, cx, hc, tk, h => by
    rw [chk.eq_def] at h
    dsimp only at h
    split at h
    · rename_i x a ap xs p
      obtain ⟨h, h8⟩ := bt h
      obtain ⟨h, h7⟩ := bt h
      obtain ⟨h, h6⟩ := bt h
      obtain ⟨h, h5⟩ := bt h
      obtain ⟨h, h4⟩ := bt h
      obtain ⟨h, h3⟩ := bt h
      obtain ⟨h, h2⟩ := bt h
      have hy := of_decide_eq_true (bt h).2
      cases es with
      | nil => cases h6
      | cons fe es =>
        cases xs with
        | nil => cases h4
        | cons x xs =>
          obtain ⟨k1, k2, k3⟩ := chks_cons h4
          exact is_plain (se_meth (cx.room hc).units cx.law.wd h7 hy h2 (fun pos env => chks_any es xs k3) (fun pos env => chks_few _ _ h4) k2 (of_decide_eq_true h8) (of_decide_eq_true h5) (ok_e o _ fl X W cx hc tk h3).1 (ok_es (fe :: es) (x :: xs) fl X W cx hc tk h4)) rfl
    · cases h
  | .idx a i, e, fl, X, W, cx, hc, tk, h => by
    rw [chk.eq_def] at h
    dsimp only at h
    split at h
    · obtain ⟨h, h3⟩ := bt h
      obtain ⟨h, h2⟩ := bt h
      exact is_plain (se_idx (cx.room hc).units cx.law.wd (bt h).2 (ok_e a _ fl X W cx hc tk h2).1 (ok_e i _ fl X W cx hc tk h3).1) rfl
    · cases h
  | .slc a lo hi, e, fl, X, W, cx, hc, tk, h => by
    rw [chk.eq_def] at h
    dsimp only at h
    split at h
    · rename_i x l u p2 pos
      obtain ⟨h, h3⟩ := bt h
      obtain ⟨h, h2⟩ := bt h
      refine is_plain (se_slc (ok_e a _ fl X W cx hc tk (bt h).2).1 ?_ ?_) rfl
      · cases l with
        | none => exact so_none h2
        | some l => exact so_some (ok_e lo _ fl X W cx hc tk h2).1
      · cases u with
        | none => exact so_none h3
        | some l => exact so_some (ok_e hi _ fl X W cx hc tk h3).1
    · cases h
  | .comp vs elt tg k its ifs, e, fl, X, W, cx, hc, tk, h => by
    rw [chk.eq_def] at h
    dsimp only at h
    split at h
    · rename_i x t it cs n0 scope pos
      obtain ⟨h0, h⟩ := bt h
      have e0 := of_decide_eq_true h0
      obtain ⟨h, g9⟩ := bt h
      obtain ⟨h, g8⟩ := bt h
      obtain ⟨h, g7⟩ := bt h
      obtain ⟨h, g6⟩ := bt h
      obtain ⟨h, g5⟩ := bt h
      obtain ⟨h, g4⟩ := bt h
      obtain ⟨h, g3⟩ := bt h
      obtain ⟨h, g2⟩ := bt h
      have g1 := (bt h).2
      have ev := of_decide_eq_true g2
      have cb := fun s H C cl fp => cxt_blk cx hc s H scope (compEnvC scope cl C X.env) fp
      have tb : ∀ (s : Shared) (H : Hp) (C : Addr) (cl : List (Str × Addr)) (fp : List Addr), Takes (X.blk s H scope (compEnvC scope cl C X.env) fp) WF := fun s H C cl fp => takes_blk s H scope (compEnvC scope cl C X.env) fp
      subst e0
      have q := pe_lc (X := X) (pos := pos) (elt := x) (te := rE X T none (run T.P n) WF elt) (tt := rTs X T (run T.P n) WF ifs) (g := rG X T none tg) (cx.calm hc) cx.nd (ok_I k its it t fl X W cx hc tk g3 g4) (blkOk_by g1) (fun s H C cl fp => sg_any (X := X.blk s H scope (compEnvC scope cl C X.env) fp) (T := T) (xi := none) (fl := Fl.in_) cx.nd (cx.calm hc) (fun z => by cases z) g5)
        (fun s H C cl fp => ok_c ifs cs Fl.in_ _ WF (cb s H C cl fp) rfl (tb s H C cl fp) g8) (fun s H C cl fp => (ok_e elt x Fl.in_ _ WF (cb s H C cl fp) rfl (tb s H C cl fp) g7).1) (folded_no g9 _)
      rw [ev] at q
      exact is_plain (q.imp fun σ H Q hr => comp_read g6 hr) rfl
    · cases h
  | .comp2 vs elt tg k its ifs tg2 k2 its2 ifs2, e, fl, X, W, cx, hc, tk, h => by
    rw [chk.eq_def] at h
    dsimp only at h
    split at h
    · rename_i x t it cs n0 t2 it2 cs2 n2 scope pos
      obtain ⟨h0, h⟩ := bt h
      obtain ⟨h00, h01⟩ := bt h0
      have e0 := of_decide_eq_true h00
      have e01 := of_decide_eq_true h01
      obtain ⟨h, e2⟩ := bt h
      obtain ⟨h, e1⟩ := bt h
      obtain ⟨h, f5⟩ := bt h
      obtain ⟨h, f4⟩ := bt h
      obtain ⟨h, f3⟩ := bt h
      obtain ⟨h, f2⟩ := bt h
      obtain ⟨h, f1⟩ := bt h
      obtain ⟨h, g8⟩ := bt h
      obtain ⟨h, g7⟩ := bt h
      obtain ⟨h, g6⟩ := bt h
      obtain ⟨h, g5⟩ := bt h
      obtain ⟨h, g4⟩ := bt h
      obtain ⟨h, g3⟩ := bt h
      obtain ⟨h, g2⟩ := bt h
      have g1 := (bt h).2
      have ev := of_decide_eq_true g2
      have cb := fun s H C cl fp => cxt_blk cx hc s H scope (compEnvC scope cl C X.env) fp
      have tb : ∀ (s : Shared) (H : Hp) (C : Addr) (cl : List (Str × Addr)) (fp : List Addr), Takes (X.blk s H scope (compEnvC scope cl C X.env) fp) WF := fun s H C cl fp => takes_blk s H scope (compEnvC scope cl C X.env) fp
      subst e0 e01
      have q := pe_lc2 (X := X) (pos := pos) (vs1 := tgS tg2) (elt := x) (te := rE X T none (run T.P n) WF elt) (tt := rTs X T (run T.P n) WF ifs) (g := rG X T none tg) (tt1 := rTs X T (run T.P n) WF ifs2) (g1 := rG X T none tg2) (wi1 := rI X T none (run T.P n) WF k2 its2) (cx.calm hc) cx.nd (ok_I k its it t fl X W cx hc tk g3 g4) (blkOk_by g1) (by rw [ev]; exact tgS_in f4) (fun s H C cl fp => sg_any (X := X.blk s H scope (compEnvC scope cl C X.env) fp) (T := T) (xi := none) (fl := Fl.in_) cx.nd (cx.calm hc) (fun z => by cases z) g5)
        (fun s H C cl fp => ok_c ifs cs Fl.in_ _ WF (cb s H C cl fp) rfl (tb s H C cl fp) g8) (fun s H C cl fp => ok_I k2 its2 it2 t2 Fl.in_ _ WF (cb s H C cl fp) rfl (tb s H C cl fp) f1 f2) (fun s H C cl fp => sg_any (X := X.blk s H scope (compEnvC scope cl C X.env) fp) (T := T) (xi := none) (fl := Fl.in_) cx.nd (cx.calm hc) (fun z => by cases z) f3)
        (fun s H C cl fp => ok_c ifs2 cs2 Fl.in_ _ WF (cb s H C cl fp) rfl (tb s H C cl fp) f5) (fun s H C cl fp => (ok_e elt x Fl.in_ _ WF (cb s H C cl fp) rfl (tb s H C cl fp) g7).1) (folded_no e1 _) (folded_no e2)
      rw [ev] at q
      exact is_plain (q.imp fun σ H Q hr => comp2_read g6 hr) rfl
    · cases h
theorem ok_es : ∀ (es : List FE) (xs : List Expr) (fl : Fl) (X : Cx) (W : WX), Cxt X T n fl → fl.calm = true → Takes X W → chks T.P fl X.N X.env.scope es xs = true → PA X xs (rEs X T none (run T.P n) W es)
  | [], xs, fl, X, W, cx, hc, tk, h => by
    rw [chks.eq_def] at h
    dsimp only at h
    split at h
    · exact ss_nil
    · cases h
  | e :: es, xs, fl, X, W, cx, hc, tk, h => by
    rw [chks.eq_def] at h
    dsimp only at h
    split at h
    · obtain ⟨h, h3⟩ := bt h
      obtain ⟨h1, h2⟩ := bt h
      exact ss_cons h2 (ok_e e _ fl X W cx hc tk h1).1 (ok_es es _ fl X W cx hc tk h3)
    · cases h
theorem ok_as : ∀ (es : List FE) (xs : List Expr) (fl : Fl) (X : Cx) (W : WX), Cxt X T n fl → fl.calm = true → Takes X W → chks T.P fl X.N X.env.scope es xs = true → PA X xs (rA X T none (run T.P n) W es)
  | [], xs, fl, X, W, cx, hc, tk, h => by
    rw [chks.eq_def] at h
    dsimp only at h
    split at h
    · exact sa_nil
    · cases h
  | e :: es, xs, fl, X, W, cx, hc, tk, h => by
    rw [chks.eq_def] at h
    dsimp only at h
    split at h
    · obtain ⟨h, h3⟩ := bt h
      obtain ⟨h1, h2⟩ := bt h
      exact sa_cons h2 (arg_of h1 (ok_e e _ fl X W cx hc tk h1).1) (ok_as es _ fl X W cx hc tk h3)
    · cases h
theorem ok_ks : ∀ (es : List FE) (xs : List Keyword) (fl : Fl) (X : Cx) (W : WX), Cxt X T n fl → fl.calm = true → Takes X W → chkk T.P fl X.N X.env.scope es xs = true → PK X xs (rA X T none (run T.P n) W es)
  | [], xs, fl, X, W, cx, hc, tk, h => by
    rw [chkk.eq_def] at h
    dsimp only at h
    split at h
    · exact sk_nil
    · cases h
  | e :: es, xs, fl, X, W, cx, hc, tk, h => by
    rw [chkk.eq_def] at h
    dsimp only at h
    split at h
    · obtain ⟨h1, h3⟩ := bt h
      exact sk_cons (arg_of h1 (ok_e e _ fl X W cx hc tk h1).1) (ok_ks es _ fl X W cx hc tk h3)
    · cases h
theorem ok_c : ∀ (es : List FE) (xs : List Expr) (fl : Fl) (X : Cx) (W : WX), Cxt X T n fl → fl.calm = true → Takes X W → chkc T.P fl X.N X.env.scope es xs = true → PTs X xs (rTs X T (run T.P n) W es)
  | [], xs, fl, X, W, cx, hc, tk, h => by
    rw [chkc.eq_def] at h
    dsimp only at h
    split at h
    · exact ⟨fun pins s σ H Q I ⟨ρ, F, ls, hl, hF, hs⟩ => pts_nil.run pins s σ H Q I (by rw [evt] at hs; exact hs.here hF)⟩
    · cases h
  | e :: es, xs, fl, X, W, cx, hc, tk, h => by
    rw [chkc.eq_def] at h
    dsimp only at h
    split at h
    · obtain ⟨h, h3⟩ := bt h
      obtain ⟨h1, h2⟩ := bt h
      cases es with
      | cons _ _ => cases h1
      | nil =>
        have k := (ok_e e _ fl X W cx hc tk h3).2 h2
        exact ⟨fun pins s σ H Q I ⟨ρ, F, ls, hl, hF, hs⟩ => (pts_one k).run pins s σ H Q I ⟨ρ, F, ls, hl, hF, evt_one hs⟩⟩
    · cases h
theorem ok_I : ∀ (k : IK) (es : List FE) (x : Expr) (tg : Expr) (fl : Fl) (X : Cx) (W : WX), Cxt X T n fl → fl.calm = true → Takes X W → chkI T.P fl X.N X.env.scope k es x = true → chkI0 k tg = true → PI X tg x (rI X T none (run T.P n) W k es)
  | k, [], x, tg, fl, X, W, cx, hc, tk, h, h0 => by
    rw [chkI.eq_def] at h
    cases h
  | k, e :: es, x, tg, fl, X, W, cx, hc, tk, h, h0 => by
    rw [chkI.eq_def] at h
    dsimp only at h
    split at h
    · obtain ⟨h1, h2⟩ := bt h
      cases es with
      | cons _ _ => cases h1
      | nil => exact si_plain (ok_e e _ fl X W cx hc tk h2).1
    · split at h
      · obtain ⟨h, h5⟩ := bt h
        obtain ⟨h, h4⟩ := bt h
        obtain ⟨h, h3⟩ := bt h
        obtain ⟨h1, h2⟩ := bt h
        cases of_decide_eq_true h1
        cases es with
        | cons _ _ => cases h3
        | nil => exact si_range1 (gl_of h2).1 (cx.law.blt _ range_mem) h5 (ss_cons h5 (ok_e e _ fl X W cx hc tk h4).1 ss_nil)
      · obtain ⟨h, h5⟩ := bt h
        obtain ⟨h, h4⟩ := bt h
        obtain ⟨h, h3⟩ := bt h
        obtain ⟨h1, h2⟩ := bt h
        cases of_decide_eq_true h1
        have q := ok_es es _ fl X W cx hc tk h5
        have l := chks_len _ _ h5
        cases es with
        | nil => cases l
        | cons e2 es =>
          cases es with
          | cons _ _ => cases l
          | nil => exact si_range2 (gl_of h2).1 (cx.law.blt _ range_mem) h4 (chks_cons h5).2.1 (ss_cons h4 (ok_e e _ fl X W cx hc tk h3).1 q)
      · cases h
    · split at h
      · obtain ⟨h, h5⟩ := bt h
        obtain ⟨h, h4⟩ := bt h
        obtain ⟨h, h3⟩ := bt h
        obtain ⟨h1, h2⟩ := bt h
        cases of_decide_eq_true h1
        cases es with
        | cons _ _ => cases h3
        | nil =>
          cases tg <;> first
            | exact si_enum (gl_of h2).1 (cx.law.blt _ enum_mem) h5 (ss_cons h5 (ok_e e _ fl X W cx hc tk h4).1 ss_nil)
            | (cases h0; done)
      · cases h
    · cases h
end
end
end Fv
set_option Elab.async false
set_option linter.all false
set_option maxRecDepth 100000
set_option maxHeartbeats 4000000
/-! Fv, 18: statements. -/
namespace Fv
open PySem PySem.Spec PyProof.Rows L2
/-- a wish that does not look at the slots -/
def Wi (W : WX) : Prop := ∀ c d σ σ' H, W c d σ H → W c d σ' H
section
variable {G : Gc} {ρ : List Addr} {H : Hp} {W : WX} {σ σ' : L2.St} {α : Type} {r : R α} {k : α → List Addr → Hp → FH → Prop}
theorem Sat.chg (hW : Wi W) (h : Sat G ρ H W σ r k) : Sat G ρ H W σ' r k := by
  cases r with
  | ok a F => exact h
  | exc c w F => exact fun ρ' H' cls dd u p hF hc hd hw => hW _ _ _ _ _ (h ρ' H' cls dd u p hF hc hd hw)
  | bad => exact h
end
/-- what is wanted behind a statement, by data -/
def Kd (G : Gc) (xi : Xi) (Dn : Ends) (o : O) (ρ : List Addr) (H : Hp) : Prop := match o with
  | .nx ls => ∀ σ, Loc G xi ρ H σ ls → Dn.nx σ H
  | .rt d => ∀ v, RD G ρ H d v → Dn.rt v H
  | .bk ls => ∀ σ, Loc G xi ρ H σ ls → Dn.bk σ H
  | .ct ls => ∀ σ, Loc G xi ρ H σ ls → Dn.ct σ H
def rSr (G : Gc) (xi : Xi) (W : WX) (r : Ls → FH → R O) : TS := fun Dn σ H => ∃ ρ F ls, Loc G xi ρ H σ ls ∧ RH G ρ H F ∧ Sat G ρ H W σ (r ls F) fun o ρ' H' _ => Kd G xi Dn o ρ' H'
abbrev rS (X : Cx) (T : Tb) (C : CT) (W : WX) (s : FS) : TS := rSr (gc X T) none W (ex C T.P s)
abbrev rSs (X : Cx) (T : Tb) (C : CT) (W : WX) (s : List FS) : TS := rSr (gc X T) none W (exs C T.P s)
section
variable {X : Cx} {T : Tb} {C : CT} {W : WX} {pos : Pos}
theorem sx_nil : PSs X [] (rSs X T C W []) := pss_nil.imp fun Dn σ H ⟨ρ, F, ls, hl, hF, hs⟩ => by
  rw [exs] at hs
  exact hs.here hF σ hl
theorem seq_read (hW : Wi W) {s : FS} {r : List FS} {Dn : Ends} {σ : L2.St} {H : Hp} (h : rSs X T C W (s :: r) Dn σ H) : tSeq (rS X T C W s) (rSs X T C W r) Dn σ H := by
  obtain ⟨ρ, F, ls, hl, hF, hs⟩ := h
  rw [exs] at hs
  refine ⟨ρ, F, ls, hl, hF, ?_⟩
  cases e : ex C T.P s ls F with
  | ok o F1 =>
    rw [e] at hs
    cases o with
    | nx ls' =>
      intro ρ' H' p hF' σ' hl'
      exact ⟨ρ', F1, ls', hl', hF', (Sat.later p hs).chg hW⟩
    | rt d => exact hs
    | bk ls' => exact hs
    | ct ls' => exact hs
  | exc c w F1 => rw [e] at hs; exact hs
  | bad => rw [e] at hs; exact hs
theorem sx_cons (hW : Wi W) {st : Stmt} {sts : List Stmt} {s : FS} {r : List FS} (h1 : PS X st (rS X T C W s)) (h2 : PSs X sts (rSs X T C W r)) : PSs X (st :: sts) (rSs X T C W (s :: r)) := (pss_cons h1 h2).imp fun Dn σ H h => seq_read hW h
theorem sx_one {st : Stmt} {s : FS} (h1 : PS X st (rS X T C W s)) : PSs X [st] (rSs X T C W [s]) := (pss_one h1).imp fun Dn σ H ⟨ρ, F, ls, hl, hF, hs⟩ => by
  rw [exs] at hs
  refine ⟨ρ, F, ls, hl, hF, ?_⟩
  cases e : ex C T.P s ls F with
  | ok o F1 =>
    rw [e] at hs
    cases o with
    | nx ls' =>
      replace hs : Sat (gc X T) ρ H W σ (exs C T.P [] ls' F1) _ := hs
      rw [exs] at hs
      exact hs
    | rt d => exact hs
    | bk ls' => exact hs
    | ct ls' => exact hs
  | exc c w F1 => rw [e] at hs; exact hs
  | bad => rw [e] at hs; exact hs
theorem sw_no {e : Expr} {t : Option Expr} {l : Nat} {env : Env} (h : (!isCompr e) = true) : swapsWith e t l env = pure false := by
  cases e <;> first | rfl | (cases h; done)
theorem ss_ex {e : Expr} {fe : FE} (h : PE X e (rE X T none C W fe)) (hn : (!isCompr e) = true) : PS X (.Expr e pos) (rS X T C W (.ex fe)) := (ps_expr h (sw_no hn)).imp fun Dn σ H ⟨ρ, F, ls, hl, hF, hs⟩ => by
  rw [ex] at hs
  exact ⟨ρ, F, ls, hl, hF, (Sat.bind hs).mono fun d ρ1 H1 F1 p1 hF1 hs1 v rv => hs1.here hF1 σ (hl.mono p1)⟩
theorem ss_ret {e : Expr} {fe : FE} (h : PE X e (rE X T none C W fe)) : PS X (.Return (some e) pos) (rS X T C W (.ret fe)) := (ps_ret h).imp fun Dn σ H ⟨ρ, F, ls, hl, hF, hs⟩ => by
  rw [ex] at hs
  exact ⟨ρ, F, ls, hl, hF, (Sat.bind hs).mono fun d ρ1 H1 F1 p1 hF1 hs1 v rv => hs1.here hF1 v rv⟩
theorem ss_retN {fe : FE} (hn : isNon fe = true) : PS X (.Return none pos) (rS X T C W (.ret fe)) := ps_retN.imp fun Dn σ H ⟨ρ, F, ls, hl, hF, hs⟩ => by
  cases fe <;> first | (cases hn; done) | skip
  rw [ex, ev] at hs
  exact hs ρ H (Post.refl _ _) hF _ rfl
/-- what an assignment wants -/
theorem asg_read {t : Tg} {fe : FE} {Dn : Ends} {σ : L2.St} {H : Hp} (h : rS X T C W (.asg t fe) Dn σ H) : rE X T none C W fe σ H fun v H1 => rG X T none t v σ H1 Dn.nx := by
  obtain ⟨ρ, F, ls, hl, hF, hs⟩ := h
  rw [ex] at hs
  refine ⟨ρ, F, ls, hl, hF, (Sat.bind hs).mono fun d ρ1 H1 F1 p1 hF1 hs1 v rv => ?_⟩
  obtain ⟨ls', e, q⟩ := lift_split hs1
  exact ⟨ρ1, F1, d, ls, ls', hF1, rv, hl.mono p1, e, fun σ' hl' _ => q.here hF1 σ' hl'⟩
theorem ss_asg {t : Tg} {g e : Expr} {fe : FE} (he : PE X e (rE X T none C W fe)) (hg : PG X g (rG X T none t)) (hs : swapsWith e (some g) pos.line X.env = pure false) (hw : swappedStores [g] e X.env = pure none) (ha : (assignEach [g] X.env).map (·.2) = [assign g X.env]) :
    PS X (.Assign [g] e pos) (rS X T C W (.asg t fe)) := (ps_asg he hg hs hw ha).imp fun Dn σ H h => asg_read h
theorem sw_par {x y : Str} {px py pt pt2 : Pos} {kt k2 : Nat} {a b : Expr} {env : Env} (hk : env.blockKind = .function) (hx : env.kindOf x = some .local) (hy : env.kindOf y = some .local) (hp : parB x y px py a b = true) :
    swappedStores [.Tuple [.Name x px, .Name y py] kt pt] (.Tuple [a, b] k2 pt2) env = pure (some [x, y]) := by
  unfold parB at hp
  simp only [Bool.and_eq_true, Bool.not_eq_true', decide_eq_false_iff_not, beq_iff_eq] at hp
  obtain ⟨⟨⟨⟨⟨h1, h2⟩, h3⟩, h4⟩, h5⟩, h6⟩ := hp
  have q1 : ∀ f : Expr → Bool, f a = false → f b = false → [a, b].any f = false := fun f e1 e2 => by simp [e1, e2]
  have ed : ([x, y] : List Str).eraseDups = [x, y] := by
    have hne : (y == x) = false := beq_eq_false_iff_ne.mpr fun z => h1 z.symm
    simp [List.eraseDups_cons, List.filter_cons, hne]
  unfold swappedStores
  simp only [hk, hx, hy, h2, h5, h6, Expr.pos, List.length_cons, List.length_nil, List.head?_cons, Option.map_some, Option.getD_some, List.filterMap_cons, List.filterMap_nil, beq_self_eq_true, Bool.and_true, if_true, ed]
  rw [if_neg (by decide), q1 _ (by cases a <;> first | rfl | (cases h3; done)) (by cases b <;> first | rfl | (cases h4; done))]
  rfl
theorem ss_par {i j : Nat} {x y : Str} {a b : Expr} {fa fb : FE} {px py pt pt2 : Pos} {kt k2 : Nat} (hc : X.calm = true) (hN : X.N.Nodup) (hi : X.N[i]? = some x) (hj : X.N[j]? = some y) (hx : X.env.scope.names.lookup x = some .local) (hy : X.env.scope.names.lookup y = some .local)
    (hp : parB x y px py a b = true) (ha : PE X a (rE X T none C W fa)) (hb : PE X b (rE X T none C W fb)) : PS X (.Assign [.Tuple [.Name x px, .Name y py] kt pt] (.Tuple [a, b] k2 pt2) pos) (rS X T C W (.par i j fa fb)) := by
  have hp' := hp
  unfold parB at hp'
  simp only [Bool.and_eq_true, Bool.not_eq_true', decide_eq_false_iff_not] at hp'
  obtain ⟨⟨⟨⟨⟨h1, _⟩, h3⟩, h4⟩, _⟩, _⟩ := hp'
  have hij : i ≠ j := fun z => by
    subst z
    rw [hi] at hj
    exact h1 (Option.some.inj hj)
  have pa : PA X [a, b] (tCons (rE X T none C W fa) (tCons (rE X T none C W fb) tNil)) := pa_cons ha (pa_cons hb pa_nil (star_cons (by rw [h4]; rfl))) (star_cons (by rw [h3]; rfl))
  refine ⟨fun pins s σ H Dn I ⟨ρ, F, ls, hl, hF, hs⟩ => (ps_par hc hN hi hj hij hx hy pa (sw_par (by unfold Env.blockKind; rw [I.ok.kind]; rfl) hx hy hp)).run pins s σ H Dn I ?_⟩
  rw [ex] at hs
  refine ⟨ρ, F, ls, hl, hF, (Sat.bind hs).mono fun d ρ1 H1 F1 p1 hF1 hs1 v rv => ?_⟩
  refine ⟨ρ1, F1, ls, hl.mono p1, hF1, (Sat.bind hs1).mono fun e ρ2 H2 F2 p2 hF2 hs2 u ru => ?_⟩
  exact ⟨v, u, rfl, hs2.here hF2 _ (((((hl.mono p1).mono p2).set (s := .d d) (RD.mono p2 _ _ rv) i)).set (s := .d e) ru j)⟩
theorem ss_setI (hu : X.A.units + 64 < cLine) (hw : X.w = T.w) {o i v : Expr} {fo fi fv : FE} {p : Pos} (ho : PE X o (rE X T none C W fo)) (hi : PE X i (rE X T none C W fi)) (hv : PE X v (rE X T none C W fv)) (hs : (!isSlice i) = true) : PS X (.Assign [.Subscript o i p] v pos) (rS X T C W (.setI fo fi fv)) := by
  have hsw : swapsWith v (some (.Subscript o i p)) pos.line X.env = pure false := by cases v <;> rfl
  refine (ps_asg hv (pg_sub ho hi (set_all (T := T) (W := WT) (σ0 := []) hu hw) (by intro _; cases i <;> first | rfl | (cases hs; done))) hsw rfl rfl).imp fun Dn σ H ⟨ρ, F, ls, hl, hF, hs⟩ => ?_
  rw [ex] at hs
  refine ⟨ρ, F, ls, hl, hF, (Sat.bind hs).mono fun d ρ1 H1 F1 p1 hF1 hs1 v rv => ?_⟩
  refine ⟨ρ1, F1, ls, hl.mono p1, hF1, (Sat.bind hs1).mono fun dx ρ2 H2 F2 p2 hF2 hs2 x rx => ?_⟩
  refine ⟨ρ2, F2, ls, (hl.mono p1).mono p2, hF2, (Sat.bind hs2).mono fun dy ρ3 H3 F3 p3 hF3 hs3 y ry => ?_⟩
  cases e : setIop dx dy d F3 with
  | none => simp only [e] at hs3; exact False.elim hs3
  | some F' =>
    simp only [e] at hs3
    exact ⟨ρ3, F3, dx, dy, d, F', hF3, RD.mono p3 _ _ rx, ry, RD.mono (p2.trans p3) _ _ rv, e, fun ρ' H' p hF' => hs3 ρ' H' p hF' σ (((hl.mono p1).mono p2).mono (p3.trans p))⟩
theorem ss_if {c : Expr} {fc : FE} {a b : List Stmt} {fa fb : List FS} (hW : Wi W) (hc : PT X c (rT X T none C W fc)) (ha : PSs X a (rSs X T C W fa)) (hb : PSs X b (rSs X T C W fb)) : PS X (.If c a b pos) (rS X T C W (.ite fc fa fb)) :=
  (ps_if hc ha hb).imp fun Dn σ H ⟨ρ, F, ls, hl, hF, hs⟩ => by
    rw [ex] at hs
    refine ⟨ρ, F, ls, hl, hF, ?_⟩
    cases e1 : ev C T.P fc ls F with
    | ok x F1 =>
      rw [e1] at hs
      replace hs : Sat (gc X T) ρ H W σ ((lift (truth F1 x) F1).bind fun k F => if k then exs C T.P fa ls F else exs C T.P fb ls F) _ := hs
      show Sat (gc X T) ρ H W σ (lift (truth F1 x) F1) _
      cases e2 : truth F1 x with
      | none => rw [e2] at hs; exact False.elim hs
      | some k =>
        rw [e2] at hs
        intro ρ1 H1 p1 hF1
        cases k with
        | true => exact ⟨ρ1, F1, ls, hl.mono p1, hF1, Sat.later p1 hs⟩
        | false => exact ⟨ρ1, F1, ls, hl.mono p1, hF1, Sat.later p1 hs⟩
    | exc c w F1 => rw [e1] at hs; exact hs
    | bad => rw [e1] at hs; exact hs
theorem ss_whl {n : Nat} {c : Expr} {fc : FE} {b : List Stmt} {fb : List FS} (hW : Wi W) (hp : PassesOwn (model X.prog X.w) X.A X.env X.xe) (hc : PT X c (rT X T none C W fc)) (hb : PSs X b (rSs X T C W fb)) : PS X (.While c b [] pos) (rS X T C W (.whl n fc fb)) :=
  (ps_while hp hc hb).imp fun Dn σ H ⟨ρ, F, ls, hl, hF, hs⟩ => by
    rw [ex] at hs
    refine ⟨fun m σ H => ∃ ρ F ls, Loc (gc X T) none ρ H σ ls ∧ RH (gc X T) ρ H F ∧ Sat (gc X T) ρ H W σ (whlL (fun ls F => (ev C T.P fc ls F).bind fun x F => lift (truth F x) F) (fun ls F => exs C T.P fb ls F) m ls F) fun o ρ' H' _ => Kd (gc X T) none Dn o ρ' H', ⟨n, ρ, F, ls, hl, hF, hs⟩, ?_⟩
    rintro m σ1 H1 ⟨ρ1, F1, ls1, hl1, hF1, hs1⟩
    cases m with
    | zero => exact False.elim hs1
    | succ m =>
      rw [whlL] at hs1
      refine ⟨ρ1, F1, ls1, hl1, hF1, (Sat.bind hs1).mono fun k ρ2 H2 F2 p2 hF2 hs2 => ?_⟩
      cases k with
      | false =>
        rw [if_neg Bool.false_ne_true] at hs2 ⊢
        exact hs2.here hF2 σ1 (hl1.mono p2)
      | true =>
        rw [if_pos rfl] at hs2 ⊢
        refine ⟨fun σ' H' => ∃ ρ F ls, Loc (gc X T) none ρ H' σ' ls ∧ RH (gc X T) ρ H' F ∧ Sat (gc X T) ρ H' W σ' (whlL (fun ls F => (ev C T.P fc ls F).bind fun x F => lift (truth F x) F) (fun ls F => exs C T.P fb ls F) m ls F) fun o ρ' H' _ => Kd (gc X T) none Dn o ρ' H',
          fun σ' H' h => ⟨m, Nat.lt_succ_self _, h⟩, ρ2, F2, ls1, hl1.mono p2, hF2, ?_⟩
        cases e : exs C T.P fb ls1 F2 with
        | ok o F3 =>
          simp only [e] at hs2
          cases o with
          | nx ls' => exact fun ρ' H' p hF' σ' hl' => ⟨ρ', F3, ls', hl', hF', (Sat.later p hs2).chg hW⟩
          | ct ls' => exact fun ρ' H' p hF' σ' hl' => ⟨ρ', F3, ls', hl', hF', (Sat.later p hs2).chg hW⟩
          | bk ls' => exact hs2
          | rt d => exact hs2
        | exc c w F3 => simp only [e] at hs2; exact hs2
        | bad => simp only [e] at hs2; exact False.elim hs2
theorem ss_for {t : Tg} {k : IK} {its : List FE} {g it : Expr} {b : List Stmt} {fb : List FS} (hW : Wi W) (hp : PassesOwn (model X.prog X.w) X.A X.env X.xe) (hc : X.calm = true) (hi : PI X g it (rI X T none C W k its)) (hg : PG X g (rG X T none t)) (hb : PSs X b (rSs X T C W fb)) (hs : (!isSet it) = true) :
    PS X (.For g it b [] pos) (rS X T C W (.for_ t k its fb)) :=
  (ps_for hp hc hi hg hb (folded_no hs _)).imp fun Dn σ H ⟨ρ, F, ls, hl, hF, hs⟩ => by
    rw [ex] at hs
    refine ⟨ρ, F, ls, hl, hF, (Sat.bind hs).mono fun ds ρ1 H1 F1 p1 hF1 hs1 => ?_⟩
    split at hs1
    case h_2 => exact False.elim hs1
    rename_i xs gd hw
    refine ⟨xs, gd, hw, fun J wd => ?_⟩
    generalize hbody : (fun x ls F => (match bindT t x ls with
      | some ls => exs C T.P fb ls F
      | none => R.bad) : D → Ls → FH → R O) = body at hs1
    have hl1 := hl.mono p1
    refine ⟨fun i m σ H => i ≤ xs.length ∧ m = xs.length - i ∧ ∃ ρ F ls, Post ρ1 H1 ρ H ∧ Loc (gc X T) none ρ H σ ls ∧ RH (gc X T) ρ H F ∧ Sat (gc X T) ρ H W σ (forL gd body (xs.drop i) ls F) fun o ρ' H' _ => Kd (gc X T) none Dn o ρ' H',
      ⟨xs.length, Nat.zero_le _, rfl, ρ1, F1, ls, Post.refl _ _, hl1, hF1, hs1⟩, ?_⟩
    rintro i m σ2 H2 ⟨hi, rfl, ρ2, F2, ls2, p2, hl2, hF2, hs2⟩
    by_cases hlt : i < xs.length
    · rw [List.drop_eq_getElem_cons hlt] at hs2
      unfold forL at hs2
      split at hs2
      case isFalse => exact False.elim hs2
      rename_i hg
      refine .inr ⟨wd.go i ρ2 H2 F2 hlt p2.pst hF2 hg, fun σ H => ∃ ρ F ls, Post ρ1 H1 ρ H ∧ Loc (gc X T) none ρ H σ ls ∧ RH (gc X T) ρ H F ∧ Sat (gc X T) ρ H W σ (forL gd body (xs.drop (i + 1)) ls F) fun o ρ' H' _ => Kd (gc X T) none Dn o ρ' H',
        fun σ' H' hN => ⟨xs.length - (i + 1), by omega, hlt, rfl, hN⟩, fun v H3 hy => ?_⟩
      obtain ⟨ext, d, hd, rd⟩ := wd.yld i ρ2 H2 F2 v H3 hlt p2.pst hF2 hg hy
      rw [List.getElem?_eq_getElem hlt] at hd
      cases hd
      have p23 : Post ρ2 H2 ρ2 H3 := ⟨⟨[], by simp, fun _ h => by cases h⟩, fun b o h _ => ext b o h⟩
      have hF3 := hF2.ext ext
      subst hbody
      cases hbt : bindT t xs[i] ls2 with
      | none => simp only [hbt] at hs2; exact False.elim hs2
      | some ls3 =>
        simp only [hbt] at hs2
        refine ⟨ρ2, F2, xs[i], ls2, ls3, hF3, rd, hl2.mono p23, hbt, fun σ' hl' _ => ⟨ρ2, F2, ls3, hl', hF3, ?_⟩⟩
        cases e : exs C T.P fb ls3 F2 with
        | ok o F3 =>
          simp only [e] at hs2
          have again : ∀ {ls' : Ls}, Sat (gc X T) ρ2 H2 W σ2 (forL gd (fun x ls F => (match bindT t x ls with
              | some ls => exs C T.P fb ls F
              | none => R.bad)) (xs.drop (i + 1)) ls' F3) (fun o ρ' H' _ => Kd (gc X T) none Dn o ρ' H') → ∀ ρ' H', Post ρ2 H3 ρ' H' → RH (gc X T) ρ' H' F3 → ∀ σ', Loc (gc X T) none ρ' H' σ' ls' →
              ∃ ρ F ls, Post ρ1 H1 ρ H' ∧ Loc (gc X T) none ρ H' σ' ls ∧ RH (gc X T) ρ H' F ∧ Sat (gc X T) ρ H' W σ' (forL gd (fun x ls F => (match bindT t x ls with
              | some ls => exs C T.P fb ls F
              | none => R.bad)) (xs.drop (i + 1)) ls F) fun o ρ' H' _ => Kd (gc X T) none Dn o ρ' H' := fun {ls'} hs ρ' H' p hF' σ' hl' =>
            ⟨ρ', F3, ls', p2.trans (p23.trans p), hl', hF', (hs.later (p23.trans p)).chg hW⟩
          cases o with
          | nx ls' => exact again hs2
          | ct ls' => exact again hs2
          | bk ls' => exact Sat.later p23 hs2
          | rt d => exact Sat.later p23 hs2
        | exc c w F3 => simp only [e] at hs2; exact (Sat.later p23 hs2).chg hW
        | bad => simp only [e] at hs2; exact False.elim hs2
    · have e : i = xs.length := by omega
      subst e
      rw [List.drop_length] at hs2
      unfold forL at hs2
      split at hs2
      case isFalse => exact False.elim hs2
      rename_i hg
      exact .inl ⟨wd.stop ρ2 H2 F2 p2.pst hF2 hg, hs2.here hF2 σ2 hl2⟩
end
end Fv
set_option Elab.async false
set_option linter.all false
set_option maxRecDepth 100000
set_option maxHeartbeats 4000000
/-! Fv, 19: several except clauses that name what they caught; raise. -/
namespace Fv
open PySem PySem.Spec PyProof.Rows L2
abbrev Suite := Value × Nat × (Addr → Value → Option Addr → TS)
/-- what the clauses wish of an exception of the body, one after the other -/
def wClauses (K : PySem.W.Frag) (Wout : WX) (D : Ends) : List Suite → WX
  | [] => Wout
  | (c, i, ts) :: r => fun cls d σ H => ∃ b, PySem.W.exmOne K cls c = some b ∧
      (b = true → ∀ a, H a = none → ts a cls d { nx := fun σ' H' => D.nx (σ'.set i none) H', rt := D.rt, bk := fun σ' H' => D.bk (σ'.set i none) H', ct := fun σ' H' => D.ct (σ'.set i none) H' } (σ.set i (some (.ref a))) H) ∧ (b = false → wClauses K Wout D r cls d σ H)
inductive Clauses (X : Cx) : List ExceptHandler → List Suite → Prop
  | nil : Clauses X [] []
  | cons {x n : Str} {c : Value} {i : Nat} {ts : Addr → Value → Option Addr → TS} {b₀ : Stmt} {suite : List Stmt} {np pos' : Pos} {hds : List ExceptHandler} {l : List Suite} (hc : Names X x c) (hi : X.N[i]? = some n) (hln : X.env.kindOf n = some .local)
      (hsu : ∀ (a : Addr) (oe : Obj) (cls : Value) (d : Option Addr) (pn : List (Addr × Obj)), Zc cls d oe → (∃ vs, oe.data = .fields vs) → PSs (X.suite a ((a, oe) :: pn)) (b₀ :: suite) (ts a cls d)) (r : Clauses X hds l) :
      Clauses X (.ExceptHandler (some (.Name x np)) (some n) (b₀ :: suite) pos' :: hds) ((c, i, ts) :: l)
section
variable {X : Cx} {body : List Stmt} {h₀ : ExceptHandler} {hds : List ExceptHandler} {l : List Suite} {pos : Pos} {tb : WX → TS} {Wout : WX}
theorem ps_clauses (hs : X.stack = X.env :: X.outer) (hf : X.env.frame = some X.env.locals) (hN : X.N.Nodup) (tk : Takes X Wout)
    (hb : ∀ (W : WX) (pn : List (Addr × Obj)) (xe : Value → Shared → Prop), Takes (X.tr pn xe) W → PassesOwn (model X.prog X.w) X.A X.env xe → PSs (X.tr pn xe) body (tb W))
    (hh : Clauses X (h₀ :: hds) l) : PS X (.Try body (h₀ :: hds) [] [] pos) (fun D σ H => tb (wClauses X.K Wout D l) D σ H) := by
  refine ⟨fun pins s σ H D I h => ?_⟩
  have ok := I.ok
  have hfr : X.A.frames = some (X.env :: X.outer) := by rw [ok.frames, hs]
  refine wpAny_Try_except ?_
  refine wpAny_mono ((hb (wClauses X.K Wout D l) (X.pn ++ pins) (fun e s₁ => wpAny (model X.prog X.w) X.A (noteFrame e X.env) (fun _ s₂ => wpAny (model X.prog X.w) X.A (setFlight e none) (fun _ s₃ =>
    wpAny (model X.prog X.w) X.A (handleBy e X.env (h₀ :: hds)) (SP X pins D) X.xe s₃) X.xe s₂) X.xe s₁) (fun u s' xx => ?_) PassesOwn.looking).run [] s σ H D (I.toTry _) h) (fun f s1 hsp => ?_) (fun e s1 he => he)
  · obtain ⟨a, B, sI, pins', σ', H', cls, d, rfl, J', nb, up, sky, na, os, ag, w⟩ := xx
    have J : L2.Inv X pins σ' H' sI := J'.ofTry ok
    have sky' : Sky B (X.env :: X.outer) a (Zc cls d) X.env.locals s'.heap := by rw [← hs]; exact sky
    show wpAny (model X.prog X.w) X.A (noteFrame (.ref a) X.env) _ _ _
    refine Sky.land Zc.steady hfr hf sky' fun h3 fl3 up3 => ?_
    have J3 : L2.Inv X pins σ' H' { s' with heap := h3 } := J.landed nb fl3.1 (up.trans up3) os ag
    obtain ⟨oe3, vs3, he3, hz3, hd3⟩ := fl3.there
    have notFr : ∀ {h : Heap} {o : Obj} {vs : Array Value}, h.FunFrames B (X.env :: X.outer) → h.get? a = some o → o.data = .fields vs → a ∉ frs (X.env :: X.outer) := fun {h o vs} ff e dd hm => by
      obtain ⟨_, o', e', hnf⟩ := ff.mem hm
      rw [e] at e'; cases e'
      exact hnf _ dd
    have nfr := notFr fl3.2.2.1 he3 hd3
    have nL : a ≠ X.env.locals := fun z => nfr (List.mem_filterMap.mpr ⟨X.env, List.mem_cons_self, by rw [hf, z]⟩)
    have nF : a ∉ X.fs := fun hm => by
      obtain ⟨e, he, q⟩ := List.mem_filterMap.mp hm
      exact nfr (List.mem_filterMap.mpr ⟨e, List.mem_cons_of_mem _ he, q⟩)
    have S3 := J3.suite he3 hd3 na nL nF
    have go : ∀ {hds' : List ExceptHandler} {l' : List Suite}, Clauses X hds' l' → wClauses X.K Wout D l' cls d σ' H' →
        wpAny (model X.prog X.w) X.A (handleBy (.ref a) X.env hds') (SP X pins D) X.xe { s' with heap := h3 } := by
      intro hds' l' hk
      induction hk with
      | nil =>
        intro w
        refine wpAny_handleBy_nil ?_
        obtain ⟨k1, k2, k3, oe, vs, T, oT, ts', he, hz, hd, h1, hr⟩ := id fl3
        unfold PySem.passOn
        refine wpAny_bind (wpAny_field he hd h1 ?_)
        rw [if_neg (show ¬ ((Value.ref T == Value.none) = true) from by simp)]
        have fin : wpAny (model X.prog X.w) X.A (setFlight (.ref a) X.env.frame) (fun _ s4 => wpAny (model X.prog X.w) X.A (throw (.ref a) : Sem Flow) (SP X pins D) X.xe s4) X.xe { s' with heap := h3 } := by
          rw [hf]
          refine HandSPX.setFlight_upZ fl3 fun h4 hh4 up4 => wpAny_throw (tk _ _ ?_)
          exact ⟨a, B, sI, pins, σ', H', cls, d, rfl, J, nb, (up.trans up3).trans up4, .inr (.inr (by rw [hs]; exact hh4)), na, os, ag, w⟩
        first
          | exact wpAny_bind (wpAny_pure (wpAny_bind fin))
          | exact wpAny_bind fin
      | @cons x n c i ts b₀ suite np pos' hds2 l2 hc hi hln hsu r ih =>
        intro w
        obtain ⟨b, hb1, hyes, hno⟩ := w
        refine wpAny_handleBy_cons (codeAny_handlers_test ?_) (by intro q; cases q)
        have LT : PySem.W.Looks (model X.prog X.w) h3 (typeOf (.ref a)) cls := fun A Q E s k q => wpAny_typeOf_ref (k _ _ he3) (by rw [hz3.1]; exact q)
        have LM := PySem.W.exm_one (M := model X.prog X.w) (J3.kIn) LT hb1
        have test : ∀ {Q : Value → Shared → Prop} {E : Value → Shared → Prop}, Q c { s' with heap := h3 } → wpAny (model X.prog X.w) (X.A.mark (some (.ref a))) (eval (.Name x np) X.env) Q E { s' with heap := h3 } := fun {Q E} q => by
          obtain ⟨hg, hdbg, hm | ⟨hm, hv, hnn⟩⟩ := hc
          · exact ld_glob (X := X.suite a ((a, oe3) :: (X.pn ++ pins))) S3 hg hm q hdbg
          · exact ld_blt (X := X.suite a ((a, oe3) :: (X.pn ++ pins))) S3 hg hm hv q hnn hdbg
        refine test (LM.here ?_)
        cases b with
        | true =>
          refine codeAny_handlers_suite_as ?_
          refine HandSPX.lands_againZ fl3 fun h4 fl4 up4 => ?_
          have J4 : L2.Inv X pins σ' H' { s' with heap := h4 } := J.landed nb fl4.1 ((up.trans up3).trans up4) os ag
          obtain ⟨oe4, vs4, he4, hz4, hd4⟩ := fl4.there
          have S4 := J4.suite he4 hd4 na nL nF
          refine store_ok (X := X.suite a ((a, oe4) :: (X.pn ++ pins))) (v := .ref a) S4 hN hi (.inl hln) rfl (fun s5 S5 => ?_) (.inr hln)
          refine wpAny_mono ((hsu a oe4 cls d (X.pn ++ pins) hz4 ⟨_, hd4⟩).run [] s5 _ H' _ S5 (hyes rfl a na)) (fun f s6 hsp => ?_) (fun _ _ z => False.elim z)
          have end_ : ∀ {σ6 : L2.St} {H6 : Hp} {Q : Shared → Prop}, L2.Inv (X.suite a ((a, oe4) :: (X.pn ++ pins))) [] σ6 H6 s6 → (∀ s7, L2.Inv X pins (σ6.set i none) H6 s7 → Q s7) →
              wpAny (model X.prog X.w) X.A (do bindName X.env n .none; unbindBehindTheSuite X.env n pos') (fun _ s7 => Q s7) X.xe s6 := fun {σ6 H6 Q} S6 hq => gone_ok (S6.unsuite ok) hN hi hln hq
          cases f with
          | next =>
            obtain ⟨σ6, H6, S6, q6⟩ := hsp
            exact end_ S6 fun s7 J7 => ⟨_, _, J7, q6⟩
          | brk =>
            obtain ⟨σ6, H6, S6, q6⟩ := hsp
            exact end_ S6 fun s7 J7 => ⟨_, _, J7, q6⟩
          | cont =>
            obtain ⟨σ6, H6, S6, q6⟩ := hsp
            exact end_ S6 fun s7 J7 => ⟨_, _, J7, q6⟩
          | ret u =>
            obtain ⟨v6, σ6, H6, S6, r6, q6⟩ := hsp
            exact end_ S6 fun s7 J7 => ⟨_, _, _, J7, r6, q6⟩
        | false =>
          show wpAny _ X.A (handleBy (.ref a) X.env hds2) _ _ _
          exact ih (hno rfl)
    exact go hh w
  · cases f with
    | next =>
      obtain ⟨σ', H', J', q⟩ := hsp
      exact wpAny_execs_nil ⟨σ', H', J'.ofTry ok, q⟩
    | brk =>
      obtain ⟨σ', H', J', q⟩ := hsp
      exact ⟨σ', H', J'.ofTry ok, q⟩
    | cont =>
      obtain ⟨σ', H', J', q⟩ := hsp
      exact ⟨σ', H', J'.ofTry ok, q⟩
    | ret u =>
      obtain ⟨v, σ', H', J', r, q⟩ := hsp
      exact ⟨v, σ', H', J'.ofTry ok, r, q⟩
end
section
variable {X : Cx} {T : Tb} {n : Nat} {W : WX}
theorem ss_raise {c : String} {y : Str} {a : Expr} {fe : FE} {p pos pos2 : Pos} {C : CT} (hc : X.calm = true) (tk : Takes X W) (hr : RmG n X.A) (L : Law X T) (mk : Mks X c) (cin : c ∈ T.P.exc) (e : so c = y) (hg : glB X.env.scope y = true) (hst : (!isStar a) = true) (he : PE X a (rE X T none C W fe)) :
    PS X (.Raise (some (.Call (.Name y p) [a] [] pos)) none pos2) (rS X T C W (.raise c fe)) := by
  subst e
  obtain ⟨h1, h2, h3⟩ := gl_of hg
  refine (ps_raise hc tk (mk a _ p pos n hr.r he hst h1 h2)).imp fun Dn σ H ⟨ρ, F, ls, hl, hF, hs⟩ => ?_
  rw [ex] at hs
  refine ⟨ρ, F, ls, hl, hF, (Sat.bind hs).mono fun d ρ1 H1 F1 p1 hF1 hs1 v rv => fun C dd hm hd => ?_⟩
  exact hs1 ρ1 _ (.ref C) dd v (Post.upd ρ1 hd) (hF1.upd hd) ⟨C, rfl, hm, cin⟩ upd_same (RD.ext (ext_upd hd) rv)
end
end Fv
set_option Elab.async false
set_option linter.all false
set_option maxRecDepth 100000
set_option maxHeartbeats 4000000
/-! Fv, 20: try; a statement that is checked is read by its run. -/
namespace Fv
open PySem PySem.Spec PyProof.Rows L2
abbrev Fl.sui : Fl := ⟨false, false, false⟩
section
variable {T : Tb} {n : Nat}
/-- what is read in an except suite -/
theorem se_what {X : Cx} (L : WhatR X T) {a : Addr} {cls : Value} {d : Option Addr} {oe : Obj} {pn : List (Addr × Obj)} {i : Nat} {x : Str} {p pos : Pos} {C : CT} (hz : Zc cls d oe) (hf : ∃ vs, oe.data = .fields vs) (h : nmB X.N X.env.scope i x = true) :
    PE (X.suite a ((a, oe) :: pn)) (.Attribute (.Name x p) (so "what") pos) (rE X T (some (a, cls, d)) C WF (.what i)) := by
  obtain ⟨h1, h2, h3, h4⟩ := nm_of h
  refine (L a cls d oe pn (.Name x p) _ pos hz hf rfl (pe_var (X := X.suite a ((a, oe) :: pn)) h1 h2 h3 h4)).imp fun σ H Q ⟨ρ, F, ls, hl, hF, hs⟩ => ?_
  rw [ev] at hs
  split at hs
  · rename_i c w e
    obtain ⟨v, k1, a', cls', dd, u, e1, e2, e3, e4, Cc, e5, e6, e7⟩ := hl.val i _ e
    cases e1
    exact ⟨v, k1, e2, Cc, c, dd, u, e7, e5, e6, rfl, e3, hs.here hF u e4⟩
  · exact False.elim hs
mutual
theorem ok_q : ∀ (fe : FE) (e : Expr) (X : Cx) (C : CT) (a : Addr) (cls : Value) (d : Option Addr) (oe : Obj) (pn : List (Addr × Obj)), Law X T → WhatR X T → (∀ x fd, T.P.fn x = some fd → ∃ a fdat, Fn1 X T n x fd a fdat) → Zc cls d oe → (∃ vs, oe.data = .fields vs) → chk T.P Fl.sui X.N X.env.scope fe e = true →
    PE (X.suite a ((a, oe) :: pn)) e (rE X T (some (a, cls, d)) C WF fe)
  | .var i, e, X, C, a, cls, d, oe, pn, L, Lw, fns, hz, hf, h => by
    rw [chk.eq_def] at h
    dsimp only at h
    split at h
    · exact se_var (X := X.suite a ((a, oe) :: pn)) h
    · cases h
  | .what i, e, X, C, a, cls, d, oe, pn, L, Lw, fns, hz, hf, h => by
    rw [chk.eq_def] at h
    dsimp only at h
    split at h
    · obtain ⟨h, h2⟩ := bt h
      have h5 := (bt h).2
      have h2 := of_decide_eq_true h2
      subst h2
      exact se_what Lw hz hf h5
    · cases h
  | .non, e, X, C, a, cls, d, oe, pn, L, Lw, fns, hz, hf, h => by
    rw [chk.eq_def] at h
    dsimp only at h
    split at h
    · exact se_con (X := X.suite a ((a, oe) :: pn)) (d := .non) pe_non (fun _ _ => by rw [ev]) fun _ _ => rfl
    · cases h
  | .bl b, e, X, C, a, cls, d, oe, pn, L, Lw, fns, hz, hf, h => by
    rw [chk.eq_def] at h
    dsimp only at h
    split at h
    · cases eq_of_beq h
      exact se_con (X := X.suite a ((a, oe) :: pn)) (d := .bl b) pe_bl (fun _ _ => by rw [ev]) fun _ _ => rfl
    · cases h
  | .int b, e, X, C, a, cls, d, oe, pn, L, Lw, fns, hz, hf, h => by
    rw [chk.eq_def] at h
    dsimp only at h
    split at h
    · cases of_decide_eq_true h
      exact se_con (X := X.suite a ((a, oe) :: pn)) (d := .int b) pe_int (fun _ _ => by rw [ev]) fun _ _ => rfl
    · cases h
  | .str b, e, X, C, a, cls, d, oe, pn, L, Lw, fns, hz, hf, h => by
    rw [chk.eq_def] at h
    dsimp only at h
    split at h
    · obtain ⟨h1, h2⟩ := bt h
      have h1 := of_decide_eq_true h1
      subst h1
      exact se_con (X := X.suite a ((a, oe) :: pn)) (d := .str (so b)) pe_str (fun _ _ => by rw [ev]) fun _ _ => ⟨rfl, h2⟩
    · cases h
  | .glob x, e, X, C, a, cls, d, oe, pn, L, Lw, fns, hz, hf, h => by
    rw [chk.eq_def] at h
    dsimp only at h
    split at h
    · obtain ⟨h1, h2⟩ := bt h
      exact se_glob (X := X.suite a ((a, oe) :: pn)) ⟨L.wd, L.exm, L.exc, L.blt, L.con⟩ (of_decide_eq_true h1) h2
    · cases h
  | .fn x, e, X, C, a, cls, d, oe, pn, L, Lw, fns, hz, hf, h => by
    rw [chk.eq_def] at h
    dsimp only at h
    split at h
    · obtain ⟨h1, h2⟩ := bt h
      obtain ⟨h1, h3⟩ := bt h1
      obtain ⟨fd, hfd⟩ := Option.isSome_iff_exists.mp h2
      obtain ⟨q, fdat, F1⟩ := fns x fd hfd
      exact se_fn (X := X.suite a ((a, oe) :: pn)) (n := n) ⟨F1.mg, F1.kp, F1.ok, F1.pr, F1.df, F1.nd, F1.lk, F1.key⟩ (of_decide_eq_true h1) h3
    · cases h
  | .tup es, e, X, C, a, cls, d, oe, pn, L, Lw, fns, hz, hf, h => by
    rw [chk.eq_def] at h
    dsimp only at h
    split at h
    · exact se_tup (X := X.suite a ((a, oe) :: pn)) (ok_qs es _ X C a cls d oe pn L Lw fns hz hf h)
    · cases h
  | .lst es, e, X, C, a, cls, d, oe, pn, L, Lw, fns, hz, hf, h => by rw [chk.eq_def] at h; dsimp only at h; split at h <;> cases h
  | .bin _ _ _, e, X, C, a, cls, d, oe, pn, L, Lw, fns, hz, hf, h => by rw [chk.eq_def] at h; dsimp only at h; split at h <;> cases h
  | .neg _, e, X, C, a, cls, d, oe, pn, L, Lw, fns, hz, hf, h => by rw [chk.eq_def] at h; dsimp only at h; split at h <;> cases h
  | .not _, e, X, C, a, cls, d, oe, pn, L, Lw, fns, hz, hf, h => by rw [chk.eq_def] at h; dsimp only at h; split at h <;> cases h
  | .cmp _ _ _, e, X, C, a, cls, d, oe, pn, L, Lw, fns, hz, hf, h => by rw [chk.eq_def] at h; dsimp only at h; split at h <;> cases h
  | .chain _ _ _ _ _, e, X, C, a, cls, d, oe, pn, L, Lw, fns, hz, hf, h => by rw [chk.eq_def] at h; dsimp only at h; split at h <;> cases h
  | .and _ _, e, X, C, a, cls, d, oe, pn, L, Lw, fns, hz, hf, h => by rw [chk.eq_def] at h; dsimp only at h; split at h <;> cases h
  | .or _ _, e, X, C, a, cls, d, oe, pn, L, Lw, fns, hz, hf, h => by rw [chk.eq_def] at h; dsimp only at h; split at h <;> cases h
  | .ite _ _ _, e, X, C, a, cls, d, oe, pn, L, Lw, fns, hz, hf, h => by rw [chk.eq_def] at h; dsimp only at h; split at h <;> cases h
  | .call _ _, e, X, C, a, cls, d, oe, pn, L, Lw, fns, hz, hf, h => by rw [chk.eq_def] at h; dsimp only at h; split at h <;> cases h
  | .callK _ _ _ _, e, X, C, a, cls, d, oe, pn, L, Lw, fns, hz, hf, h => by rw [chk.eq_def] at h; dsimp only at h; split at h <;> cases h
  | .callV _ _, e, X, C, a, cls, d, oe, pn, L, Lw, fns, hz, hf, h => by rw [chk.eq_def] at h; dsimp only at h; split at h <;> cases h
  | .callL _ _ _ _, e, X, C, a, cls, d, oe, pn, L, Lw, fns, hz, hf, h => by rw [chk.eq_def] at h; dsimp only at h; split at h <;> cases h
  | .bi _ _, e, X, C, a, cls, d, oe, pn, L, Lw, fns, hz, hf, h => by rw [chk.eq_def] at h; dsimp only at h; split at h <;> cases h
  | .isi _ _, e, X, C, a, cls, d, oe, pn, L, Lw, fns, hz, hf, h => by rw [chk.eq_def] at h; dsimp only at h; split at h <;> cases h
  | .meth _ _ _, e, X, C, a, cls, d, oe, pn, L, Lw, fns, hz, hf, h => by rw [chk.eq_def] at h; dsimp only at h; split at h <;> cases h
  | .idx _ _, e, X, C, a, cls, d, oe, pn, L, Lw, fns, hz, hf, h => by rw [chk.eq_def] at h; dsimp only at h; split at h <;> cases h
  | .slc _ _ _, e, X, C, a, cls, d, oe, pn, L, Lw, fns, hz, hf, h => by rw [chk.eq_def] at h; dsimp only at h; split at h <;> cases h
  | .comp _ _ _ _ _ _, e, X, C, a, cls, d, oe, pn, L, Lw, fns, hz, hf, h => by
    rw [chk.eq_def] at h
    dsimp only at h
    split at h
    · simp [Fl.sui] at h
    · cases h
  | .comp2 _ _ _ _ _ _ _ _ _ _, e, X, C, a, cls, d, oe, pn, L, Lw, fns, hz, hf, h => by
    rw [chk.eq_def] at h
    dsimp only at h
    split at h
    · simp [Fl.sui] at h
    · cases h
theorem ok_qs : ∀ (es : List FE) (xs : List Expr) (X : Cx) (C : CT) (a : Addr) (cls : Value) (d : Option Addr) (oe : Obj) (pn : List (Addr × Obj)), Law X T → WhatR X T → (∀ x fd, T.P.fn x = some fd → ∃ a fdat, Fn1 X T n x fd a fdat) → Zc cls d oe → (∃ vs, oe.data = .fields vs) → chks T.P Fl.sui X.N X.env.scope es xs = true →
    PA (X.suite a ((a, oe) :: pn)) xs (rEs X T (some (a, cls, d)) C WF es)
  | [], xs, X, C, a, cls, d, oe, pn, L, Lw, fns, hz, hf, h => by
    rw [chks.eq_def] at h
    dsimp only at h
    split at h
    · exact ss_nil (X := X.suite a ((a, oe) :: pn))
    · cases h
  | e :: es, xs, X, C, a, cls, d, oe, pn, L, Lw, fns, hz, hf, h => by
    rw [chks.eq_def] at h
    dsimp only at h
    split at h
    · obtain ⟨h, h3⟩ := bt h
      obtain ⟨h1, h2⟩ := bt h
      exact ss_cons (X := X.suite a ((a, oe) :: pn)) h2 (ok_q e _ X C a cls d oe pn L Lw fns hz hf h1) (ok_qs es _ X C a cls d oe pn L Lw fns hz hf h3)
    · cases h
end
/-! ### the clauses -/
theorem Loc.xi {G : Gc} {ρ : List Addr} {H : Hp} {σ : L2.St} {ls : Ls} {xi : Xi} (h : Loc G none ρ H σ ls) : Loc G xi ρ H σ ls := ⟨h.len, fun i s e => by
  obtain ⟨v, k1, k2⟩ := h.val i s e
  refine ⟨v, k1, ?_⟩
  cases s with
  | d x => exact k2
  | clo b c => exact k2
  | exc c w => obtain ⟨_, _, _, _, z, _⟩ := k2; cases z⟩
/-- the suites of a try, as what they do -/
theorem clauses_of {X : Cx} {fl : Fl} (L : Law X T) (Lw : WhatR X T) (fns : ∀ x fd, T.P.fn x = some fd → ∃ a fdat, Fn1 X T n x fd a fdat) (C : CT) : ∀ (hs : List FS) (zs : List ExceptHandler), chkH T.P fl X.N X.env.scope hs zs = true →
    ∃ l, Clauses X zs l ∧ ∀ (Wout : WX) (Dn : Ends) (σ : L2.St) (H : Hp) (ρ : List Addr) (F : FH) (ls : Ls) (c : String) (w : D) (cls : Value) (dd : Addr) (u : V), Loc (gc X T) none ρ H σ ls → RH (gc X T) ρ H F → ExC (gc X T) c cls → H dd = some (.xd [(so "what", u)]) → RD (gc X T) ρ H w u →
      Sat (gc X T) ρ H Wout σ (hds C T.P hs c w ls F) (fun o ρ' H' _ => Kd (gc X T) none Dn o ρ' H') → wClauses X.K Wout Dn l cls (some dd) σ H
  | [], zs, h => by
    rw [chkH.eq_def] at h
    dsimp only at h
    split at h
    · refine ⟨[], .nil, fun Wout Dn σ H ρ F ls c w cls dd u hl hF hc hd hw hs => ?_⟩
      rw [hds] at hs
      exact hs ρ H cls dd u (Post.refl _ _) hF hc hd hw
    · cases h
  | hnd :: r, zs, h => by
    rw [chkH.eq_def] at h
    dsimp only at h
    split at h
    case h_2 => cases h
    rename_i y yp nn body pp zs'
    obtain ⟨h, hr⟩ := bt h
    split at h
    case h_2 => cases h
    rename_i c' i b zz
    obtain ⟨h, h6⟩ := bt h
    obtain ⟨h, h5⟩ := bt h
    obtain ⟨h, h4⟩ := bt h
    obtain ⟨h, h3⟩ := bt h
    obtain ⟨h, h2⟩ := bt h
    obtain ⟨h0, h1⟩ := bt h
    have ey := of_decide_eq_true h1
    have hc' : c' ∈ T.P.exc := by simpa using h0
    obtain ⟨C', hC'⟩ := L.exc c' hc'
    obtain ⟨l, cl, hl⟩ := clauses_of L Lw fns C r zs' hr
    have hi := of_decide_eq_true h3
    have hln := of_decide_eq_true h4
    obtain ⟨g1, g2, g3⟩ := gl_of h2
    split at h5
    case h_2 => cases h5
    rename_i st
    split at h5
    case h_2 => cases h5
    rename_i fe
    rw [chkSs.eq_def] at h6
    dsimp only at h6
    split at h6
    case h_2 => cases h6
    rename_i sx sxs
    obtain ⟨k1, k2⟩ := bt h6
    rw [chkSs.eq_def] at k2
    dsimp only at k2
    split at k2
    case h_2 => cases k2
    have sui : ∀ (a : Addr) (oe : Obj) (cls : Value) (d : Option Addr) (pn : List (Addr × Obj)), Zc cls d oe → (∃ vs, oe.data = .fields vs) → PSs (X.suite a ((a, oe) :: pn)) [sx] (rSr (gc X T) (some (a, cls, d)) WF (exs C T.P [.ret fe])) := by
      intro a oe cls d pn hz hf
      rw [chkS.eq_def] at k1
      dsimp only at k1
      split at k1
      · have q := ok_q (n := n) fe _ X C a cls d oe pn L Lw fns hz hf k1
        refine (pss_one (ps_ret q)).imp fun Dn σ H ⟨ρ, F, ls, hl, hF, hs⟩ => ?_
        rw [exs, ex] at hs
        refine ⟨ρ, F, ls, hl, hF, ?_⟩
        cases e : ev C T.P fe ls F with
        | ok d F1 => rw [e] at hs; exact fun ρ' H' p hF' v rv => hs ρ' H' p hF' v rv
        | exc c w F1 => rw [e] at hs; exact hs
        | bad => rw [e] at hs; exact hs
      · cases fe <;> first | (cases k1; done) | skip
        refine (pss_one ps_retN).imp fun Dn σ H ⟨ρ, F, ls, hl, hF, hs⟩ => ?_
        rw [exs, ex, ev] at hs
        exact hs ρ H (Post.refl _ _) hF _ rfl
      · cases k1
    refine ⟨(.ref C', i, fun a cls d => rSr (gc X T) (some (a, cls, d)) WF (exs C T.P [.ret fe])) :: l, .cons ⟨g1, g2, .inl (by rw [← ey]; exact hC')⟩ hi hln sui cl, fun Wout Dn σ H ρ F ls c w cls dd u hlc hF hc hd hw hs => ?_⟩
    obtain ⟨Cc, rfl, hm, hcin⟩ := id hc
    refine ⟨_, L.exm c c' Cc C' hcin hc' hm hC', fun hb a ha => ?_, fun hb => ?_⟩
    · have hcc : c = c' ∨ c' = "Refused" := by simpa using hb
      rw [hds] at hs
      simp only [hcc, if_true] at hs
      refine ⟨ρ, F, ls.set i (some (.exc c w)), (hlc.xi (xi := some (a, .ref Cc, some dd))).set (s := .exc c w) (v := .ref a) ⟨a, .ref Cc, dd, u, rfl, rfl, hd, hw, hc⟩ i, hF, ?_⟩
      split at hs
      · rename_i d F' e
        rw [e]
        exact hs
      · exact False.elim hs
    · have hcc : ¬ (c = c' ∨ c' = "Refused") := by simpa using hb
      rw [hds] at hs
      simp only [hcc, if_false] at hs
      exact hl Wout Dn σ H ρ F ls c w (.ref Cc) dd u hlc hF hc hd hw hs
end
end Fv
set_option Elab.async false
set_option linter.all false
set_option maxRecDepth 100000
set_option maxHeartbeats 4000000
/-! Fv, 21: a statement that is checked is read by its run. -/
namespace Fv
open PySem PySem.Spec PyProof.Rows L2
/-- a def's own body -/
structure Bdy (X : Cx) (T : Tb) (n : Nat) (fl : Fl) (W : WX) : Prop where
  cx : Cxt X T n fl
  calm : fl.calm = true
  tk : Takes X W
  wi : Wi W
  own : PassesOwn (model X.prog X.w) X.A X.env X.xe
  stk : X.stack = X.env :: X.outer
  frm : X.env.frame = some X.env.locals
  mks : ∀ c, c ∈ T.P.exc → Mks X c
  what : WhatR X T
section
variable {T : Tb} {n : Nat}
theorem cxt_tr {X : Cx} {fl : Fl} (cx : Cxt X T n fl) (pn : List (Addr × Obj)) (xe : Value → Shared → Prop) : Cxt (X.tr pn xe) T n fl :=
  ⟨⟨cx.law.wd, cx.law.exm, cx.law.exc, cx.law.blt, cx.law.con⟩, fun x fd h => let ⟨a, fdat, F⟩ := cx.fns x fd h; ⟨a, fdat, ⟨F.mg, F.kp, F.ok, F.pr, F.df, F.nd, F.lk, F.key⟩⟩, cx.clo, cx.nd, cx.calm, cx.room, cx.top, cx.lamTop, cx.lam⟩
theorem try_read {X : Cx} {C : CT} {W W' : WX} {u : FS} {hs : List FS} {Dn : Ends} {σ : L2.St} {H : Hp} (hw : ∀ (σ : L2.St) (H : Hp) (ρ : List Addr) (F : FH) (ls : Ls) (c : String) (w : D) (cls : Value) (dd : Addr) (v : V), Loc (gc X T) none ρ H σ ls → RH (gc X T) ρ H F → ExC (gc X T) c cls → H dd = some (.xd [(so "what", v)]) → RD (gc X T) ρ H w v →
      Sat (gc X T) ρ H W σ (hds C T.P hs c w ls F) (fun o ρ' H' _ => Kd (gc X T) none Dn o ρ' H') → W' cls (some dd) σ H) (h : rS X T C W (.try_ [u] hs) Dn σ H) : rSs X T C W' [u] Dn σ H := by
  obtain ⟨ρ, F, ls, hl, hF, hs⟩ := h
  rw [ex] at hs
  refine ⟨ρ, F, ls, hl, hF, ?_⟩
  cases e : exs C T.P [u] ls F with
  | ok o F1 => rw [e] at hs; exact hs
  | exc c w F1 =>
    rw [e] at hs
    exact fun ρ' H' cls dd v p hF' hc hd hv => hw σ H' ρ' F1 ls c w cls dd v (hl.mono p) hF' hc hd hv (Sat.later p hs)
  | bad => rw [e] at hs; exact False.elim hs
theorem sw_comp {x : Expr} {gs : List Comprehension} {scope : Scope} {p py : Pos} {y : Str} {l : Nat} {env : Env} (hk : env.blockKind = .function) (h : swB env.scope y py (.ListComp x gs scope p) = false) : swapsWith (.ListComp x gs scope p) (some (.Name y py)) l env = pure false := by
  have e : swapsWith (.ListComp x gs scope p) (some (.Name y py)) l env = pure (env.blockKind == .function && env.kindOf y == some .local && py.line == p.line && !(scope.names.any fun (n, k) => n == y && (k == .local || k == .cell))) := rfl
  rw [e, hk]
  unfold swB at h
  simp only at h
  have e2 : (env.kindOf y == some NameKind.local) = decide (env.scope.names.lookup y = some .local) := by
    show (env.scope.names.lookup y == some NameKind.local) = _
    by_cases z : env.scope.names.lookup y = some .local
    · rw [z]; rfl
    · rw [decide_eq_false z]; exact beq_eq_false_iff_ne.mpr z
  rw [e2]
  show pure (true && _ && _ && _) = _
  rw [Bool.true_and, h]
theorem sw_true' {x : Expr} {gs : List Comprehension} {scope : Scope} {p py : Pos} {y : Str} {l : Nat} {env : Env} (hk : env.scope.kind = .function) (h : swB env.scope y py (.ListComp x gs scope p) = true) : env.scope.names.lookup y = some .local ∧ swapsWith (.ListComp x gs scope p) (some (.Name y py)) l env = pure true := by
  unfold swB at h
  simp only [Bool.and_eq_true, decide_eq_true_eq, Bool.not_eq_true'] at h
  exact ⟨h.1.1, sw_true hk h.1.1 h.1.2 h.2⟩
/-- an assignment of a comprehension that is used up -/
theorem asg_swap {X : Cx} {fl : Fl} {W : WX} {t : Tg} {z : Str} {py p : Pos} {x : Expr} {gs : List Comprehension} {scope : Scope} {e : FE} {pos : Pos} (B : Bdy X T n fl W) (ht : chkT fl X.N X.env.scope t (.Name z py) = true) (he : chk T.P fl X.N X.env.scope e (.ListComp x gs scope p) = true)
    (hsw : swB X.env.scope z py (.ListComp x gs scope p) = true) : PS X (.Assign [.Name z py] (.ListComp x gs scope p) pos) (rS X T (run T.P n) W (.asg t e)) := by
  have cx := B.cx
  have hc := B.calm
  have hcX := cx.calm hc
  have tk := B.tk
  have cb := fun s H C cl fp => cxt_blk cx hc s H scope (compEnvC scope cl C X.env) fp
  have tb : ∀ (s : Shared) (H : Hp) (C : Addr) (cl : List (Str × Addr)) (fp : List Addr), Takes (X.blk s H scope (compEnvC scope cl C X.env) fp) WF := fun s H C cl fp => takes_blk s H scope (compEnvC scope cl C X.env) fp
  have ht' : ∃ i, t = .nm i ∧ X.N[i]? = some z := by
    unfold chkT at ht
    split at ht
    · rename_i e1
      cases e1
      exact ⟨_, rfl, of_decide_eq_true (bt ht).1⟩
    · rename_i e1; cases e1
    · cases ht
  obtain ⟨i, rfl, hi⟩ := ht'
  have fin : ∀ {t0 : TE} (q : ∀ (hk : X.env.scope.kind = .function), PS X (.Assign [.Name z py] (.ListComp x gs scope p) pos) (tAsg t0 (gName i))), (∀ σ H Q, rE X T none (run T.P n) W e σ H Q → t0 σ H Q) → PS X (.Assign [.Name z py] (.ListComp x gs scope p) pos) (rS X T (run T.P n) W (.asg (.nm i) e)) := fun {t0} q h => by
    refine ⟨fun pins s σ H Dn I hr => (q I.ok.kind).run pins s σ H Dn I (h σ H _ ?_)⟩
    obtain ⟨ρ, F, ls, hl, hF, hs⟩ := asg_read hr
    refine ⟨ρ, F, ls, hl, hF, hs.mono fun d ρ1 H1 F1 p1 hF1 k v rv => ?_⟩
    obtain ⟨ρ2, F2, d2, ls2, ls', hF2, rd2, hl2, hb, q2⟩ := k v rv
    cases hb
    exact q2 _ (hl2.set (s := .d d2) rd2 i) fun vs hv => wipe_set (by simpa [tgIn] using hv)
  rw [chk.eq_def] at he
  cases e with
  | comp vs elt tg k its ifs =>
    dsimp only at he
    split at he
    case h_2 => cases he
    rename_i x' t' it cs n0 scope' pos' heq
    cases heq
    obtain ⟨h0, h⟩ := bt he
    have e0 := of_decide_eq_true h0
    obtain ⟨h, g9⟩ := bt h
    obtain ⟨h, g8⟩ := bt h
    obtain ⟨h, g7⟩ := bt h
    obtain ⟨h, g6⟩ := bt h
    obtain ⟨h, g5⟩ := bt h
    obtain ⟨h, g4⟩ := bt h
    obtain ⟨h, g3⟩ := bt h
    obtain ⟨h, g2⟩ := bt h
    have g1 := (bt h).2
    have ev := of_decide_eq_true g2
    subst e0
    refine fin (fun hk => ?_) fun σ H Q hr => comp_read g6 hr
    obtain ⟨hyl, hs⟩ := sw_true' (l := pos.line) hk hsw
    have q := ps_setLc (X := X) (pos := p) (spos := pos) (py := py) (elt := x) (te := rE X T none (run T.P n) WF elt) (tt := rTs X T (run T.P n) WF ifs) (g := rG X T none tg) hcX cx.nd hi hyl hs (ok_I k its it t' fl X W cx hc tk g3 g4) (blkOk_by g1) (fun s H C cl fp => sg_any (X := X.blk s H scope (compEnvC scope cl C X.env) fp) (T := T) (xi := none) (fl := Fl.in_) cx.nd hcX (fun z => by cases z) g5)
      (fun s H C cl fp => ok_c ifs cs Fl.in_ _ WF (cb s H C cl fp) rfl (tb s H C cl fp) g8) (fun s H C cl fp => (ok_e elt x Fl.in_ _ WF (cb s H C cl fp) rfl (tb s H C cl fp) g7).1) (folded_no g9 _)
    rw [ev] at q
    exact q
  | comp2 vs elt tg k its ifs tg2 k2 its2 ifs2 =>
    dsimp only at he
    split at he
    case h_2 => cases he
    rename_i x' t' it cs n0 t2 it2 cs2 n2 scope' pos' heq
    cases heq
    obtain ⟨h0, h⟩ := bt he
    obtain ⟨h00, h01⟩ := bt h0
    have e0 := of_decide_eq_true h00
    have e01 := of_decide_eq_true h01
    obtain ⟨h, e2⟩ := bt h
    obtain ⟨h, e1⟩ := bt h
    obtain ⟨h, f5⟩ := bt h
    obtain ⟨h, f4⟩ := bt h
    obtain ⟨h, f3⟩ := bt h
    obtain ⟨h, f2⟩ := bt h
    obtain ⟨h, f1⟩ := bt h
    obtain ⟨h, g8⟩ := bt h
    obtain ⟨h, g7⟩ := bt h
    obtain ⟨h, g6⟩ := bt h
    obtain ⟨h, g5⟩ := bt h
    obtain ⟨h, g4⟩ := bt h
    obtain ⟨h, g3⟩ := bt h
    obtain ⟨h, g2⟩ := bt h
    have g1 := (bt h).2
    have ev := of_decide_eq_true g2
    subst e0 e01
    refine fin (fun hk => ?_) fun σ H Q hr => comp2_read g6 hr
    obtain ⟨hyl, hs⟩ := sw_true' (l := pos.line) hk hsw
    have q := ps_setLc2 (X := X) (pos := p) (spos := pos) (py := py) (vs1 := tgS tg2) (elt := x) (te := rE X T none (run T.P n) WF elt) (tt := rTs X T (run T.P n) WF ifs) (g := rG X T none tg) (tt1 := rTs X T (run T.P n) WF ifs2) (g1 := rG X T none tg2) (wi1 := rI X T none (run T.P n) WF k2 its2) hcX cx.nd hi hyl hs
      (ok_I k its it t' fl X W cx hc tk g3 g4) (blkOk_by g1) (by rw [ev]; exact tgS_in f4) (fun s H C cl fp => sg_any (X := X.blk s H scope (compEnvC scope cl C X.env) fp) (T := T) (xi := none) (fl := Fl.in_) cx.nd hcX (fun z => by cases z) g5)
      (fun s H C cl fp => ok_c ifs cs Fl.in_ _ WF (cb s H C cl fp) rfl (tb s H C cl fp) g8) (fun s H C cl fp => ok_I k2 its2 it2 t2 Fl.in_ _ WF (cb s H C cl fp) rfl (tb s H C cl fp) f1 f2) (fun s H C cl fp => sg_any (X := X.blk s H scope (compEnvC scope cl C X.env) fp) (T := T) (xi := none) (fl := Fl.in_) cx.nd hcX (fun z => by cases z) f3)
      (fun s H C cl fp => ok_c ifs2 cs2 Fl.in_ _ WF (cb s H C cl fp) rfl (tb s H C cl fp) f5) (fun s H C cl fp => (ok_e elt x Fl.in_ _ WF (cb s H C cl fp) rfl (tb s H C cl fp) g7).1) (folded_no e1 _) (folded_no e2)
    rw [ev] at q
    exact q
  | _ => dsimp only at he; first | (cases he; done) | (split at he <;> first | contradiction | (cases he; done))
/-- an assignment -/
theorem ok_asg {X : Cx} {fl : Fl} {W : WX} {t : Tg} {g y : Expr} {e : FE} {pos : Pos} (B : Bdy X T n fl W) (ht : chkT fl X.N X.env.scope t g = true) (he : chk T.P fl X.N X.env.scope e y = true) (hn : (!(isTup g && isTup y)) = true) : PS X (.Assign [g] y pos) (rS X T (run T.P n) W (.asg t e)) := by
  have hc := B.cx.calm B.calm
  have pe := (ok_e e y fl X W B.cx B.calm B.tk he).1
  have pg := sg_any (T := T) (xi := none) B.cx.nd hc B.cx.top ht
  have ha : (assignEach [g] X.env).map (·.2) = [assign g X.env] := by
    unfold chkT at ht
    split at ht <;> first | rfl | (cases ht; done)
  have hw : swappedStores [g] y X.env = pure none := by
    cases g <;> first | rfl | skip
    · exfalso; unfold chkT at ht; split at ht <;> first | contradiction | (cases ht; done)
    · cases y <;> first | rfl | (cases hn; done)
  by_cases hcm : isCompr y = true
  · have hl : ∃ x gs scope p, y = .ListComp x gs scope p := by
      rw [chk.eq_def] at he
      cases y <;> first | exact ⟨_, _, _, _, rfl⟩ | (cases hcm; done) | (cases e <;> dsimp only at he <;> first | (cases he; done) | (split at he <;> first | contradiction | (cases he; done)))
    obtain ⟨x, gs, scope, p, rfl⟩ := hl
    by_cases hg : ∃ z py, g = .Name z py
    · obtain ⟨z, py, rfl⟩ := hg
      by_cases hs : swB X.env.scope z py (.ListComp x gs scope p) = true
      · exact asg_swap B ht he hs
      · have hs' : swB X.env.scope z py (.ListComp x gs scope p) = false := by simpa using hs
        exact ⟨fun pins s σ H Dn I hr => (ss_asg pe pg (sw_comp (by unfold Env.blockKind; rw [I.ok.kind]; rfl) hs') hw ha).run pins s σ H Dn I hr⟩
    · refine ss_asg pe pg ?_ hw ha
      cases g <;> first | rfl | exact absurd ⟨_, _, rfl⟩ hg
  · have hcm' : (!isCompr y) = true := by simpa using hcm
    exact ss_asg pe pg (sw_no hcm') hw ha
mutual
theorem ok_S : ∀ (s : FS) (st : Stmt) (fl : Fl) (X : Cx) (W : WX), Bdy X T n fl W → chkS T.P fl X.N X.env.scope s st = true → PS X st (rS X T (run T.P n) W s)
  | .ex e, st, fl, X, W, B, h => by
    rw [chkS.eq_def] at h
    dsimp only at h
    split at h
    · obtain ⟨h, h3⟩ := bt h
      exact ss_ex (ok_e e _ fl X W B.cx B.calm B.tk (bt h).2).1 h3
    · cases h
  | .ret e, st, fl, X, W, B, h => by
    rw [chkS.eq_def] at h
    dsimp only at h
    split at h
    · exact ss_ret (ok_e e _ fl X W B.cx B.calm B.tk h).1
    · exact ss_retN h
    · cases h
  | .asg t e, st, fl, X, W, B, h => by
    rw [chkS.eq_def] at h
    dsimp only at h
    split at h
    · obtain ⟨h, h4⟩ := bt h
      obtain ⟨h, h3⟩ := bt h
      exact ok_asg B (bt h).2 h3 h4
    · cases h
  | .par i j a b, st, fl, X, W, B, h => by
    rw [chkS.eq_def] at h
    dsimp only at h
    split at h
    · obtain ⟨h, h7⟩ := bt h
      obtain ⟨h, h6⟩ := bt h
      obtain ⟨h, h5⟩ := bt h
      obtain ⟨h, h4⟩ := bt h
      obtain ⟨h, h3⟩ := bt h
      obtain ⟨h, h2⟩ := bt h
      have h1 := (bt h).2
      exact ss_par (B.cx.calm B.calm) B.cx.nd (of_decide_eq_true (bt (show (_ && _) = true from h1)).1) (of_decide_eq_true (bt (show (_ && _) = true from h2)).1) (of_decide_eq_true h3) (of_decide_eq_true h4) h5 (ok_e a _ fl X W B.cx B.calm B.tk h6).1 (ok_e b _ fl X W B.cx B.calm B.tk h7).1
    · cases h
  | .setI o i v, st, fl, X, W, B, h => by
    rw [chkS.eq_def] at h
    dsimp only at h
    split at h
    · obtain ⟨h, h5⟩ := bt h
      obtain ⟨h, h4⟩ := bt h
      obtain ⟨h, h3⟩ := bt h
      exact ss_setI (B.cx.room B.calm).units B.cx.law.wd (ok_e o _ fl X W B.cx B.calm B.tk h3).1 (ok_e i _ fl X W B.cx B.calm B.tk h4).1 (ok_e v _ fl X W B.cx B.calm B.tk h5).1 (bt h).2
    · cases h
  | .ite c a b, st, fl, X, W, B, h => by
    rw [chkS.eq_def] at h
    dsimp only at h
    split at h
    · obtain ⟨h, h5⟩ := bt h
      obtain ⟨h, h4⟩ := bt h
      obtain ⟨h, h3⟩ := bt h
      exact ss_if B.wi ((ok_e c _ fl X W B.cx B.calm B.tk h3).2 (bt h).2) (ok_Ss a _ fl X W B h4) (ok_Ss b _ fl X W B h5)
    · cases h
  | .whl m c b, st, fl, X, W, B, h => by
    rw [chkS.eq_def] at h
    dsimp only at h
    split at h
    · obtain ⟨h, h4⟩ := bt h
      obtain ⟨h, h3⟩ := bt h
      exact ss_whl B.wi B.own ((ok_e c _ fl X W B.cx B.calm B.tk h3).2 (bt h).2) (ok_Ss b _ fl X W B h4)
    · cases h
  | .for_ t k its b, st, fl, X, W, B, h => by
    rw [chkS.eq_def] at h
    dsimp only at h
    split at h
    · obtain ⟨h, h6⟩ := bt h
      obtain ⟨h, h5⟩ := bt h
      obtain ⟨h, h4⟩ := bt h
      obtain ⟨h, h3⟩ := bt h
      have h2 := (bt h).2
      exact ss_for B.wi B.own (B.cx.calm B.calm) (ok_I k its _ _ fl X W B.cx B.calm B.tk h4 h3) (sg_any B.cx.nd (B.cx.calm B.calm) B.cx.top h2) (ok_Ss b _ fl X W B h6) h5
    · cases h
  | .brk, st, fl, X, W, B, h => by
    rw [chkS.eq_def] at h
    dsimp only at h
    split at h
    · exact ps_break.imp fun Dn σ H ⟨ρ, F, ls, hl, hF, hs⟩ => by rw [ex] at hs; exact hs.here hF σ hl
    · cases h
  | .cnt, st, fl, X, W, B, h => by
    rw [chkS.eq_def] at h
    dsimp only at h
    split at h
    · exact ps_continue.imp fun Dn σ H ⟨ρ, F, ls, hl, hF, hs⟩ => by rw [ex] at hs; exact hs.here hF σ hl
    · cases h
  | .pass, st, fl, X, W, B, h => by
    rw [chkS.eq_def] at h
    dsimp only at h
    split at h
    · exact ps_pass.imp fun Dn σ H ⟨ρ, F, ls, hl, hF, hs⟩ => by rw [ex] at hs; exact hs.here hF σ hl
    · cases h
  | .raise c e, st, fl, X, W, B, h => by
    rw [chkS.eq_def] at h
    dsimp only at h
    split at h
    · obtain ⟨h, h6⟩ := bt h
      obtain ⟨h, h5⟩ := bt h
      obtain ⟨h, h4⟩ := bt h
      obtain ⟨h, h3⟩ := bt h
      obtain ⟨h, h2⟩ := bt h
      have cin : c ∈ T.P.exc := by simpa using h2
      exact ss_raise (B.cx.calm B.calm) B.tk (B.cx.room B.calm) B.cx.law (B.mks c cin) cin (of_decide_eq_true h3) h4 h6 (ok_e e _ fl X W B.cx B.calm B.tk h5).1
    · cases h
  | .try_ b hs, st, fl, X, W, B, h => by
    rw [chkS.eq_def] at h
    dsimp only at h
    split at h
    · rename_i y z pos
      obtain ⟨h, h5⟩ := bt h
      obtain ⟨h, h4⟩ := bt h
      obtain ⟨h, hne⟩ := bt h
      obtain ⟨h, h3⟩ := bt h
      have hb : ∃ u, b = [u] ∧ simB u = true := by
        cases b with
        | nil => cases h3
        | cons u r =>
          cases r with
          | cons _ _ => cases h3
          | nil => exact ⟨u, rfl, h3⟩
      clear h3
      obtain ⟨u, rfl, h3⟩ := hb
      obtain ⟨l, cl, hw⟩ := clauses_of (n := n) B.cx.law B.what B.cx.fns (run T.P n) hs z h5
      have hbody : ∀ (W' : WX) (pn : List (Addr × Obj)) (xe : Value → Shared → Prop), Takes (X.tr pn xe) W' → PassesOwn (model X.prog X.w) X.A X.env xe → PSs (X.tr pn xe) y (rSs X T (run T.P n) W' [u]) := fun W' pn xe tk' own' => by
        rw [chkSs.eq_def] at h4
        dsimp only at h4
        split at h4
        case h_2 => cases h4
        obtain ⟨k1, k2⟩ := bt h4
        rw [chkSs.eq_def] at k2
        dsimp only at k2
        split at k2
        case h_2 => cases k2
        have cx' := cxt_tr B.cx pn xe
        refine sx_one (X := X.tr pn xe) ?_
        cases u with
        | ret e =>
          rw [chkS.eq_def] at k1
          dsimp only at k1
          split at k1
          · exact ss_ret (X := X.tr pn xe) (ok_e e _ fl (X.tr pn xe) W' cx' B.calm tk' k1).1
          · exact ss_retN (X := X.tr pn xe) k1
          · cases k1
        | ex e =>
          rw [chkS.eq_def] at k1
          dsimp only at k1
          split at k1
          · obtain ⟨k1, k3⟩ := bt k1
            exact ss_ex (X := X.tr pn xe) (ok_e e _ fl (X.tr pn xe) W' cx' B.calm tk' (bt k1).2).1 k3
          · cases k1
        | _ => cases h3
      cases hs with
      | nil =>
        cases hne
      | cons hd hr =>
        cases cl with
        | nil =>
          rw [chkH.eq_def] at h5
          cases h5
        | cons hc hi hln hsu r =>
          exact (ps_clauses (tb := fun W => rSs X T (run T.P n) W [u]) B.stk B.frm B.cx.nd B.tk hbody (.cons hc hi hln hsu r)).imp fun Dn σ H hr => try_read (fun σ H ρ F ls c w cls dd v => hw W Dn σ H ρ F ls c w cls dd v) hr
    · cases h
  | .hnd _ _ _, st, fl, X, W, B, h => by
    rw [chkS.eq_def] at h
    cases h
theorem ok_Ss : ∀ (ss : List FS) (sts : List Stmt) (fl : Fl) (X : Cx) (W : WX), Bdy X T n fl W → chkSs T.P fl X.N X.env.scope ss sts = true → PSs X sts (rSs X T (run T.P n) W ss)
  | [], sts, fl, X, W, B, h => by
    rw [chkSs.eq_def] at h
    dsimp only at h
    split at h
    · exact sx_nil
    · cases h
  | s :: r, sts, fl, X, W, B, h => by
    rw [chkSs.eq_def] at h
    dsimp only at h
    split at h
    · obtain ⟨h1, h2⟩ := bt h
      exact sx_cons B.wi (ok_S s _ fl X W B h1) (ok_Ss r _ fl X W B h2)
    · cases h
end
end
end Fv
set_option Elab.async false
set_option linter.all false
set_option maxRecDepth 100000
set_option maxHeartbeats 4000000
/-! Fv, 22: every def keeps what its run promises; a function made in place, too. -/
namespace Fv
open PySem PySem.Spec PyProof.Rows L2
open Classical in
/-- what was frozen ahead is frozen again -/
noncomputable def rfz (S : Addr → Prop) (H H' : Hp) : Hp := fun b => if S b then H b else H' b
section
variable {G : Gc} {S : Addr → Prop} {H H' : Hp} {ρ ρ' : List Addr} {F : FH}
theorem rfz_in {b : Addr} (h : S b) : rfz S H H' b = H b := by
  unfold rfz
  rw [if_pos h]
theorem rfz_out {b : Addr} (h : ¬ S b) : rfz S H H' b = H' b := by
  unfold rfz
  rw [if_neg h]
/-- nothing of S is tracked -/
def Gone (S : Addr → Prop) (H : Hp) : Prop := ∀ b, S b → H b = none
theorem rfz_ext (g : Gone S H') : ∀ b o, H' b = some o → rfz S H H' b = some o := fun b o e => by
  rw [rfz_out fun z => by rw [g b z] at e; cases e]
  exact e
theorem rh_rfz (hF : RH G ρ' H' F) (g : Gone S H') : RH G ρ' (rfz S H H') F := hF.ext (rfz_ext g)
theorem post_rfz (st : ∀ b, S b → ∃ o, H b = some (.frz o anyO)) (g : Gone S H') (hF : RH G ρ' H' F) (p : Post ρ (thw S H) ρ' H') : Post ρ H ρ' (rfz S H H') := by
  obtain ⟨l, e, hl⟩ := id p.new
  refine ⟨⟨l, e, fun a ha o ho hs => ?_⟩, fun b o hb hs => ?_⟩
  · by_cases z : S a
    · have ha' : a ∈ ρ' := by rw [e]; exact List.mem_append_right _ ha
      exact (hF.notin (fun vs q => by rw [g a z] at q; cases q) fun _ _ _ _ q => by rw [g a z] at q; cases q) ha'
    · exact hl a ha o (by rw [thw_out z]; exact ho) hs
  · by_cases z : S b
    · rw [rfz_in z]; exact hb
    · rw [rfz_out z]
      exact p.keep b o (by rw [thw_out z]; exact hb) hs
theorem Sat.thaw {E : XK} {r : R D} {Q : VK} (st : ∀ b, S b → ∃ o, H b = some (.frz o anyO)) (hs : Sat G ρ H (fun c d _ H' => E c d H') [] r fun d ρ' H' _ => ∀ v, RD G ρ' H' d v → Q v H') :
    Sat G ρ (thw S H) (fun c d _ H' => Gone S H' → E c d (rfz S H H')) [] r fun d ρ' H' _ => ∀ v, RD G ρ' H' d v → Gone S H' → Q v (rfz S H H') := by
  cases r with
  | ok a F => exact fun ρ' H' p hF v rv g => hs ρ' _ (post_rfz st g hF p) (rh_rfz hF g) v (RD.ext (rfz_ext g) rv)
  | exc c w F => exact fun ρ' H' cls dd u p hF hc hd hw g => hs ρ' _ cls dd u (post_rfz st g hF p) (rh_rfz hF g) hc (rfz_ext g _ _ hd) (RD.ext (rfz_ext g) hw)
  | bad => exact hs
end
section
variable {P : Program} {w : World} {S : Addr → Prop} {H H' : Hp} {h : Heap}
theorem hok_rfz (ok : HOk P w H' h) (g : Gone S H') (st : ∀ b, S b → ∃ o, H b = some (.frz o anyO) ∧ h.get? b = some o) : HOk P w (rfz S H H') h := fun a o e => by
  by_cases z : S a
  · rw [rfz_in z] at e
    obtain ⟨q, h1, h2⟩ := st a z
    rw [h1] at e
    cases e
    exact ⟨h2, trivial, ⟨q, h2⟩, fun _ _ _ _ => trivial⟩
  · rw [rfz_out z] at e
    exact (ok a o e).stay (fun b u _ q => q) (fun b q => rfz_ext g b _ q) fun b xs q => rfz_ext g b _ q
end
section
variable {prog : Program} {w : World} {K : PySem.W.Frag} {mg : Str → Option Value} {base : Heap} {T : Tb}
/-- the same facts, of no context -/
structure LawR (prog : Program) (w : World) (K : PySem.W.Frag) (mg : Str → Option Value) (base : Heap) (T : Tb) : Prop where
  law : ∀ X : Cx, X.prog = prog → X.w = w → X.K = K → X.mg = mg → X.base = base → Law X T
  mks : ∀ X : Cx, X.prog = prog → X.w = w → X.K = K → X.mg = mg → X.base = base → ∀ c, c ∈ T.P.exc → Mks X c
  what : ∀ X : Cx, X.prog = prog → X.w = w → X.K = K → X.mg = mg → X.base = base → WhatR X T
/-- a def as the head tells it -/
structure DefOk (K : PySem.W.Frag) (mg : Str → Option Value) (base : Heap) (T : Tb) (x : String) (fd : FD) (a : Addr) (fdat : FuncData) (N : List Str) (lm : Bool) (name qual : Str) (params : Arguments) (body : List Stmt) (scope : Scope) : Prop where
  gl : mg (so x) = some (.ref a)
  fn : FunD K name qual params body scope [] [] a fdat
  sc : FnScope N (fd.ps.map so) scope
  nl : N.length = fd.nl
  pr : ∃ ar, params = ⟨[], ar, none, [], [], none, []⟩ ∧ ar.map (·.arg) = fd.ps.map so
  ck : chkSs T.P ⟨true, true, lm⟩ N scope fd.body body = true
  lam : lm = true → ∃ c Pt, fdat.code = .ref c ∧ LamX.TabB base mg c Pt ∧ (Pt, qual ++ ".<locals>." ++ "<lambda>") ∈ T.tabs ∧ ∀ p ∈ T.tabs, p.1 = Pt → p.2 = qual ++ ".<locals>." ++ "<lambda>"
/-- the def by which places are sorted, by its text -/
theorem chkSs_one {P : Pg} {fl : Fl} {N : List Str} {sc : Scope} {s : FS} {st : List Stmt} (h : chkSs P fl N sc [s] st = true) : ∃ x, st = [x] ∧ chkS P fl N sc s x = true := by
  rw [chkSs.eq_def] at h
  dsimp only at h
  split at h
  · rename_i x xs
    obtain ⟨h1, h2⟩ := bt h
    rw [chkSs.eq_def] at h2
    dsimp only at h2
    split at h2
    · exact ⟨x, rfl, h1⟩
    · cases h2
  · cases h
theorem chk_var0 {P : Pg} {fl : Fl} {N : List Str} {sc : Scope} {e : Expr} (hN : N.take 1 = [("place" : Str)]) (h : chk P fl N sc (.var 0) e = true) : ∃ p, e = .Name "place" p := by
  rw [chk.eq_def] at h
  dsimp only at h
  split at h
  · rename_i x p
    obtain ⟨h1, _⟩ := nm_of h
    cases N with
    | nil => cases h1
    | cons y N =>
      have : y = "place" := by simpa using hN
      subst this
      cases h1
      exact ⟨p, rfl⟩
  · cases h
theorem chk_neg1 {P : Pg} {fl : Fl} {N : List Str} {sc : Scope} {e : Expr} (h : chk P fl N sc (.neg (.int 1)) e = true) : ∃ k t1 t2, e = .UnaryOp .USub (.Constant (.int 1) k t1) t2 := by
  rw [chk.eq_def] at h
  dsimp only at h
  split at h
  · rename_i p x pos
    obtain ⟨h1, h2⟩ := bt h
    cases of_decide_eq_true (bt h1).2
    rw [chk.eq_def] at h2
    dsimp only at h2
    split at h2
    · cases of_decide_eq_true h2
      exact ⟨_, _, _, rfl⟩
    · cases h2
  · cases h
theorem chk_key {P : Pg} {fl : Fl} {N : List Str} {sc : Scope} {st : List Stmt} (hN : N.take 1 = [("place" : Str)])
    (h : chkSs P fl N sc [.ret (.ite (.cmp .is (.var 0) .non) (.tup [.neg (.int 1), .neg (.int 1)]) (.var 0))] st = true) :
    ∃ (k1 k2 k3 cx : Nat) (p1 p2 p3 p4 p5 p6 t1 t2 t3 t4 t5 : Pos), st = [.Return (some (.IfExp (.Compare (.Name "place" p1) [.Is] [.Constant .none k1 p2] p3) (.Tuple [.UnaryOp .USub (.Constant (.int 1) k2 t1) t2, .UnaryOp .USub (.Constant (.int 1) k3 t3) t4] cx t5) (.Name "place" p4) p5)) p6] := by
  obtain ⟨x, rfl, h'⟩ := chkSs_one h
  replace h := h'
  rw [chkS.eq_def] at h
  dsimp only at h
  split at h
  · rename_i y pos
    rw [chk.eq_def] at h
    dsimp only at h
    split at h
    · rename_i u v z pos2
      obtain ⟨h, h3⟩ := bt h
      obtain ⟨h, h2⟩ := bt h
      obtain ⟨_, h1⟩ := bt h
      obtain ⟨p4, rfl⟩ := chk_var0 hN h3
      rw [chk.eq_def] at h1
      dsimp only at h1
      split at h1
      · rename_i a op b pos3
        obtain ⟨h1, c2⟩ := bt h1
        obtain ⟨h1, c1⟩ := bt h1
        obtain ⟨h1, _⟩ := bt h1
        cases of_decide_eq_true (bt h1).2
        obtain ⟨p1, rfl⟩ := chk_var0 hN c1
        rw [chk.eq_def] at c2
        dsimp only at c2
        split at c2
        · rw [chk.eq_def] at h2
          dsimp only at h2
          split at h2
          · rename_i xs cx pos4
            cases xs with
            | nil => rw [chks.eq_def] at h2; cases h2
            | cons x1 xs =>
              obtain ⟨d1, _, h2⟩ := chks_cons h2
              cases xs with
              | nil => rw [chks.eq_def] at h2; cases h2
              | cons x2 xs =>
                obtain ⟨d2, _, h2⟩ := chks_cons h2
                cases xs with
                | nil =>
                  obtain ⟨k2, t1, t2, rfl⟩ := chk_neg1 d1
                  obtain ⟨k3, t3, t4, rfl⟩ := chk_neg1 d2
                  exact ⟨_, _, _, _, _, _, _, _, _, _, _, _, _, _, _, rfl⟩
                | cons _ _ => rw [chks.eq_def] at h2; cases h2
          · cases h2
        · cases c2
      · cases h1
    · cases h
  · rename_i pos
    cases h
  · cases h
theorem keyR_of {K : PySem.W.Frag} {mg : Str → Option Value} {base : Heap} {T : Tb} {P : Program} {w : World} {x : String} {fd : FD} {a : Addr} {N : List Str} {lm : Bool} {name qual : Str} {params : Arguments} {body : List Stmt} {scope : Scope} {kV doc pm cdv ct oc dV : Value} {an od : Option Addr} {osl : Array (Option Value)}
    (O : DefOk K mg base T x fd a (PySem.W.fnOf name qual params body scope dV kV doc pm an cdv ct) N lm name qual params body scope) (lk : K.lookup a = some ⟨oc, od, .func (PySem.W.fnOf name qual params body scope dV kV doc pm an cdv ct), osl⟩) (hcd : PySem.W.codeIn K cdv qual = true) (hdV : dV = .none) (hk : isKey fd = true) : KeyR P w K a := by
  have S := O.sc
  have pr := O.pr
  have ck := O.ck
  unfold isKey at hk
  split at hk
  · rename_i p m i j
    simp only [Bool.and_eq_true, beq_iff_eq] at hk
    obtain ⟨rfl, rfl, rfl⟩ := hk
    have hN : N.take 1 = [("place" : Str)] := by have := S.pre; simpa using this
    obtain ⟨k1, k2, k3, cx, p1, p2, p3, p4, p5, p6, t1, t2, t3, t4, t5, rfl⟩ := chk_key hN ck
    obtain ⟨ar, e1, e2⟩ := pr
    exact key_call lk hcd S fun s u => .of_eq (binds_gen (ps := [("place" : Str)]) _ ar e1 hdV e2 [u] [] [u] (Nat.le_refl 1) (by simp) (by simp) rfl fun i p v e1 e2 => by
      cases i with
      | zero => cases e1; cases e2; rfl
      | succ i => cases e2)
  · cases hk
theorem fns_next {n : Nat} (L : LawR prog w K mg base T) (D : ∀ x fd, T.P.fn x = some fd → ∃ a fdat N lm name qual params body scope, DefOk K mg base T x fd a fdat N lm name qual params body scope)
    (ih : ∀ X : Cx, X.prog = prog → X.w = w → X.K = K → X.mg = mg → X.base = base → ∀ x fd, T.P.fn x = some fd → ∃ a fdat, Fn1 X T n x fd a fdat) (ic : CloOk prog w K mg base T n) (X : Cx) (h1 : X.prog = prog) (h2 : X.w = w) (h3 : X.K = K) (h4 : X.mg = mg) (h5 : X.base = base) :
    ∀ x fd, T.P.fn x = some fd → ∃ a fdat, Fn1 X T (n + 1) x fd a fdat := by
  intro x fd hfd
  obtain ⟨a, fdat, N, lm, name, qual, params, body, scope, O⟩ := D x fd hfd
  subst h1 h2 h3 h4 h5
  have ndp : (fd.ps.map so).Nodup := by rw [← O.sc.pre]; exact O.sc.nd.sublist (List.take_sublist _ _)
  obtain ⟨oc, od, dV, kV, doc, pm, an, cdv, ct, osl, rfl, lk, hcd, hD, _⟩ := O.fn.ex
  have hdV : dV = .none := by
    rcases hD with ⟨_, e⟩ | ⟨e, _⟩
    · exact e
    · exact absurd rfl e
  refine ⟨a, PySem.W.fnOf name qual params body scope dV kV doc pm an cdv ct, O.gl, O.fn.kp, ?_, O.pr, hdV, ndp, ⟨_, _, _, lk⟩, keyR_of O lk hcd hdV⟩
  refine fng_of lk hcd O.sc (fun vs H Q E h => by rw [h.1, List.length_map]) fun A outer s H vs Q E hr hsp => ?_
  generalize hX : cxOf (L2.CX X.prog X.w) X.prog X.w X.K X.mg X.base N qual scope a cdv A outer s H E = Y
  have y1 : Y.prog = X.prog := by rw [← hX]; rfl
  have y2 : Y.w = X.w := by rw [← hX]; rfl
  have y3 : Y.K = X.K := by rw [← hX]; rfl
  have y4 : Y.mg = X.mg := by rw [← hX]; rfl
  have y5 : Y.base = X.base := by rw [← hX]; rfl
  have cx : Cxt Y T n ⟨true, true, lm⟩ := by
    refine ⟨L.law Y y1 y2 y3 y4 y5, ih Y y1 y2 y3 y4 y5, by rw [y1, y2, y3, y4, y5]; exact ic, by rw [← hX]; exact O.sc.nd, fun _ => by rw [← hX]; rfl, fun _ => by rw [← hX]; exact hr, fun _ x => by rw [← hX]; rfl, fun _ => rfl, fun z => ?_⟩
    obtain ⟨c, Pt, q1, q2, q3, q4⟩ := O.lam z
    exact ⟨c, Pt, by rw [y4, y5]; exact q2, by rw [← hX]; exact q1, by rw [← hX]; exact q3, by rw [← hX]; exact q4⟩
  have B : Bdy Y T n ⟨true, true, lm⟩ (fun cls d _ H => E cls d H) := by
    refine ⟨cx, rfl, ?_, fun _ _ _ _ _ h => h, ?_, by rw [← hX]; rfl, by rw [← hX]; rfl, L.mks Y y1 y2 y3 y4 y5, L.what Y y1 y2 y3 y4 y5⟩
    · rw [← hX]
      exact takes_of rfl rfl rfl rfl
    · rw [← hX]
      exact passes_of rfl
  have hck : chkSs T.P ⟨true, true, lm⟩ Y.N Y.env.scope fd.body body = true := by rw [← hX]; exact O.ck
  refine ⟨_, ok_Ss fd.body body _ Y _ B hck, ?_⟩
  obtain ⟨hlen, ρ, F, us, hF, hu, hs⟩ := hsp
  have hus : us.length = fd.ps.length := (Paired.length hu).trans hlen
  replace hs : Sat (gc X T) ρ H (fun c d _ H' => E c d H') [] (runC (run T.P n) T.P (.fn x) us F) _ := hs
  unfold runC at hs
  simp only [hfd] at hs
  rw [if_pos hus] at hs
  have gE : gc Y T = gc X T := by unfold gc; rw [y3, y4, y5]
  rw [show rSs Y T (run T.P n) (fun cls d _ H => E cls d H) fd.body = rSr (gc X T) none (fun cls d _ H => E cls d H) (exs (run T.P n) T.P fd.body) from by rw [rSs, gE]]
  refine ⟨ρ, F, us.map some ++ List.replicate (fd.nl - us.length) none, ⟨?_, fun i sv e => ?_⟩, hF, ?_⟩
  · unfold L2.start
    rw [List.length_append, List.length_append, List.length_map, List.length_map, List.length_replicate, List.length_replicate, O.nl, hus, hlen]
  · have hi : i < us.length := by
      by_cases hi : i < us.length
      · exact hi
      · rw [List.getElem?_append_right (by simpa using hi), List.getElem?_replicate] at e
        split at e <;> cases e
    rw [List.getElem?_append_left (by simpa using hi), List.getElem?_map] at e
    cases q : us[i]? with
    | none => rw [q] at e; cases e
    | some s' =>
      rw [q] at e
      cases e
      rcases paired_get hu i with ⟨q1, _⟩ | ⟨a', v, q1, q2, r⟩
      · rw [q] at q1; cases q1
      · rw [q] at q1
        cases q1
        refine ⟨v, ?_, r⟩
        unfold L2.start
        rw [List.getElem?_append_left (by rw [List.length_map, hlen, ← hus]; exact hi), List.getElem?_map, q2]
        rfl
  · cases e : exs (run T.P n) T.P fd.body (us.map some ++ List.replicate (fd.nl - us.length) none) F with
    | ok o F' =>
      simp only [e] at hs
      cases o with
      | rt d => exact fun ρ' H' p hF' v rv => hs ρ' H' p hF' v rv
      | nx ls => exact fun ρ' H' p hF' σ' _ => hs ρ' H' p hF' .non rfl
      | bk ls => exact False.elim hs
      | ct ls => exact False.elim hs
    | exc c w F' => simp only [e] at hs; exact hs
    | bad => simp only [e] at hs; exact False.elim hs
end
end Fv
set_option Elab.async false
set_option linter.all false
set_option maxRecDepth 100000
set_option maxHeartbeats 4000000
/-! Fv, 23: a function made in place keeps what its run promises. -/
namespace Fv
theorem chosen {α : Type} {p : Nat → α → Prop} (h : ∀ i, ∃ a, p i a) : ∃ f : Nat → α, ∀ i, p i (f i) := ⟨fun i => Classical.choose (h i), fun i => Classical.choose_spec (h i)⟩
open PySem PySem.Spec PyProof.Rows L2
section
variable {prog : Program} {w : World} {K : PySem.W.Frag} {mg : Str → Option Value} {base : Heap} {T : Tb}
/-- the context of the body of a function made in place, entered at s -/
def cloCx (prog : Program) (w : World) (K : PySem.W.Frag) (mg : Str → Option Value) (base : Heap) (N : List Str) (env : Env) (A : Around) (outer : List Env) (s : Shared) (H : Hp) (E : XK) : Cx where
  prog := prog
  w := w
  K := K
  mg := mg
  base := base
  A := A.deeper env
  N := N
  s_0 := s
  H_0 := H
  env := env
  outer := outer
  stack := env :: outer
  ex := []
  fn := fun _ => false
  calm := true
  pn := []
  xe := fun e s' => wpAny (model prog w) (A.deeper env) (leaving env e) (fun _ s'' => L2.CX prog w outer H s E e s'') (fun e' s'' => L2.CX prog w outer H s E e' s'') s'
theorem clo_next {n : Nat} (L : LawR prog w K mg base T)
    (ih : ∀ X : Cx, X.prog = prog → X.w = w → X.K = K → X.mg = mg → X.base = base → ∀ x fd, T.P.fn x = some fd → ∃ a fdat, Fn1 X T n x fd a fdat) (ic : CloOk prog w K mg base T n) : CloOk prog w K mg base T (n + 1) := by
  intro A outer s H Q E ρ F b cap f hr e0 hF kc hs
  obtain ⟨qual, params, body, scope, cells, pm, c', ctv, N, hf, ⟨hco, hcn⟩, hps, ⟨hk, hco2, hgen, hown⟩, hck, hnd, hcl, CL⟩ := kc
  replace hs : Sat ⟨K, mg, T, base⟩ ρ H (fun c d _ H' => E c d H') [] (ev (run T.P n) T.P b (cap.map fun o => o.map SV.d) F) fun d ρ' H' _ => ∀ v, RD ⟨K, mg, T, base⟩ ρ' H' d v → Q v H' := hs
  have of1 : s.heap.get? f = some (PySem.W.kla_obj "<lambda>" qual params body scope cells pm c' ctv) := by
    rcases hf with h | h
    · exact (e0.hok f _ h).1
    · exact (e0.bs f _ h).1
  obtain ⟨⟨oc, vs, t, hoc, hdc, hvc⟩, _, _⟩ := e0.hok c' _ hco
  -- the captured cells
  generalize hS : (fun b => ∃ x, cells.lookup x = some b : Addr → Prop) = S
  have st : ∀ b, S b → ∃ o, H b = some (.frz o anyO) ∧ s.heap.get? b = some o := fun b hb => by
    rw [← hS] at hb
    obtain ⟨x, hx⟩ := hb
    obtain ⟨o, v, h1, h2⟩ := CL.at_ x b hx
    exact ⟨o, h1, (e0.hok b _ h1).1⟩
  have st1 : ∀ b, S b → ∃ o, H b = some (.frz o anyO) := fun b hb => let ⟨o, h, _⟩ := st b hb; ⟨o, h⟩
  have stl : Still S H := fun b u hb e => by
    obtain ⟨o, h⟩ := st1 b hb
    rw [h] at e
    exact ⟨o, (Option.some.inj e).symm⟩
  have hnf : ∀ b ∈ frs outer, ¬ S b := fun b hb z => by
    obtain ⟨o, h⟩ := st1 b z
    rw [e0.frf b hb] at h
    cases h
  have hS' : ∀ {x c}, cells.lookup x = some c → S c := fun {x c} e => by rw [← hS]; exact ⟨x, e⟩
  have e0' : Env0 prog w K mg base A outer s (thw S H) := ⟨e0.frames, e0.mod, fun b o hb => ⟨(e0.bs b o hb).1, by
      by_cases z : S b
      · exact thw_in z
      · rw [thw_out z]; exact (e0.bs b o hb).2⟩, e0.bsz, e0.funs, fun b hb => by rw [thw_out (hnf b hb)]; exact e0.frf b hb, hok_thw e0.hok stl, e0.bare⟩
  have hs0 := Sat.thaw (G := ⟨K, mg, T, base⟩) st1 hs
  have hbind : bindArgs (PySem.W.kla_fn "<lambda>" qual params body scope cells pm (.ref c') ctv) ⟨[], []⟩ = pure [] := by
    unfold noArgs at hps
    split at hps
    · rfl
    · cases hps
  have lim : s.heap.NoLimit := e0.mod.nolimit.keeps fun b o e => (e0.bs b o e).1
  refine PySem.W.kla_callFunE hr.depth of1 rfl hco2 hgen rfl ⟨c', oc, vs, t, rfl, hoc, hdc, hvc⟩ ?_
  rw [hbind]
  refine wpAny_pure (wpAny_newFunctionEnv (fun y hy => (hown y hy).2) (fun y hy => absurd hy (by simp)) (fun h₁ hns hsb => ⟨lim.fresh _ hsb, ?_⟩) hk)
  show codeAny _ _ (.expr body (PySem.W.envX qual scope s.heap.objs.size f (.ref c') cells)) _ _
  have kp : ∀ b o, s.heap.get? b = some o → h₁.get? b = some o := fun b o e => hsb.extBut b o (Nat.ne_of_lt (Heap.lt_size e)) (Heap.get?_push_of_some _ e)
  -- the slots
  have slot : ∀ i : Nat, ∃ o : Option V, (o = none ∧ ∀ d, cap[i]? ≠ some (some d)) ∨ ∃ d x c ob u v, o = some v ∧ cap[i]? = some (some d) ∧ N[i]? = some x ∧ scope.names.lookup x = some .free ∧ cells.lookup x = some c ∧ H c = some (.frz ob anyO) ∧ ob.data = .cell (some u) ∧ L2.RelV v u ∧ RD ⟨K, mg, T, base⟩ ρ H d v := fun i => by
    cases e : cap[i]? with
    | none => exact ⟨none, .inl ⟨rfl, fun d z => by cases z⟩⟩
    | some o =>
      cases o with
      | none => exact ⟨none, .inl ⟨rfl, fun d z => by cases z⟩⟩
      | some d =>
        obtain ⟨x, hx, hfx⟩ := CL.fre i d e
        obtain ⟨c, ob, u, v, k1, k2, k3, k4, k5⟩ := CL.val i x d hx e hfx
        exact ⟨some v, .inr ⟨d, x, c, ob, u, v, rfl, rfl, hx, hfx, k1, k2, k3, k4, k5⟩⟩
  obtain ⟨sl, hsl⟩ := chosen slot
  generalize hσd : (List.range N.length).map sl = σ
  have hσl : σ.length = N.length := by rw [← hσd]; simp
  have hσ : ∀ i : Nat, i < N.length → σ[i]? = some (sl i) := fun i hi => by rw [← hσd, List.getElem?_map, List.getElem?_range hi]; rfl
  generalize hE' : (fun c d H' => Gone S H' → E c d (rfz S H H') : XK) = E'
  generalize hY : cloCx prog w K mg base N (PySem.W.envX qual scope s.heap.objs.size f (.ref c') cells) A outer s (thw S H) E' = Y
  have noA : ∀ b : Addr, b ∉ (cloCx prog w K mg base N (PySem.W.envX qual scope s.heap.objs.size f (.ref c') cells) A outer s (thw S H) E').ex := fun b z => absurd (show b ∈ ([] : List Addr) from z) (by simp)
  have cellK : ∀ {x c}, cells.lookup x = some c → ∃ v, h₁.IsCell c v := fun {x c} e => by
    obtain ⟨o, v, h1, h2⟩ := CL.at_ x c e
    exact ⟨v, o, kp _ _ (e0.hok c _ h1).1, h2⟩
  have J : L2.Inv Y [] σ (thw S H) { s with heap := h₁, toks := s.toks + ([] : List (Str × Value)).length } := by
    rw [← hY]
    refine ⟨⟨e0'.mod, hk, rfl, rfl, Nat.le_refl _, fun y z c e1 e2 => CL.inj y z c e1 e2, fun y hy => ?_, fun y c z _ => ?_, fun _ => hr.hd, Around.frames_deeper e0.frames, .inr ⟨rfl, rfl⟩, fun b z => absurd z (noA b), e0'.bs, e0'.bsz, fun b _ _ => noA b,
        fun b z => absurd z (noA b), e0'.funs, e0'.frf⟩,
      rfl, e0.bare, Un.kept kp, ⟨_, hns, fun i y v e1 e2 e3 => ?_⟩, fun y c e => cellK e, e0'.hok.fresh (Nat.le_refl _), fun y c e => thw_in (hS' e), fun q hq => absurd (show q ∈ ([] : List (Addr × Obj)) ++ [] from hq) (by simp), e0'.hok.kept kp, hσl⟩
    · have hy : scope.names.lookup y = some .cell ∨ scope.names.lookup y = some .free := hy
      rcases hy with hy | hy
      · exact absurd rfl (hown _ (PySem.mem_of_lookup hy)).2
      · exact CL.has (y, .free) (PySem.mem_of_lookup hy) rfl
    · have z : false = true := z
      cases z
    · have hi : i < N.length := by
        have := (List.getElem?_eq_some_iff.mp e2).1
        omega
      rw [hσ i hi] at e2
      have e2 := Option.some.inj e2
      rcases hsl i with ⟨z, _⟩ | ⟨d, x, c, ob, u, v', q1, q2, q3, q4, q5, q6, q7, q8, q9⟩
      · rw [z] at e2; cases e2
      · rw [q1] at e2
        cases e2
        have ex : x = y := by
          have e1' : N[i]? = some y := e1
          rw [q3] at e1'
          exact Option.some.inj e1'
        subst ex
        exact ⟨u, q8, .inr ⟨.inr q4, c, q5, ob, kp _ _ (e0.hok c _ q6).1, q7⟩⟩
  have y1 : Y.prog = prog := by rw [← hY]; rfl
  have y2 : Y.w = w := by rw [← hY]; rfl
  have y3 : Y.K = K := by rw [← hY]; rfl
  have y4 : Y.mg = mg := by rw [← hY]; rfl
  have y5 : Y.base = base := by rw [← hY]; rfl
  have cx : Cxt Y T n Fl.in_ := ⟨L.law Y y1 y2 y3 y4 y5, ih Y y1 y2 y3 y4 y5, by rw [y1, y2, y3, y4, y5]; exact ic, by rw [← hY]; exact hnd, fun _ => by rw [← hY]; rfl, fun _ => by rw [← hY]; exact hr.deeper _, fun z => (by cases z), fun z => (by cases z), fun z => (by cases z)⟩
  have tk : Takes Y (fun cls d _ H => E' cls d H) := by
    rw [← hY]
    exact takes_of rfl rfl rfl rfl
  have pe := (ok_e b body Fl.in_ Y (fun cls d _ H => E' cls d H) cx rfl tk (by rw [← hY]; exact hck)).1
  have gE : gc Y T = ⟨K, mg, T, base⟩ := by unfold gc; rw [y3, y4, y5]
  have rd : rE Y T none (run T.P n) (fun cls d _ H => E' cls d H) b σ (thw S H) fun v H' => Gone S H' → Q v (rfz S H H') := by
    rw [rE, gE]
    refine ⟨ρ, F, cap.map (fun o => o.map SV.d), ⟨?_, fun i sv e => ?_⟩, hF.thw stl, ?_⟩
    · rw [List.length_map, hcl, hσl]
    · rw [List.getElem?_map] at e
      cases q : cap[i]? with
      | none => rw [q] at e; cases e
      | some o =>
        rw [q] at e
        cases o with
        | none => cases e
        | some d =>
          cases e
          have hi : i < N.length := by
            have := (List.getElem?_eq_some_iff.mp q).1
            omega
          rcases hsl i with ⟨_, z⟩ | ⟨d', x, c, ob, u, v', q1, q2, q3, q4, q5, q6, q7, q8, q9⟩
          · exact absurd q (z d)
          · rw [q] at q2
            cases q2
            exact ⟨v', by rw [hσ i hi, q1], RD.thw stl _ _ q9⟩
    · rw [← hE']
      exact Sat.chg (σ := []) (fun _ _ _ _ _ h => h) hs0
  refine PySem.W.kla_codeExpr ?_
  have run := pe.run [] _ σ (thw S H) _ J rd
  have eA : Y.A = A.deeper (PySem.W.envX qual scope s.heap.objs.size f (.ref c') cells) := by rw [← hY]; rfl
  have eEnv : Y.env = PySem.W.envX qual scope s.heap.objs.size f (.ref c') cells := by rw [← hY]; rfl
  have eX : Y.xe = fun e s' => wpAny (model prog w) (A.deeper (PySem.W.envX qual scope s.heap.objs.size f (.ref c') cells)) (leaving (PySem.W.envX qual scope s.heap.objs.size f (.ref c') cells) e) (fun _ s'' => L2.CX prog w outer (thw S H) s E' e s'') (fun e' s'' => L2.CX prog w outer (thw S H) s E' e' s'') s' := by rw [← hY]; rfl
  rw [y1, y2, eA, eEnv, eX] at run
  -- behind: frozen again
  have gone : ∀ {H' : Hp} {h' : Heap}, (∀ b o, s.heap.get? b = some o → thw S H b = none → H' b = none) → Gone S H' := fun {H' h'} fr b hb => by
    obtain ⟨o, _, ho⟩ := st b hb
    exact fr b o ho (thw_in hb)
  have err : ∀ e s'', L2.CX prog w outer (thw S H) s E' e s'' → L2.CX prog w outer H s E e s'' := fun e s'' h => by
    obtain ⟨a, B, H', cls, d, e1, fl, hok, ub, na, os, ag, hE⟩ := h
    have g : Gone S H' := gone (h' := B) ub.free
    have inB : ∀ b, S b → ∃ o, H b = some (.frz o anyO) ∧ B.get? b = some o := fun b hb => by
      obtain ⟨o, k1, k2⟩ := st b hb
      exact ⟨o, k1, ub.keep b o k2 (thw_in hb) fun z => hnf b z hb⟩
    have nz : ¬ S a := fun z => by
      obtain ⟨o, _, k2⟩ := inB a z
      rw [fl.2.1] at k2
      cases k2
    rw [← hE'] at hE
    refine ⟨a, B, rfz S H H', cls, d, e1, fl, hok_rfz hok g inB, ⟨fun b o e n hb => ?_, ub.slot, fun b o e n => ?_, ub.there, fun b xs e => ?_, fun b o x e => ?_, fun b ps e => ?_⟩, by rw [rfz_out nz]; exact na, os, ag, hE g⟩
    · exact ub.keep b o e (by by_cases z : S b; exact thw_in z; rw [thw_out z]; exact n) hb
    · have z : ¬ S b := fun z => by
        obtain ⟨o, k⟩ := st1 b z
        rw [n] at k; cases k
      rw [rfz_out z]
      exact ub.free b o e (by rw [thw_out z]; exact n)
    · exact rfz_ext g _ _ (ub.tups b xs (thw_of stl e fun q z => by cases z))
    · by_cases z : S b
      · rw [rfz_in z]; exact e
      · rw [rfz_out z]; exact ub.frzs b o x (by rw [thw_out z]; exact e)
    · obtain ⟨m, k⟩ := ub.tbls b ps (thw_of stl e fun q z => by cases z)
      exact ⟨m, rfz_ext g _ _ k⟩
  refine wpAny_mono run (fun v s' hq => ?_) fun e s' hq => wpAny_mono hq (fun _ s'' h => err e s'' h) fun e' s'' h => err e' s'' h
  obtain ⟨u, H', J', rv, q⟩ := hq
  have jo : s'.os = s.os := by rw [← hY] at J'; exact J'.os
  have jb := J'.bare
  have ju : Un (frs outer) [] (thw S H) H' s.heap s'.heap := by rw [← hY] at J'; exact J'.base
  have jh : HOk prog w H' s'.heap := by rw [← y1, ← y2]; exact J'.hok
  have g : Gone S H' := gone (h' := s'.heap) fun b o e n => ju.free b o e n (by simp)
  have inS : ∀ b, S b → ∃ o, H b = some (.frz o anyO) ∧ s'.heap.get? b = some o := fun b hb => by
    obtain ⟨o, k1, k2⟩ := st b hb
    exact ⟨o, k1, ju.keep b o k2 (thw_in hb) (fun z => hnf b z hb) (by simp)⟩
  refine ⟨u, rfz S H H', jo, jb, ⟨fun b o e n hb hx => ?_, fun b o e n hb hx => ?_, fun b o e n hx => ?_, ju.there, fun b xs e => ?_, fun b o x e => ?_, fun b ps e => ?_⟩, hok_rfz jh g inS, rv, q g⟩
  · exact ju.keep b o e (by by_cases z : S b; exact thw_in z; rw [thw_out z]; exact n) hb hx
  · exact ju.slot b o e (by by_cases z : S b; exact thw_in z; rw [thw_out z]; exact n) hb hx
  · have z : ¬ S b := fun z => by
      obtain ⟨o, k⟩ := st1 b z
      rw [n] at k; cases k
    rw [rfz_out z]
    exact ju.free b o e (by rw [thw_out z]; exact n) hx
  · exact rfz_ext g _ _ (ju.tups b xs (thw_of stl e fun q z => by cases z))
  · by_cases z : S b
    · rw [rfz_in z]; exact e
    · rw [rfz_out z]; exact ju.frzs b o x (by rw [thw_out z]; exact e)
  · obtain ⟨m, k⟩ := ju.tbls b ps (thw_of stl e fun q z => by cases z)
    exact ⟨m, rfz_ext g _ _ k⟩
/-- all depths -/
theorem fns_all (L : LawR prog w K mg base T) (D : ∀ x fd, T.P.fn x = some fd → ∃ a fdat N lm name qual params body scope, DefOk K mg base T x fd a fdat N lm name qual params body scope) : ∀ n : Nat,
    (∀ X : Cx, X.prog = prog → X.w = w → X.K = K → X.mg = mg → X.base = base → ∀ x fd, T.P.fn x = some fd → ∃ a fdat, Fn1 X T n x fd a fdat) ∧ CloOk prog w K mg base T n
  | 0 => by
    refine ⟨fun X h1 h2 h3 h4 h5 x fd hfd => ?_, fun A outer s H Q E ρ F b cap f hr e0 hF kc hs => False.elim hs⟩
    obtain ⟨a, fdat, N, lm, name, qual, params, body, scope, O⟩ := D x fd hfd
    subst h1 h2 h3 h4 h5
    have ndp : (fd.ps.map so).Nodup := by rw [← O.sc.pre]; exact O.sc.nd.sublist (List.take_sublist _ _)
    obtain ⟨oc, od, dV, kV, doc, pm, an, cdv, ct, osl, rfl, lk, hcd, hD, _⟩ := O.fn.ex
    have hdV : dV = .none := by
      rcases hD with ⟨_, e⟩ | ⟨e, _⟩
      · exact e
      · exact absurd rfl e
    refine ⟨a, PySem.W.fnOf name qual params body scope dV kV doc pm an cdv ct, O.gl, O.fn.kp, ⟨fun vs H Q E h => by rw [h.1, List.length_map], fun A outer s H args us vs Q E _ _ _ _ h => ?_⟩, O.pr, hdV, ndp, ⟨_, _, _, lk⟩, keyR_of O lk hcd hdV⟩
    obtain ⟨_, ρ, F, us', _, _, hs⟩ := h
    exact False.elim hs
  | n + 1 =>
    let ⟨i1, i2⟩ := fns_all L D n
    ⟨fun X h1 h2 h3 h4 h5 => fns_next L D i1 i2 X h1 h2 h3 h4 h5, clo_next L i1 i2⟩
end
end Fv
set_option Elab.async false
set_option linter.all false
set_option maxRecDepth 100000
set_option maxHeartbeats 2000000
/-! Fv, 24: classes of exceptions over ValueError whose __init__ says super().__init__(what) and keeps what. -/
namespace Fv
open PySem PySem.Spec PyProof.Rows L2 PySem.W PySem.Calls PySem.HandSPX
/-! ### the text of __init__ -/
def iA (p1 p2 : Pos) : Arguments := { posonlyargs := [], args := [{ arg := "self", annotation := none, pos := p1 }, { arg := "what", annotation := none, pos := p2 }], vararg := none, kwonlyargs := [], kw_defaults := [], kwarg := none, defaults := [] }
def iB (q1 q2 q3 q4 q5 q6 r1 r2 r3 r4 : Pos) : List Stmt :=
  [.Expr (.Call (.Attribute (.Call (.Name "super" q1) [] [] q2) "__init__" q3) [.Name "what" q4] [] q5) q6, .Assign [.Attribute (.Name "self" r1) "what" r2] (.Name "what" r3) r4]
def iS : Scope := { kind := .function, names := [(PySem.Str.ofString "self", .local), (PySem.Str.ofString "what", .local), (PySem.Str.ofString "__class__", .free), (PySem.Str.ofString "super", .globalImplicit)], isGenerator := false, isCoroutine := false, more := [] }
/-- what the written part says of the class at C, over the one at R that holds __init__, at fI -/
structure RefT (prog : Program) (K : Frag) (mg : Str → Option Value) (c : Str) (C R fI cda cc : Addr) : Prop where
  gC : mg c = some (.ref C)
  cls : ∃ nm q N bs bm sn sub ab col dd k0 k1 k2 k3 k5, K.lookup C = some (excClassObj nm q C N bs bm true sn sub ab col dd k0 k1 k2 k3 k5 "ValueError.__new__") ∧ refsVE bm = true
  sa : findIn K (.ref C) "__setattr__" = some (some (.builtin "object.__setattr__"))
  ga : findIn K (.ref C) "__getattribute__" = some (some (.builtin "BaseException.__getattribute__"))
  gg : findIn K (.ref C) "__getattr__" = some none
  noN : findIn K (.ref C) "what" = some none
  iC : findIn K (.ref C) "__init__" = some (some (.ref fI))
  tC : typeIn K (.ref fI) = some (.type "function")
  kC : keepIn K (.ref C) = true
  exC : subIn K (.ref C) (.type "BaseException") = some true
  veC : subIn K (.ref C) (.type "ValueError") = some true
  tyC : typeIn K (.ref C) = some (.type "type")
  hdC : hasDictIn K C = true
  fn : ∃ (oc : Value) (od : Option Addr) (doc pm : Value) (an : Option Addr) (ct : Value) (osl : Array (Option Value)) (p1 p2 q1 q2 q3 q4 q5 q6 r1 r2 r3 r4 : Pos),
    K.lookup fI = some ⟨oc, od, .func (ksFn "__init__" "Refused.__init__" (iA p1 p2) (iB q1 q2 q3 q4 q5 q6 r1 r2 r3 r4) iS .none .none doc pm an (.ref cda) ct cc), osl⟩ ∧ codeIn K (.ref cda) "Refused.__init__" = true ∧ (q3.endLine == q5.line) = true
  code : ∃ (ccl : Value) (cdd : Option Addr) (vs : Array Value) (ccs : Array (Option Value)) (file : Str) (tf : Tok), K.lookup cda = some ⟨ccl, cdd, .fields vs, ccs⟩ ∧ vs[2]? = some (.str file tf) ∧ ((prog.main.file : Str) == file) = true
  cell : ∃ (cl : Value) (cld : Option Addr) (csl : Array (Option Value)), K.lookup cc = some ⟨cl, cld, .cell (some (.ref R)), csl⟩
  clR : ∃ cd, clsIn K R = some cd
  mroC : mroIn K C (.ref R) = some true
  sup : mg "super" = none
  top : (prog.main.scope.names.lookup ("super" : Str)).isSome = false
  thd : nsIn K cStatics "thirdparty.any" = some none
  sin : ks_superIn K C R "__init__" = some (some (.builtin "ValueError.__init__"))
structure InitEnd (h h' : Heap) (x C dx t1 : Addr) (v : Value) : Prop where
  keep : ∀ b o, b ≠ x → h.get? b = some o → h'.get? b = some o
  obj : h'.get? x = some { cls := .ref C, dict := some dx, data := .fields #[.ref t1, .none, .none, .none, .bool false, .none] }
  dbig : h.objs.size ≤ dx
  dne : dx ≠ x
  ns : h'.Ns1 dx (fun y => if y = "what" then some v else none)
structure OwnMade (h h' : Heap) (e C d : Addr) (v : Value) : Prop where
  keep : ∀ b o, h.get? b = some o → h'.get? b = some o
  new : h.objs.size ≤ e
  obj : ∃ oe vs, h'.get? e = some oe ∧ oe.cls = .ref C ∧ oe.dict = some d ∧ oe.data = .fields vs ∧ vs[1]? = some .none
  dbig : h.objs.size ≤ d
  dne : d ≠ e
  ns : h'.Ns1 d (fun y => if y = "what" then some v else none)
section
variable {prog : Program} {w : World} {A : Around} {E : Value → Shared → Prop} {h : Heap} {g : Array GenState} {d : Drawn} {t : Nat} {os : OsState}
variable {nm q : Str} {C N : Addr} {bs bm : List Value} {hdct : Bool} {sn : List Str} {sub : List Value} {ab : Bool} {col : Option Bool} {dd : Option Addr} {k0 k1 k2 k3 k5 : Option Value}
theorem call_mw {u e t0 : Addr} {rest : List Value} {Q : Value → Shared → Prop}
    (hC : h.get? C = some (excClassObj nm q C N bs bm hdct sn sub ab col dd k0 k1 k2 k3 k5 "ValueError.__new__")) (he : h.get? e = some (excO C t0)) (hu : h.get? u = some (kxs_mw "ValueError.__init__" e)) (hrest : rest.length ≤ sizeLine)
    (hq : ∀ h' t1, (∀ b o, b ≠ e → h.get? b = some o → h'.get? b = some o) → h'.get? e = some (excO C t1) → Q .none ⟨h', g, d, t, os⟩) :
    wpAny (model prog w) A (call (.ref u) rest) Q E ⟨h, g, d, t, os⟩ := by
  refine wpAny_call (codeAny_of_tree ?_)
  show wpAny _ A.in1 (callAny (.ref u) ⟨rest, []⟩) _ _ _
  simp only [callAny]
  refine wpAny_bind (wpAny_load hu ?_)
  simp only [kxs_mw, show (Value.type "method-wrapper" == Value.type "method" || Value.type "method-wrapper" == Value.type "builtin_function_or_method" || Value.type "method-wrapper" == Value.type "method-wrapper") = true by decide, if_true]
  refine KFB.if_so (by decide) ?_
  refine wpAny_bind (check_bound_init F.excBase_ValueError.toExcCallFacts hC he rfl ?_)
  refine wpAny_bind (wpAny_pure (wpAny_pure ?_))
  refine ⟨plainId_quiet F.excBase_ValueError.init.plain _, codeAny_builtin F.excBase_ValueError.initEntry ?_⟩
  exact exc_init_tree (cls := .ref C) (t0 := t0) (dv := none) (c2 := .none) (c3 := .none) (b4 := .bool false) he hrest fun h' k e' t' => hq h' _ k e'
end
theorem mc_super {q1 q2 q3 q4 q5 : Pos} {env : Env} (h : (q3.endLine == q5.line) = true) : eval (.Call (.Attribute (.Call (.Name "super" q1) [] [] q2) "__init__" q3) [.Name "what" q4] [] q5) env = (do
      let ov ← attributeBase (.Call (.Name "super" q1) [] [] q2) "__init__" env (eval (.Call (.Name "super" q1) [] [] q2) env)
      standAt q3.atName
      let (f, first) ← holding [ov] (getMethod ov "__init__" (do return (← importBound (.Call (.Name "super" q1) [] [] q2) env).getD true))
      callWith q5 f first (backTo q5 (starEach [.Name "what" q4] env)) []) := by
  have e : ∀ o, methodCallPos true o env q3 q5 = pure q5 := fun o => by
    unfold methodCallPos
    simp [h]
  show (do
      let ov ← attributeBase (.Call (.Name "super" q1) [] [] q2) "__init__" env (eval (.Call (.Name "super" q1) [] [] q2) env)
      standAt q3.atName
      let (f, first) ← holding [ov] (getMethod ov "__init__" (do return (← importBound (.Call (.Name "super" q1) [] [] q2) env).getD true))
      let callPos ← methodCallPos true (.Call (.Name "super" q1) [] [] q2) env q3 q5
      callWith callPos f first (backTo q5 (starEach [.Name "what" q4] env)) []) = _
  simp only [e, pure_bind]
theorem one_size (v : Value) : [v].length ≤ sizeLine := by
  rw [sizeLine_eq]
  exact (by decide : 1 ≤ 16777216)
section
variable {prog : Program} {w : World} {A : Around} {E : Value → Shared → Prop} {R : Result → Shared → Prop} {s : Shared} {K : Frag} {mg : Str → Option Value} {c : Str} {C Rf fI cda cc : Addr}
theorem ref_init (T : RefT prog K mg c C Rf fI cda cc) {x t0 : Addr} {v : Value} (M : Mod K mg s.heap) (hnx : K.lookup x = none) (hx : s.heap.get? x = some (excO C t0)) (hroom : A.depth < recursionLimit)
    (hq : ∀ h' tk dx t1, InitEnd s.heap h' x C dx t1 v → R (.ok (.ret .none)) { s with heap := h', toks := tk }) :
    codeAny (model prog w) A (.call (.ref fI) ⟨[.ref x, v], []⟩) R s := by
  obtain ⟨oc, od, doc, pm, an, ct, osl, p1, p2, q1, q2, q3, q4, q5, q6, r1, r2, r3, r4, ho, hcd, hql⟩ := T.fn
  obtain ⟨nm, q, N, bs, bm, sn, sub, ab, col, dd, k0, k1, k2, k3, k5, hC, hbm⟩ := T.cls
  obtain ⟨ccl, cdd, vs, ccs, file, tf, hcode, hvs, hfile⟩ := T.code
  obtain ⟨cl, cld, csl, hcell⟩ := T.cell
  obtain ⟨cdR, hR⟩ := T.clR
  have X : K.In s.heap := M.kin
  have hcl : clsIn K C = some { name := nm, bases := bs, mro := .ref C :: bm, ns := N, qualname := q, hasDict := true, slotNames := sn, subclasses := sub, abstract := ab, collection := col, hasDel := false } := by unfold clsIn; rw [hC] <;> rfl
  refine ks_codeAny_call_defAt (fd := ksFn "__init__" "Refused.__init__" (iA p1 p2) (iB q1 q2 q3 q4 q5 q6 r1 r2 r3 r4) iS .none .none doc pm an (.ref cda) ct cc) (binds := [("self", .ref x), ("what", v)]) hroom (X _ _ ho) rfl M.nolimit (codeRec_of X hcd) rfl
    (BindsTo.of_eq (by first | rfl | with_unfolding_all rfl)) (show ∀ x ∈ iS.names, x.2 ≠ .cell by decide) (fun y hy => by
      rcases List.mem_cons.mp hy with rfl | hy
      · rfl
      · rcases List.mem_cons.mp hy with rfl | hy
        · rfl
        · cases hy) (fun h₁ hns hk₁ => ?_)
  have X₁ : K.In h₁ := X.keeps hk₁
  have hx₁ := hk₁ _ _ hx
  have I₁ : InstAt h₁ x (excO C t0) C none := ⟨hx₁, rfl, rfl, trivial⟩
  have hxC : x ≠ C := ks_ne X₁ I₁ hcl
  have hxL : s.heap.objs.size ≠ x := Nat.ne_of_gt (Heap.lt_size hx)
  obtain ⟨mb, hb1, hb2⟩ := M.blt
  obtain ⟨oD, hD1, hD2⟩ : ∃ oD, h₁.get? Rf = some oD ∧ oD.data = .cls cdR := by
    unfold clsIn at hR
    split at hR
    · rename_i c d cd' sl ho
      cases hR
      exact ⟨_, X₁ _ _ ho, rfl⟩
    · cases hR
  refine ks_wpAt_execs_cons (ks_wpAt_Expr_any (ks_wpAt_MethodCall ?_ (mc_super hql)))
  refine ks_wpAt_super_base (env := ksEnv "Refused.__init__" iS s.heap.objs.size fI (.ref cda) cc) rfl rfl (by decide) rfl (X₁ _ _ ho) rfl rfl rfl (X₁ _ _ hcode) rfl hvs hfile T.top ?_
  refine ks_loadName_global rfl rfl (loadGlobal_builtin (env := ksEnv "Refused.__init__" iS s.heap.objs.size fI (.ref cda) cc) (M.glob.keeps hk₁) T.sup (hb1.keeps hk₁) ((hb2 _ (by decide)).trans (show bootBuiltins "super" = some (.type "super") by first | rfl | decide +kernel)) ⟨rfl, ?_⟩)
  refine wpAny_loadName_free rfl rfl rfl ⟨_, X₁ _ _ hcell, rfl⟩ ?_
  refine wpAny_loadName_local (v := .ref x) rfl rfl hns (by first | rfl | with_unfolding_all rfl | kernel_rfl) ?_
  refine ks_wpAny_isType_cls hD1 hD2 ⟨rfl, ?_⟩
  refine ks_wpAny_call_super hD1 hD2 hx₁ rfl (fun c e => by cases e) (looks_mroIn X₁ T.mroC) (fun h₂ hso k₂ => ?_)
  have X₂ : K.In h₂ := X₁.keeps k₂
  have hx₂ := k₂ _ _ hx₁
  have I₂ : InstAt h₂ x (excO C t0) C none := ⟨hx₂, rfl, rfl, trivial⟩
  have hal : alongIn K "__init__" (((Value.ref C :: bm).dropWhile (· != .ref Rf)).drop 1) = some (some (.builtin "ValueError.__init__")) := by
    have z := T.sin
    unfold ks_superIn at z
    rw [hcl] at z
    exact z
  refine kxs_getMethod kxs_ValueError (l₀ := .ref C :: bm) hso (looks_opaque X₂ T.thd) ?_ rfl X₂ hal (I₂.type.andThen (looks_subIn X₂ T.veC)) hxC (by decide) ?_
  · exact fun A Q E s k q => wpAny_bind ((looks_clsIn X₂ hcl) A _ E s k (wpAny_pure q))
  have k₃ : ∀ b o, h₂.get? b = some o → (h₂.push (kxs_mw "ValueError.__init__" x)).get? b = some o := fun b o e => Heap.get?_push_of_some _ e
  have hu : (h₂.push (kxs_mw "ValueError.__init__" x)).get? h₂.objs.size = some (kxs_mw "ValueError.__init__" x) := Heap.get?_push_at rfl rfl
  have hns₂ := (hns.keeps k₂).keeps k₃
  generalize h₂.push (kxs_mw "ValueError.__init__" x) = h₃ at k₃ hu hns₂ ⊢
  have X₃ : K.In h₃ := X₂.keeps k₃
  have hx₃ := k₃ _ _ hx₂
  refine kxs_callWith (i := "ValueError.__init__") (x := x) rfl (evalArgs_plain ?_)
  refine Calls.spliced_cons (ESX.ldL (v := v) hns₂ (by first | rfl | with_unfolding_all rfl | kernel_rfl) ?_)
  refine Calls.spliced_nil ⟨hu, ?_⟩
  refine call_mw (X₃ _ _ hC) hx₃ hu (one_size v) (fun h₄ t1 k₄ hx₄ => ?_)
  have hns₄ : h₄.Ns s.heap.objs.size _ := hns₂.at (k₄ _ · hxL)
  have k4 : ∀ b o, b ≠ x → s.heap.get? b = some o → h₄.get? b = some o := fun b o hb e => k₄ b o hb (k₃ _ _ (k₂ _ _ (hk₁ _ _ e)))
  have X₄ : K.In h₄ := fun a o e => k₄ a o (fun z => by rw [z, hnx] at e; cases e) (X₃ a o e)
  refine ks_wpAt_execs_cons (wpAt_of_wpAny (plainObj_wpAny_Assign_Attribute ?_))
  refine ESX.ldL (v := v) hns₄ (by first | rfl | with_unfolding_all rfl | kernel_rfl) (ESX.ldL (v := .ref x) hns₄ (by first | rfl | with_unfolding_all rfl | kernel_rfl) ?_)
  refine set_plain X₄ (ox := excO C t1) (od := none) ⟨hx₄, rfl, rfl, trivial⟩ T.sa ?_
  refine exc_osa X₄ hx₄ hcl (show refsVE (.ref C :: bm) = true from hbm) rfl T.noN (fun h₅ tk₅ dx k₅ dn dne hx₅ hn₅ => ?_)
  have z : s.heap.objs.size < h₄.objs.size := hns₄.lt
  exact wpAt_of_wpAny (wpAny_execs_nil (hq h₅ tk₅ dx t1 ⟨fun b o hb e => k₅ b o hb (k4 b o hb e), hx₅, Nat.le_of_lt (Nat.lt_of_lt_of_le z dn), dne, hn₅⟩))
theorem mod_keeps {K : Frag} {mg : Str → Option Value} {h h' : Heap} (M : Mod K mg h) (k : ∀ b o, h.get? b = some o → h'.get? b = some o) : Mod K mg h' :=
  ⟨M.kin.keeps k, M.glob.keeps k, (by obtain ⟨mb, h1, h2⟩ := M.blt; exact ⟨mb, h1.keeps k, h2⟩), M.nolimit.keeps k⟩
theorem ref_made (T : RefT prog K mg c C Rf fI cda cc) {v : Value} (M : Mod K mg s.heap) (hroom : A.depth + 1 < recursionLimit)
    (hq : ∀ h' tk e d, OwnMade s.heap h' e C d v → R (.ok (.ret (.ref e))) { s with heap := h', toks := tk }) :
    codeAny (model prog w) A (.call (.ref C) ⟨[v], []⟩) R s := by
  obtain ⟨nm, q, N, bs, bm, sn, sub, ab, col, dd, k0, k1, k2, k3, k5, hC, hbm⟩ := T.cls
  have X : K.In s.heap := M.kin
  obtain ⟨hp, g, dr, tk, os⟩ := s
  have k : ∀ b o, hp.get? b = some o → ((hp.push (kdv_tup [v])).push (excO C hp.objs.size)).get? b = some o := fun b o e => Heap.get?_push_of_some _ (Heap.get?_push_of_some _ e)
  have hget : ((hp.push (kdv_tup [v])).push (excO C hp.objs.size)).get? (hp.objs.size + 1) = some (excO C hp.objs.size) := by heap_get
  have hnx : K.lookup (hp.objs.size + 1) = none := by
    cases e : K.lookup (hp.objs.size + 1) with
    | none => rfl
    | some o =>
      have z : hp.get? (hp.objs.size + 1) = some o := X _ _ e
      exact absurd (Nat.lt_of_succ_lt (Heap.lt_size z)) (Nat.lt_irrefl _)
  refine call_own F.excBase_ValueError (fun X => refsVE_contains X bm hbm) (X _ _ hC) (looks_findIn X T.iC) (fun self => bind_fn X self T.tC) (one_size v) ?_
  refine ref_init (s := ⟨(hp.push (kdv_tup [v])).push (excO C hp.objs.size), g, dr, tk, os⟩) T (mod_keeps M k) hnx hget ?_ fun h' tk' dx t1 ⟨k', hx, dn, dne, hns⟩ => ?_
  · show A.depth + 1 < recursionLimit
    exact hroom
  · have old : ∀ b o, hp.get? b = some o → h'.get? b = some o := fun b o e => k' b o (Nat.ne_of_lt (Nat.lt_succ_of_lt (Heap.lt_size e))) (k b o e)
    have z : hp.objs.size + 1 + 1 ≤ dx := by
      first
        | (simpa only [Heap.size_push] using dn)
        | exact dn
        | (have q := dn; rw [Heap.size_push, Heap.size_push] at q; exact q)
    exact ⟨rfl, hq h' tk' (hp.objs.size + 1) dx ⟨old, Nat.le_succ _, ⟨_, _, hx, rfl, rfl, rfl, rfl⟩, Nat.le_trans (Nat.le_trans (Nat.le_succ _) (Nat.le_succ _)) z, dne, hns⟩⟩
end
theorem relO_ref {v : V} {v' : Value} (r : RelV v v') (f : Str) : RelO (List.lookup f [(("what" : Str), v)]) (if f = "what" then some v' else none) := by
  by_cases hw : f = "what"
  · subst hw
    rw [if_pos rfl]
    have q : List.lookup ("what" : Str) [(("what" : Str), v)] = some v := by simp [List.lookup]
    rw [q]
    exact r
  · rw [if_neg hw]
    have qw : (f == ("what" : Str)) = false := by simpa using hw
    have q2 : List.lookup f [(("what" : Str), v)] = none := by simp [List.lookup, qw]
    rw [q2]
    trivial
section
variable {X : Cx} {c : Str} {C Rf fI cda cc : Addr}
theorem pmk_ref {a : Expr} {ta : TE} {p pos : Pos} {k : Nat} (T : RefT X.prog X.K X.mg c C Rf fI cda cc) (hr : Room k X.A) (ha : PE X a ta) (hst : (!isStar a) = true) (hg : Gl X c) (hdb : (c == ("__debug__" : Str)) = false) :
    PMk X (.Call (.Name c p) [a] [] pos) fun σ H Q => ta σ H fun v H1 => ∀ C d, X.mg c = some (.ref C) → H1 d = none → Q (.ref C) (some d) (upd H1 d (.xd [(("what" : Str), v)])) := by
  intro pins s σ H Q I h
  have he : starEach (a :: []) X.env = (false, eval a X.env) :: starEach [] X.env := star_cons hst
  refine wpAny_Call_Name_kw (ld_glob I hg T.gC ?_ hdb)
  refine PySem.W.callWith_K (h₀ := X.base) I.ok.mod.kin T.kC (thn ((pa_cons ha pa_nil he).run pos pins s σ H (fun vs H1 => match vs with | [v] => ∀ C d, X.mg c = some (.ref C) → H1 d = none → Q (.ref C) (some d) (upd H1 d (.xd [(("what" : Str), v)])) | _ => False) I h) fun us s1 hh => ?_) he rfl
  obtain ⟨vs, H1, I1, r1, q1⟩ := hh
  obtain ⟨v, rfl⟩ : ∃ v, vs = [v] := by
    match vs, q1 with
    | [v], _ => exact ⟨v, rfl⟩
    | [], z => exact z.elim
    | _ :: _ :: _, z => exact z.elim
  refine ⟨I1.kIn, ?_⟩
  cases r1 with
  | cons rv rn =>
    rename_i v' us'
    cases rn
    show wpAny _ _ (call (.ref C) [v']) _ _ _
    have hmod := mod_keeps I1.mod I1.bk
    obtain ⟨hp, g, dr, tk, os⟩ := s1
    refine wpAny_call (ref_made T hmod (by have := hr.dp; omega) fun h' tk' e d M => ?_)
    show MkP X pins σ Q (.ref e) ⟨h', g, dr, tk', os⟩
    obtain ⟨oe, fv, hoe, hc, hd, hdat, h1⟩ := M.obj
    have hns := M.ns
    obtain ⟨G', g1, g2⟩ := restrict h' fun b => decide (b ≠ e)
    have gk : ∀ b, b ≠ e → G'.get? b = h'.get? b := fun b hb => g1 b (decide_eq_true hb)
    have ge : G'.get? e = none := g2 e (by simp)
    have old : ∀ b o, hp.get? b = some o → G'.get? b = some o := fun b o q => (gk b (Nat.ne_of_lt (Nat.lt_of_lt_of_le (Heap.lt_size q) M.new))).trans (M.keep b o q)
    have ob : ObjOk X.prog X.w (upd H1 d (.xd [(("what" : Str), v)])) G' d (.xd [(("what" : Str), v)]) :=
      ⟨_, hns.at (fun o q => (gk d M.dne).trans q), fun f => relO_ref rv f⟩
    have J : Inv X pins σ (upd H1 d (.xd [(("what" : Str), v)])) ⟨G', g, dr, tk', os⟩ := I1.laid (t' := tk') old M.dbig ob
    refine ⟨e, oe, fv, ⟨G', g, dr, tk', os⟩, _, .ref C, some d, rfl, J, fun b o q => ?_, ge, hoe, ⟨hc, hd⟩, hdat, h1, ?_, rfl, I1.bare, raises_own T.exC T.tyC, q1 C d T.gC (I1.hok.fresh M.dbig)⟩
    · by_cases hb : b = e
      · have q' : G'.get? b = some o := q
        rw [hb, ge] at q'; cases q'
      · exact (gk b hb).symm.trans q
    · rw [upd_ne (Ne.symm M.dne)]
      exact I1.hok.fresh M.new
theorem pe_what {a : Addr} {oe : Obj} {d : Option Addr} {pn : List (Addr × Obj)} (T : RefT X.prog X.K X.mg c C Rf fI cda cc) (hz : Zc (.ref C) d oe) (hf : ∃ vs, oe.data = .fields vs)
    {pins : List (Addr × Obj)} {σ : L2.St} {H1 : Hp} {s1 : Shared} (I1 : Inv (X.suite a ((a, oe) :: pn)) pins σ H1 s1) {dd : Addr} {v : V} (ed : d = some dd) (ea : H1 dd = some (.xd [(("what" : Str), v)])) {Q : VK} (q : Q v H1) :
    wpAny (model X.prog X.w) (X.suite a ((a, oe) :: pn)).A (getAttr (.ref a) "what" true) (EP (X.suite a ((a, oe) :: pn)) pins σ Q) (X.suite a ((a, oe) :: pn)).xe s1 := by
  subst ed
  obtain ⟨ha, _⟩ := I1.pin (a, oe) (List.mem_append_left _ List.mem_cons_self)
  obtain ⟨vs, hd⟩ := hf
  have hx : ObjOk X.prog X.w H1 s1.heap dd (.xd [(("what" : Str), v)]) := I1.hok dd _ ea
  obtain ⟨mA, hns, hr⟩ := hx
  obtain ⟨od, ho, hl⟩ := lookIn_ns hns
  have l : List.lookup ("what" : Str) [(("what" : Str), v)] = some v := by simp [List.lookup]
  obtain ⟨u, hu, ru⟩ := RelO.some_of (v := v) (o := mA "what") (by rw [← l]; exact hr "what")
  have J : PySem.W.InstAt s1.heap a oe C (some od) := ⟨ha, hz.1, by unfold PySem.W.notCls; rw [hd] <;> rfl, by rw [hz.2]; exact ho⟩
  exact HandSPX.exc_get I1.kIn J T.ga T.gg T.exC (PySem.W.findObj_own T.hdC T.noN rfl (by rw [hl, hu])) (handed_of ru) ⟨v, H1, I1.tok _, ru, q⟩
end
/-- the classes of exceptions of a law -/
def RefX (prog : Program) (K : Frag) (mg : Str → Option Value) (exc : List String) : Prop := ∀ c ∈ exc, ∃ C Rf fI cda cc, RefT prog K mg (so c) C Rf fI cda cc
theorem mks_of {X : Cx} {exc : List String} (T : RefX X.prog X.K X.mg exc) : ∀ c, c ∈ exc → Mks X c := fun c hc a ta p pos k hr ha hst hg hdb => by
  obtain ⟨C, Rf, fI, cda, cc, T⟩ := T c hc
  exact pmk_ref T hr ha hst hg hdb
theorem what_of {X : Cx} {T : Tb} (R : RefX X.prog X.K X.mg T.P.exc) : WhatR X T := fun a cls d oe pn e te pos hz hf hns he => by
  refine ⟨fun pins s σ H Q I h => ?_⟩
  refine attr_of (base_of hns _) (thn (he.run pins s σ H _ I h) fun u s1 hh => ?_)
  obtain ⟨x, H1, I1, rx, ex, C, c, dd, v, hc, ec, hC, ed, ea, q⟩ := hh
  subst ex
  obtain rfl : u = Value.ref a := rx
  subst ec
  obtain ⟨C', Rf, fI, cda, cc, T⟩ := R c hc
  obtain rfl : C = C' := by
    have z := hC.symm.trans T.gC
    cases z
    rfl
  exact pe_what T hz hf I1 ed ea q
end Fv
set_option Elab.async false
set_option linter.all false
set_option maxRecDepth 100000
set_option maxHeartbeats 2000000
/-! Fv, 25: the head: what it is to tell. -/
namespace Fv
open PySem PySem.Spec PyProof.Rows L2 PySem.W PySem.HandSPX
/-! ### the exceptions' classes -/
def fiR (K : Frag) : Addr := He.ma K (He.ga K "Refused") "__init__"
def argB : Arguments → Bool
  | ⟨[], [⟨a1, none, _⟩, ⟨a2, none, _⟩], none, [], [], none, []⟩ => decide (a1 = "self") && decide (a2 = "what")
  | _ => false
def st1B : Stmt → Bool
  | .Expr (.Call (.Attribute (.Call (.Name n1 _) [] [] _) n2 q3) [.Name n3 _] [] q5) _ => decide (n1 = "super") && (decide (n2 = "__init__") && (decide (n3 = "what") && (q3.endLine == q5.line)))
  | _ => false
def st2B : Stmt → Bool
  | .Assign [.Attribute (.Name n1 _) n2 _] (.Name n3 _) _ => decide (n1 = "self") && (decide (n2 = "what") && decide (n3 = "what"))
  | _ => false
def scoB (s : Scope) : Bool := (match s.kind with
  | .function => true
  | _ => false) && (decide (s.names = iS.names) && (!s.isGenerator && (!s.isCoroutine && s.more.isEmpty)))
theorem argB_ok {a : Arguments} (h : argB a = true) : ∃ p1 p2, a = iA p1 p2 := by
  unfold argB at h
  split at h
  · simp only [Bool.and_eq_true, decide_eq_true_eq] at h
    obtain ⟨rfl, rfl⟩ := h
    exact ⟨_, _, rfl⟩
  · cases h
theorem st1B_ok {a : Stmt} (h : st1B a = true) : ∃ q1 q2 q3 q4 q5 q6, a = .Expr (.Call (.Attribute (.Call (.Name "super" q1) [] [] q2) "__init__" q3) [.Name "what" q4] [] q5) q6 ∧ (q3.endLine == q5.line) = true := by
  unfold st1B at h
  split at h
  · simp only [Bool.and_eq_true, decide_eq_true_eq] at h
    obtain ⟨rfl, rfl, rfl, h⟩ := h
    exact ⟨_, _, _, _, _, _, rfl, h⟩
  · cases h
theorem st2B_ok {a : Stmt} (h : st2B a = true) : ∃ r1 r2 r3 r4, a = .Assign [.Attribute (.Name "self" r1) "what" r2] (.Name "what" r3) r4 := by
  unfold st2B at h
  split at h
  · simp only [Bool.and_eq_true, decide_eq_true_eq] at h
    obtain ⟨rfl, rfl, rfl⟩ := h
    exact ⟨_, _, _, _, rfl⟩
  · cases h
theorem scoB_ok {s : Scope} (h : scoB s = true) : s = iS := by
  obtain ⟨k, n, g, c, m⟩ := s
  unfold scoB at h
  simp only [Bool.and_eq_true, decide_eq_true_eq, Bool.not_eq_true', List.isEmpty_iff] at h
  obtain ⟨h1, h2, h3, h4, h5⟩ := h
  subst h2 h3 h4 h5
  cases k <;> first | rfl | cases h1
def bodB : FuncBody → Bool
  | .stmts [a, b] => st1B a && st2B b
  | _ => false
/-- __init__'s code object and cell -/
def refV1 : Value → Addr
  | .ref c => c
  | _ => 0
def celR (l : List (Str × Addr)) : Addr := match l with
  | [(_, c)] => c
  | _ => 0
def fdR (K : Frag) : Option FuncData := match K.lookup (fiR K) with
  | some ⟨_, _, .func fd, _⟩ => some fd
  | _ => none
def cdaR (K : Frag) : Addr := match fdR K with
  | some fd => refV1 fd.code
  | none => 0
def ccR (K : Frag) : Addr := match fdR K with
  | some fd => celR fd.closure
  | none => 0
def fdB (fd : FuncData) (cda cc : Addr) : Bool := decide (fd.name = "__init__") && (decide (fd.qualname = "Refused.__init__") && (argB fd.params && (bodB fd.body && (scoB fd.scope && (decide (fd.globals = mainGlobals) && (decide (fd.closure = [(("__class__" : Str), cc)]) &&
  (decide (fd.defaults = .none) && (decide (fd.kwdefaults = .none) && (decide (fd.code = .ref cda) && decide (fd.builtins = builtinsNs))))))))))
theorem fdB_ok {fd : FuncData} {cda cc : Addr} (h : fdB fd cda cc = true) : ∃ (doc pm : Value) (an : Option Addr) (ct : Value) (p1 p2 q1 q2 q3 q4 q5 q6 r1 r2 r3 r4 : Pos),
    fd = ksFn "__init__" "Refused.__init__" (iA p1 p2) (iB q1 q2 q3 q4 q5 q6 r1 r2 r3 r4) iS .none .none doc pm an (.ref cda) ct cc ∧ (q3.endLine == q5.line) = true := by
  obtain ⟨n1, n2, n3, n4, n5, n6, n7, n8, n9, n10, n11, n12, n13, n14, n15⟩ := fd
  unfold fdB at h
  simp only [Bool.and_eq_true, decide_eq_true_eq] at h
  obtain ⟨h1, h2, h3, h4, h5, h6, h7, h8, h9, h10, h11⟩ := h
  obtain ⟨p1, p2, rfl⟩ := argB_ok h3
  have e5 := scoB_ok h5
  unfold bodB at h4
  split at h4
  · rename_i a b
    simp only [Bool.and_eq_true] at h4
    obtain ⟨q1, q2, q3, q4, q5, q6, rfl, hq⟩ := st1B_ok h4.1
    obtain ⟨r1, r2, r3, r4, rfl⟩ := st2B_ok h4.2
    subst h1 h2 e5 h6 h7 h8 h9 h10 h11
    exact ⟨_, _, _, _, p1, p2, q1, q2, q3, q4, q5, q6, r1, r2, r3, r4, rfl, hq⟩
  · cases h4
def clsB (K : Frag) (C : Addr) : Bool := match K.lookup C with
  | some ⟨.type "type", _, .cls cd, sl⟩ => (match cd.mro, sl.toList with
    | .ref C' :: bm, [_, _, _, _, some (.builtin n), _] => C' == C && (n == "ValueError.__new__" && (!cd.hasDel && (cd.hasDict && refsVE bm)))
    | _, _ => false)
  | _ => false
theorem clsB_ok {K : Frag} {C : Addr} (q : clsB K C = true) : ∃ nm q N bs bm sn sub ab col dd k0 k1 k2 k3 k5, K.lookup C = some (excClassObj nm q C N bs bm true sn sub ab col dd k0 k1 k2 k3 k5 "ValueError.__new__") ∧ refsVE bm = true := by
  unfold clsB at q
  split at q
  · rename_i dd cd sl ho
    split at q
    · rename_i C' bm k0 k1 k2 k3 n k5 hm hs
      simp only [Bool.and_eq_true, beq_iff_eq, Bool.not_eq_true'] at q
      obtain ⟨rfl, rfl, hdel, hdct, ht⟩ := q
      obtain ⟨nm, bs, mro, ns, qn, hd, sn, sub, ab, col, del⟩ := cd
      dsimp only at hm hdel hdct
      subst hm hdel hdct
      have hsl : sl = #[k0, k1, k2, k3, some (.builtin "ValueError.__new__"), k5] := by
        obtain ⟨l⟩ := sl
        simp only at hs
        rw [hs]
      subst hsl
      exact ⟨_, _, _, _, _, _, _, _, _, _, _, _, _, _, _, ho, ht⟩
    · cases q
  · cases q
def codB (K : Frag) (c : Addr) (file : Str) : Bool := match K.lookup c with
  | some ⟨_, _, .fields vs, _⟩ => (match (vs[2]? : Option Value) with
    | some (.str f _) => file == f
    | _ => false)
  | _ => false
theorem codB_ok {K : Frag} {c : Addr} {f0 : Str} (q : codB K c f0 = true) : ∃ (ccl : Value) (cdd : Option Addr) (vs : Array Value) (ccs : Array (Option Value)) (file : Str) (tf : Tok), K.lookup c = some ⟨ccl, cdd, .fields vs, ccs⟩ ∧ vs[2]? = some (.str file tf) ∧ (f0 == file) = true := by
  unfold codB at q
  split at q
  · rename_i ho
    split at q
    · rename_i hv
      exact ⟨_, _, _, _, _, _, ho, hv, q⟩
    · cases q
  · cases q
def celB (K : Frag) (c R : Addr) : Bool := match K.lookup c with
  | some ⟨_, _, .cell (some (.ref a)), _⟩ => a == R
  | _ => false
theorem celB_ok {K : Frag} {c R : Addr} (q : celB K c R = true) : ∃ (cl : Value) (cld : Option Addr) (csl : Array (Option Value)), K.lookup c = some ⟨cl, cld, .cell (some (.ref R)), csl⟩ := by
  unfold celB at q
  split at q
  · rename_i ho
    cases beq_iff_eq.mp q
    exact ⟨_, _, _, ho⟩
  · cases q
/-- what all classes share -/
def supB (K : Frag) (file : Str) : Bool := (match K.lookup (fiR K) with
  | some ⟨_, _, .func fd, _⟩ => fdB fd (cdaR K) (ccR K)
  | _ => false) && (codeIn K (.ref (cdaR K)) "Refused.__init__" && (codB K (cdaR K) file && (celB K (ccR K) (He.ga K "Refused") && ((clsIn K (He.ga K "Refused")).isSome && (He.eqO (nsIn K mainGlobals "super") (some none) &&
  (He.eqO (nsIn K cStatics "thirdparty.any") (some none) && decide (typeIn K (.ref (fiR K)) = some (.type "function"))))))))
def excB (K : Frag) (x : Str) : Bool := He.eqO (nsIn K mainGlobals x) (some (some (.ref (He.ga K x)))) && (clsB K (He.ga K x) && (He.eqO (findIn K (.ref (He.ga K x)) "__setattr__") (some (some (.builtin "object.__setattr__"))) &&
  (He.eqO (findIn K (.ref (He.ga K x)) "__getattribute__") (some (some (.builtin "BaseException.__getattribute__"))) && (He.eqO (findIn K (.ref (He.ga K x)) "__getattr__") (some none) && (He.eqO (findIn K (.ref (He.ga K x)) "what") (some none) &&
  (He.eqO (findIn K (.ref (He.ga K x)) "__init__") (some (some (.ref (fiR K)))) && (keepIn K (.ref (He.ga K x)) && (decide (subIn K (.ref (He.ga K x)) (.type "BaseException") = some true) && (decide (subIn K (.ref (He.ga K x)) (.type "ValueError") = some true) &&
  (decide (typeIn K (.ref (He.ga K x)) = some (.type "type")) && (hasDictIn K (He.ga K x) && (decide (mroIn K (He.ga K x) (.ref (He.ga K "Refused")) = some true) && He.eqO (ks_superIn K (He.ga K x) (He.ga K "Refused") "__init__") (some (some (.builtin "ValueError.__init__")))))))))))))))
theorem refT_of {prog : Program} {K : Frag} {mg : Str → Option Value} {h : Heap} {x : Str} (X : K.In h) (G : h.Ns mainGlobals mg) (hs : supB K prog.main.file = true) (hx : excB K x = true) (ht : (prog.main.scope.names.lookup ("super" : Str)).isSome = false) :
    RefT prog K mg x (He.ga K x) (He.ga K "Refused") (fiR K) (cdaR K) (ccR K) := by
  unfold supB at hs
  simp only [Bool.and_eq_true, decide_eq_true_eq] at hs
  obtain ⟨s1, s2, s3, s4, s5, s6, s7, s8⟩ := hs
  unfold excB at hx
  simp only [Bool.and_eq_true, decide_eq_true_eq] at hx
  obtain ⟨e1, e2, e3, e4, e5, e6, e7, e8, e9, e10, e11, e12, e13, e14⟩ := hx
  have hcl : ∃ cd, clsIn K (He.ga K "Refused") = some cd := by
    cases z : clsIn K (He.ga K "Refused") with
    | none => rw [z] at s5; cases s5
    | some cd => exact ⟨cd, rfl⟩
  have hfn : ∃ (oc : Value) (od : Option Addr) (doc pm : Value) (an : Option Addr) (ct : Value) (osl : Array (Option Value)) (p1 p2 q1 q2 q3 q4 q5 q6 r1 r2 r3 r4 : Pos),
      K.lookup (fiR K) = some ⟨oc, od, .func (ksFn "__init__" "Refused.__init__" (iA p1 p2) (iB q1 q2 q3 q4 q5 q6 r1 r2 r3 r4) iS .none .none doc pm an (.ref (cdaR K)) ct (ccR K)), osl⟩ ∧ codeIn K (.ref (cdaR K)) "Refused.__init__" = true ∧ (q3.endLine == q5.line) = true := by
    split at s1
    · rename_i ho
      obtain ⟨doc, pm, an, ct, p1, p2, q1, q2, q3, q4, q5, q6, r1, r2, r3, r4, rfl, hq⟩ := fdB_ok s1
      exact ⟨_, _, _, _, _, _, _, _, _, _, _, _, _, _, _, _, _, _, _, ho, s2, hq⟩
    · cases s1
  exact ⟨mg_of X G (He.eqO_ok e1), clsB_ok e2, He.eqO_ok e3, He.eqO_ok e4, He.eqO_ok e5, He.eqO_ok e6, He.eqO_ok e7, s8, e8, e9, e10, e11, e12, hfn, codB_ok s3, celB_ok s4, hcl, e13, mg_none_of X G (He.eqO_ok s6), ht, He.eqO_ok s7, He.eqO_ok e14⟩
/-! ### the Hook -/
def frY (n : Nat) (g : Addr → Option Obj) : Frag := He.frT g (cStatics :: He.asD g n)
def obsY (n : Nat) (fa : List He.Fa) (fn : List He.DefD) (tf : List He.Defn) (ex : Frag → Bool) (g : Addr → Option Obj) : He.AlX := (He.obsT fa fn [] (frY n g), ex (frY n g) && He.tabsB g tf (frY n g))
theorem saysY_of {n : Nat} {fa : List He.Fa} {fn : List He.DefD} {tf : List He.Defn} {ex : Frag → Bool} {w : World} {h : Heap} (e : obsY n fa fn tf ex h.get? = He.valX fn [] w) : He.SaysX fa fn [] tf ex w h (frY n h.get?) := by
  obtain ⟨e1, e2⟩ := Prod.mk.inj e
  simp only [Bool.and_eq_true] at e2
  have key : ∀ p ∈ tf, codeHdIn (frY n h.get?) (He.cT (frY n h.get?) p).1 (He.cT (frY n h.get?) p).2 = true ∧ ∃ o, h.get? (He.cT (frY n h.get?) p).2 = some o ∧ He.emptyTab o = true := fun p hp => by
    have z := List.all_eq_true.mp e2.2 p hp
    simp only [Bool.and_eq_true] at z
    refine ⟨z.1, ?_⟩
    have z2 := z.2
    split at z2
    · rename_i o q
      exact ⟨o, q, z2⟩
    · cases z2
  refine ⟨e1, e2.1, fun p hp => (key p hp).1, fun p hp => ?_, fun p hp => ?_⟩
  · obtain ⟨_, o, q, z⟩ := key p hp
    exact He.frT_none q z
  · obtain ⟨_, o, q, z⟩ := key p hp
    rw [q, He.emptyTab_eq z]
def hookY (n : Nat) (fa : List He.Fa) (fn : List He.DefD) (tf : List He.Defn) (ex : Frag → Bool) : Hook where
  α := He.AlX
  obs := fun s => obsY n fa fn tf ex s.heap.get?
  val := fun w => He.valX fn [] w
  says := fun w h => ∃ K : Frag, K.In h ∧ He.SaysX fa fn [] tf ex w h K
  of := fun _ _ e => ⟨_, He.frT_in, saysY_of e⟩
  keeps := fun _ _ _ ⟨K, hK, c⟩ k => ⟨K, Frag.In.keeps hK k, ⟨c.t, c.more, c.hd, c.out, fun p hp => k _ _ (c.empty p hp)⟩⟩
theorem obsY_eq {n : Nat} {fa : List He.Fa} {fn : List He.DefD} {tf : List He.Defn} {ex : Frag → Bool} {g : Addr → Option Obj} {s : Shared} (h : ∀ a, g a = s.heap.get? a) : obsY n fa fn tf ex g = (hookY n fa fn tf ex).obs s := by
  rw [funext h]
  rfl
end Fv
set_option Elab.async false
set_option linter.all false
set_option maxRecDepth 100000
set_option maxHeartbeats 2000000
/-! Fv, 26: the entry: a law's whole proof out of its texts' checks and of what its run answers. -/
namespace Fv
open PySem PySem.Spec PyProof.Rows L2 PySem.W PySem.HandSPX
/-! ### constants of the module -/
mutual
def valB (K : Frag) : D → Value → Bool
  | .non, v => (match v with | .none => true | _ => false)
  | .bl b, v => (match v with | .bool c => b == c | _ => false)
  | .int i, v => (match v with | .int j _ => decide (i = j) | _ => false)
  | .str x, v => (match v with | .str y _ => decide (x = y) && sok x | _ => false)
  | .tup ds, v => (match v with
    | .ref a => (match K.lookup a with
      | some ⟨.type c, _, .seq its _, _⟩ => decide (c = "tuple") && (decide (its.size ≤ sizeLine) && valsB K ds its.toList)
      | _ => false)
    | _ => false)
  | .ref _, _ => false
  | .fn _, _ => false
  | .frl _, _ => false
def valsB (K : Frag) : List D → List Value → Bool
  | [], vs => vs.isEmpty
  | d :: ds, vs => (match vs with
    | v :: r => valB K d v && valsB K ds r
    | [] => false)
end
mutual
theorem valB_ok {K : Frag} : ∀ (d : D) (v : Value), valB K d v = true → ∃ u : V, RelV u v ∧ ∀ G : Gc, G.K = K → ∀ ρ H, RD G ρ H d u
  | .non, v, h => by
    rw [valB.eq_def] at h
    dsimp only at h
    split at h
    · exact ⟨.non, rfl, fun _ _ _ _ => rfl⟩
    · cases h
  | .bl b, v, h => by
    rw [valB.eq_def] at h
    dsimp only at h
    split at h
    · cases beq_iff_eq.mp h
      exact ⟨.bl b, rfl, fun _ _ _ _ => rfl⟩
    · cases h
  | .int i, v, h => by
    rw [valB.eq_def] at h
    dsimp only at h
    split at h
    · cases of_decide_eq_true h
      exact ⟨.int i, ⟨_, rfl⟩, fun _ _ _ _ => rfl⟩
    · cases h
  | .str x, v, h => by
    rw [valB.eq_def] at h
    dsimp only at h
    split at h
    · simp only [Bool.and_eq_true, decide_eq_true_eq] at h
      obtain ⟨rfl, h⟩ := h
      exact ⟨.str x, ⟨_, rfl⟩, fun _ _ _ _ => ⟨rfl, h⟩⟩
    · cases h
  | .tup ds, v, h => by
    rw [valB.eq_def] at h
    dsimp only at h
    split at h
    · rename_i a
      split at h
      · rename_i c od its n sl ho
        simp only [Bool.and_eq_true, decide_eq_true_eq] at h
        obtain ⟨rfl, hz, h⟩ := h
        obtain ⟨us, r, k⟩ := valsB_ok ds its.toList h
        refine ⟨.ref a, rfl, fun G hG ρ H => ⟨a, us, rfl, ?_, k G hG ρ H⟩⟩
        subst hG
        exact .inr ⟨_, its, n, ho, rfl, rfl, hz, r⟩
      · cases h
    · cases h
  | .ref _, _, h => by rw [valB.eq_def] at h; cases h
  | .fn _, _, h => by rw [valB.eq_def] at h; cases h
  | .frl _, _, h => by rw [valB.eq_def] at h; cases h
theorem valsB_ok {K : Frag} : ∀ (ds : List D) (vs : List Value), valsB K ds vs = true → ∃ us : List V, Vals us vs ∧ ∀ G : Gc, G.K = K → ∀ ρ H, RDs G ρ H ds us
  | [], vs, h => by
    rw [valsB.eq_def] at h
    cases vs with
    | nil => exact ⟨[], .nil, fun _ _ _ _ => rfl⟩
    | cons _ _ => cases h
  | d :: ds, vs, h => by
    rw [valsB.eq_def] at h
    cases vs with
    | nil => cases h
    | cons v r =>
      have h' : (valB K d v && valsB K ds r) = true := h
      simp only [Bool.and_eq_true] at h'
      obtain ⟨u, h1, k1⟩ := valB_ok d v h'.1
      obtain ⟨us, h2, k2⟩ := valsB_ok ds r h'.2
      exact ⟨u :: us, .cons h1 h2, fun G hG ρ H => ⟨u, us, rfl, k1 G hG ρ H, k2 G hG ρ H⟩⟩
end
def conB (K : Frag) (x : String) (d : D) : Bool := match nsIn K mainGlobals (so x) with
  | some (some v) => valB K d v
  | _ => false
/-! ### a law's defs -/
structure Dn where
  x : String
  fd : FD
  N : List Str
  lm : Bool
def prmB (a : Arguments) (ps : List Str) : Bool := match a with
  | ⟨[], ar, none, [], [], none, []⟩ => decide (ar.map (·.arg) = ps)
  | _ => false
theorem prmB_ok {a : Arguments} {ps : List Str} (h : prmB a ps = true) : ∃ ar, a = ⟨[], ar, none, [], [], none, []⟩ ∧ ar.map (·.arg) = ps := by
  unfold prmB at h
  split at h
  · exact ⟨_, rfl, of_decide_eq_true h⟩
  · cases h
def isFnK : ScopeKind → Bool
  | .function => true
  | _ => false
def fscB (N ps : List Str) (sc : Scope) : Bool := isFnK sc.kind && (!sc.isCoroutine && (!sc.isGenerator && (decide N.Nodup && (decide (N.take ps.length = ps) && ((ps.all fun x => decide (sc.names.lookup x = some .local) || decide (sc.names.lookup x = some .cell)) && (sc.names.all fun y => !decide (y.2 = .free)))))))
theorem fscB_ok {N ps : List Str} {sc : Scope} (h : fscB N ps sc = true) : FnScope N ps sc := by
  unfold fscB at h
  simp only [Bool.and_eq_true, decide_eq_true_eq, Bool.not_eq_true', List.all_eq_true, Bool.or_eq_true, decide_eq_false_iff_not] at h
  obtain ⟨h1, h2, h3, h4, h5, h6, h7⟩ := h
  refine ⟨?_, h2, h3, h4, h5, h6, h7⟩
  cases e : sc.kind <;> rw [e] at h1 <;> first | rfl | cases h1
def entB (P : Pg) (d : He.DefD) (e : Dn) : Bool := decide (d.at_ = (so e.x, none)) && (decide (d.qual = so e.x) && (d.dfl.isEmpty && (d.kwd.isEmpty && (fscB e.N (e.fd.ps.map so) d.scope && (decide (e.N.length = e.fd.nl) && (prmB d.params (e.fd.ps.map so) && chkSs P ⟨true, true, e.lm⟩ e.N d.scope e.fd.body d.body))))))
def pgOf (tb : List Dn) (cs : List (String × D)) (exc : List String) : Pg := ⟨fun x => (tb.find? fun e => e.x == x).map (·.fd), fun x => cs.lookup x, exc⟩
def faOf (tb : List Dn) (exc : List String) : List He.Fa := tb.map (fun e => .glo (so e.x)) ++ ((exc.flatMap fun c => exc.map fun c' => .exm (so c) (so c') (decide (c = c') || decide (c' = "Refused"))) ++ blts.map fun x => .free (so x))
def tfOf (tb : List Dn) : List He.Defn := (tb.filter (·.lm)).map fun e => (so e.x, none)
def nodB : List Nat → Bool
  | [] => true
  | a :: l => !l.contains a && nodB l
theorem nodB_ok : ∀ {l : List Nat}, nodB l = true → l.Nodup
  | [], _ => List.nodup_nil
  | a :: l, h => by
    unfold nodB at h
    simp only [Bool.and_eq_true, Bool.not_eq_true', List.contains_eq_mem, decide_eq_false_iff_not] at h
    exact List.nodup_cons.mpr ⟨h.1, nodB_ok h.2⟩
def exOf (file : Str) (tb : List Dn) (cs : List (String × D)) (exc : List String) (K : Frag) : Bool :=
  supB K file && ((exc.all fun c => excB K (so c)) && ((cs.all fun p => conB K p.1 p.2) && nodB ((tfOf tb).map fun p => (He.cT K p).2)))
def tabsOf (K : Frag) (tf : List He.Defn) : List (Addr × Str) := tf.map fun p => ((He.cT K p).2, p.1 ++ ".<locals>." ++ "<lambda>")
theorem nodup_inj {α β : Type} {f : α → β} : ∀ {l : List α}, (l.map f).Nodup → ∀ {a b : α}, a ∈ l → b ∈ l → f a = f b → a = b
  | [], _, _, _, h, _, _ => nomatch h
  | x :: l, h, a, b, ha, hb, e => by
    rw [List.map_cons, List.nodup_cons] at h
    rcases List.mem_cons.mp ha with rfl | ha
    · rcases List.mem_cons.mp hb with rfl | hb
      · rfl
      · exact absurd (show f a ∈ l.map f from e ▸ List.mem_map_of_mem hb) h.1
    · rcases List.mem_cons.mp hb with hb | hb
      · exact absurd (show f x ∈ l.map f from by rw [← hb, ← e]; exact List.mem_map_of_mem ha) h.1
      · exact nodup_inj h.2 ha hb e
theorem lookup_memS {β : Type} {x : String} {d : β} : ∀ {l : List (String × β)}, l.lookup x = some d → (x, d) ∈ l
  | [], h => by cases h
  | (y, e) :: r, h => by
    rw [List.lookup_cons] at h
    cases q : x == y with
    | true =>
      rw [q] at h
      cases h
      rw [beq_iff_eq.mp q]
      exact List.mem_cons_self
    | false =>
      rw [q] at h
      exact List.mem_cons_of_mem _ (lookup_memS h)
section
variable {prog : Program} {w : World} {K : Frag} {mg : Str → Option Value} {h base : Heap} {tb : List Dn} {cs : List (String × D)} {exc : List String} {fn : List He.DefD}
theorem defs_of (hck : ∀ e ∈ tb, ∃ d ∈ fn, entB (pgOf tb cs exc) d e = true) (c : He.SaysX (faOf tb exc) fn [] (tfOf tb) (exOf prog.main.file tb cs exc) w h K) (hT : ∀ p ∈ (tfOf tb).map (He.cT K), LamX.TabB base mg p.1 p.2) (KX : K.In h) (G : h.Ns mainGlobals mg) :
    ∀ x fd, (pgOf tb cs exc).fn x = some fd → ∃ a fdat N lm name qual params body scope, DefOk K mg base ⟨tabsOf K (tfOf tb), pgOf tb cs exc, w⟩ x fd a fdat N lm name qual params body scope := by
  intro x fd hx
  have hx' : ((tb.find? fun e => e.x == x).map (·.fd)) = some fd := hx
  cases q : tb.find? fun e => e.x == x with
  | none => rw [q] at hx'; cases hx'
  | some e =>
    rw [q] at hx'
    obtain rfl : e.fd = fd := Option.some.inj hx'
    have he : e ∈ tb := List.mem_of_find?_eq_some q
    have hex : e.x = x := beq_iff_eq.mp (List.find?_some (p := fun e : Dn => e.x == x) q)
    subst hex
    obtain ⟨d, hd, hb⟩ := hck e he
    unfold entB at hb
    simp only [Bool.and_eq_true, decide_eq_true_eq, List.isEmpty_iff] at hb
    obtain ⟨b1, b2, b3, b4, b5, b6, b7, b8⟩ := hb
    obtain ⟨fdat, F⟩ := c.t.d.defs hd
    have e1 : d.dvs K = [] := by unfold He.DefD.dvs; rw [b3]; rfl
    have e2 : d.kws K = [] := by unfold He.DefD.kws; rw [b4]; rfl
    rw [e1, e2, b1] at F
    have hgl : mg (so e.x) = some (.ref (He.ga K (so e.x))) := He.glo_ok KX G (c.t.d.facts (List.mem_append_left _ (List.mem_map_of_mem (f := fun e : Dn => He.Fa.glo (so e.x)) he)))
    refine ⟨He.ga K (so e.x), fdat, e.N, e.lm, d.name, d.qual, d.params, d.body, d.scope, hgl, F, fscB_ok b5, b6, prmB_ok b7, b8, fun hl => ?_⟩
    have hm : (so e.x, (none : Option Str)) ∈ tfOf tb := List.mem_map.mpr ⟨e, List.mem_filter.mpr ⟨he, hl⟩, rfl⟩
    obtain ⟨oc, od, dV, kV, doc, pm, an, cdv, ct, osl, rfl, lk, hcd, _⟩ := F.ex
    obtain ⟨cc, rfl⟩ := He.codeIn_ref hcd
    have hc : He.codeOf K (so e.x, none) = cc := He.codeOf_eq (p := (so e.x, none)) lk rfl
    have hm2 := hT _ (List.mem_map_of_mem (f := He.cT K) hm)
    have hnd : ((tfOf tb).map fun p => (He.cT K p).2).Nodup := by
      have z := c.more
      unfold exOf at z
      simp only [Bool.and_eq_true] at z
      exact nodB_ok z.2.2.2
    refine ⟨cc, (He.cT K (so e.x, none)).2, rfl, ?_, ?_, ?_⟩
    · have z : (He.cT K (so e.x, none)).1 = cc := hc
      rw [← z]
      exact hm2
    · rw [b2]
      exact List.mem_map.mpr ⟨_, hm, rfl⟩
    · intro p hp hp1
      obtain ⟨y, hy, rfl⟩ := List.mem_map.mp hp
      have := nodup_inj hnd hy hm hp1
      rw [this, b2]
theorem lawR_of (c : He.SaysX (faOf tb exc) fn [] (tfOf tb) (exOf prog.main.file tb cs exc) w h K) (KX : K.In h) (G : h.Ns mainGlobals mg) (htop : (prog.main.scope.names.lookup ("super" : Str)).isSome = false) :
    LawR prog w K mg base ⟨tabsOf K (tfOf tb), pgOf tb cs exc, w⟩ := by
  have z := c.more
  unfold exOf at z
  simp only [Bool.and_eq_true] at z
  obtain ⟨z1, z2, z3, z4⟩ := z
  have hR : RefX prog K mg exc := fun x hx => ⟨_, _, _, _, _, refT_of KX G z1 (List.all_eq_true.mp z2 x hx) htop⟩
  have hexc : ∀ x ∈ exc, mg (so x) = some (.ref (He.ga K (so x))) := fun x hx => (refT_of KX G z1 (List.all_eq_true.mp z2 x hx) htop).gC
  refine ⟨fun X h1 h2 h3 h4 h5 => ?_, fun X h1 h2 h3 h4 h5 => ?_, fun X h1 h2 h3 h4 h5 => ?_⟩
  · refine ⟨h2, fun x x' C C' hx hx' e e' => ?_, fun x hx => ⟨_, by rw [h4]; exact hexc x hx⟩, fun x hx => ?_, fun x d hd => ?_⟩
    · rw [h4] at e e'
      cases e.symm.trans (hexc x hx)
      cases e'.symm.trans (hexc x' hx')
      rw [h3]
      exact He.exm_ok (c.t.d.facts (List.mem_append_right _ (List.mem_append_left _ (List.mem_flatMap.mpr ⟨x, hx, List.mem_map.mpr ⟨x', hx', rfl⟩⟩))))
    · rw [h4]
      exact He.free_ok KX G (c.t.d.facts (List.mem_append_right _ (List.mem_append_right _ (List.mem_map.mpr ⟨x, hx, rfl⟩))))
    · have hd' : cs.lookup x = some d := hd
      have hb := List.all_eq_true.mp z3 (x, d) (lookup_memS hd')
      unfold conB at hb
      split at hb
      · rename_i v hv
        obtain ⟨u, r1, r2⟩ := valB_ok d v hb
        exact ⟨v, u, by rw [h4]; exact mg_of KX G hv, r1, fun ρ H => r2 _ h3 ρ H⟩
      · cases hb
  · subst h1 h3 h4
    exact mks_of hR
  · subst h1 h3 h4
    exact what_of hR
end
end Fv
set_option Elab.async false
set_option linter.all false
set_option maxRecDepth 100000
set_option maxHeartbeats 2000000
/-! Fv, 27: the entry's end, where no repr is under way. -/
namespace Fv
open PySem PySem.Spec PyProof.Rows L2 PySem.W PySem.HandSPX
/-- the script as the law meets it -/
def Scr (ns : List Int) (d : D) (F : FH) : Prop := (d = .frl (ns.map .int) ∧ F = []) ∨ (d = .ref 0 ∧ F = [.lst (ns.map .int)])
/-- what the run of the law is to answer -/
def RunT (P : Pg) (n : Nat) : Prop := ∀ (ns : List Int) (d : D) (F : FH), ns.length ≤ 63 → (∀ z ∈ ns, Builtin.Int.intBits z ≤ 1048576) → Scr ns d F → ∃ F', run P n (.fn "law") [.d d] F = .ok (.bl true) F'
theorem rds_ints {G : Gc} {ρ : List Addr} {H : Hp} : ∀ ns : List Int, RDs G ρ H (ns.map .int) (ns.map V.int)
  | [] => rfl
  | n :: ns => ⟨.int n, ns.map V.int, rfl, rfl, rds_ints ns⟩
/-! ### an abstract heap that tracks nothing but the script and tables -/
/-- every tracked object is a sequence or an empty table -/
def Few (h : Heap) (H : Hp) : Prop := ∀ b u, H b = some u → ∃ o, h.get? b = some o ∧ ((∃ xs m, o.data = .seq xs m) ∨ o.data = .fields #[])
section
variable {h : Heap} {H : Hp}
theorem Few.un (T : Few h H) {b : Addr} {o : Obj} (e : h.get? b = some o) (n1 : ∀ xs m, o.data ≠ .seq xs m) (n2 : o.data ≠ .fields #[]) : H b = none := by
  cases q : H b with
  | none => rfl
  | some u =>
    obtain ⟨o', e', d⟩ := T b u q
    cases e.symm.trans e'
    rcases d with ⟨xs, m, d⟩ | d
    · exact absurd d (n1 xs m)
    · exact absurd d n2
theorem Few.ns (T : Few h H) {b : Addr} {m : Str → Option Value} : h.Ns b m → (hidT h H).Ns b m := fun ⟨o, es, ep, e, d, r⟩ =>
  ⟨o, es, ep, hidT_get e (T.un e (fun _ _ z => by rw [d] at z; cases z) fun z => by rw [d] at z; cases z), d, r⟩
theorem Few.kin (T : Few h H) {K : Frag} (KX : K.In h) (hn : ∀ b, H b ≠ none → K.lookup b = none) : K.In (hidT h H) := fun b o e => hidT_get (KX b o e) (by
  cases q : H b with
  | none => rfl
  | some u =>
    have z := hn b (by rw [q]; exact fun z => nomatch z)
    rw [e] at z
    cases z)
theorem Few.tabB (T : Few h H) {mg : Str → Option Value} {c q : Addr} (hq : h.get? q = some { cls := .none, data := .fields #[] }) (C : CodeHd h c q) (hns : h.Ns mainGlobals mg)
    (hbm : ∃ (m : Addr) (om : Obj), mg "__builtins__" = some (.ref m) ∧ m ≠ builtinsNs ∧ h.get? m = some om ∧ om.cls = .type "module" ∧ om.dict = some builtinsNs ∧ om.data = .plain) : LamX.TabB (hidT h H) mg c q := by
  obtain ⟨og, eg, pg, hg1, hg2, _⟩ := hns
  have ng : mainGlobals ≠ q := fun z => by
    rw [z] at hg1
    cases hg1.symm.trans hq
    cases hg2
  obtain ⟨m, om, m1, m2, m3, m4, m5, m6⟩ := hbm
  have hm : H m = none := T.un m3 (fun _ _ z => by rw [m6] at z; cases z) fun z => by rw [m6] at z; cases z
  have nm : m ≠ mainGlobals := fun z => by
    rw [z] at m3
    cases m3.symm.trans hg1
    rw [m6] at hg2
    cases hg2
  have nq : m ≠ q := fun z => by
    rw [z] at m3
    cases m3.symm.trans hq
    cases m6
  obtain ⟨o, us, file, tf, flags, tg, inF, text, tt, e1, r1, r2, r3, rest⟩ := C
  have hc : H c = none := T.un e1 (fun _ _ z => by rw [r2] at z; cases z) fun z => by
    rw [r2] at z
    cases z
    simp at r3
  exact ⟨⟨o, us, file, tf, flags, tg, inF, text, tt, hidT_get e1 hc, r1, r2, r3, rest⟩, ⟨m, om, m1, m2, nm, nq, hidT_get m3 hm, m4, m5, m6⟩, ng⟩
end
section
variable {P : Program} {w : World} {K : Frag} {mg mb : Str → Option Value}
def spS (K : Frag) (ts : List (Addr × Addr)) : Sp := fun vs H Q _ => ∃ (a : Addr) (ns : List Int), vs = [.ref a] ∧ ns.length ≤ 63 ∧ (∀ z ∈ ns, Builtin.Int.intBits z ≤ 1048576) ∧ (∀ p ∈ ts, H p.2 = some (.tbl #[])) ∧ SqL K H a (ns.map V.int) ∧ ∀ H', Q (.bl true) H'
/-- what is tracked at the law's call: the tables, and the script where the head does not know it -/
def lawH (K : Frag) (ts : List (Addr × Addr)) (a : Addr) (o : Obj) (ns : List Int) : Hp := fun b =>
  if b ∈ ts.map (·.2) then some (.tbl #[]) else if b = a ∧ (K.lookup a).isNone = true then some (.frz o (.lst (ns.map V.int))) else none
theorem lawH_cases {K : Frag} {ts : List (Addr × Addr)} {a : Addr} {o : Obj} {ns : List Int} {b : Addr} {u : HO} (e : lawH K ts a o ns b = some u) : (b ∈ ts.map (·.2) ∧ u = .tbl #[]) ∨ (b ∉ ts.map (·.2) ∧ b = a ∧ K.lookup a = none ∧ u = .frz o (.lst (ns.map V.int))) := by
  unfold lawH at e
  split at e
  · rename_i hm
    exact .inl ⟨hm, (Option.some.inj e).symm⟩
  · rename_i hm
    split at e
    · rename_i hk
      exact .inr ⟨hm, hk.1, Option.isNone_iff_eq_none.mp hk.2, (Option.some.inj e).symm⟩
    · cases e
/-- the law, called by the one who claims: where no repr is under way -/
theorem law_end {k : Nat} {fa a : Addr} {ts : List (Addr × Addr)} {fd : FuncData} {st : Shared} {vs : List Value} {ns : List Int} (hr : RmG k callerA) (KX : K.In st.heap) (hns : st.heap.Ns mainGlobals mg) (hb : st.heap.Ns builtinsNs mb)
    (hbb : ∀ x : Str, x ≠ "__name__" → mb x = bootBuiltins x) (hlim : st.heap.NoLimit) (hgen : st.gens = #[]) (hts : ∀ p ∈ ts, st.heap.get? p.2 = some { cls := .none, data := .fields #[] } ∧ K.lookup p.2 = none ∧ CodeHd st.heap p.1 p.2)
    (hbm : ∃ (m : Addr) (om : Obj), mg "__builtins__" = some (.ref m) ∧ m ≠ builtinsNs ∧ st.heap.get? m = some om ∧ om.cls = .type "module" ∧ om.dict = some builtinsNs ∧ om.data = .plain)
    (ha : st.heap.get? a = some { cls := .type "list", data := .seq vs.toArray }) (hi : IntsAre vs ns) (hl : ns.length ≤ 63) (hbits : ∀ z ∈ ns, Builtin.Int.intBits z ≤ 1048576)
    (F : ∀ base : Heap, K.In base → base.Ns mainGlobals mg → (∀ p ∈ ts, LamX.TabB base mg p.1 p.2) → FnG P w K mg base (L2.CX P w) k fa fd ["script"] (spS K ts)) (hbind : ∀ (s : Shared) (u : Value), BindsTo s fd ⟨[u], []⟩ [("script", u)]) :
    codeAny (model P w) callerA (.call (.ref fa) ⟨[.ref a], []⟩) (fun r s' => r = .ok (.ret (.bool true)) ∧ OldK st.heap s'.heap ∧ s'.os = st.os ∧ AllBare s'.gens) st := by
  have hsz : ns.length ≤ sizeLine := Nat.le_trans hl (by decide)
  have table : ∀ b ∈ ts.map (·.2), st.heap.get? b = some { cls := .none, data := .fields #[] } ∧ K.lookup b = none := fun b hb => by
    obtain ⟨p, hp, rfl⟩ := List.mem_map.mp hb
    exact ⟨(hts p hp).1, (hts p hp).2.1⟩
  have hat : a ∉ ts.map (·.2) := fun z => by
    cases (table a z).1.symm.trans ha
  obtain ⟨H, hH⟩ : ∃ H, H = lawH K ts a { cls := .type "list", data := .seq vs.toArray } ns := ⟨_, rfl⟩
  have few : Few st.heap H := fun b u e => by
    rw [hH] at e
    rcases lawH_cases e with ⟨hm, _⟩ | ⟨_, rfl, _⟩
    · exact ⟨_, (table b hm).1, .inr rfl⟩
    · exact ⟨_, ha, .inl ⟨_, _, rfl⟩⟩
  have unK : ∀ b, H b ≠ none → K.lookup b = none := fun b z => by
    cases q : H b with
    | none => exact absurd q z
    | some u =>
      rw [hH] at q
      rcases lawH_cases q with ⟨hm, _⟩ | ⟨_, rfl, hk, _⟩
      · exact (table b hm).2
      · exact hk
  have hok : HOk P w H st.heap := fun b u e => by
    rw [hH] at e
    rcases lawH_cases e with ⟨hm, rfl⟩ | ⟨_, rfl, _, rfl⟩
    · exact (table b hm).1
    · exact ⟨ha, by rw [List.length_map]; exact hsz, vs, _, vals_ints hi, ha⟩
  have tbl : ∀ p ∈ ts, H p.2 = some (.tbl #[]) := fun p hp => by
    rw [hH]
    exact if_pos (List.mem_map.mpr ⟨p, hp, rfl⟩)
  have scr : SqL K H a (ns.map V.int) := by
    cases hk : K.lookup a with
    | none =>
      refine .inl (.inr ⟨{ cls := .type "list", data := .seq vs.toArray }, ?_⟩)
      rw [hH]
      exact (if_neg hat).trans (if_pos ⟨rfl, by rw [hk]; rfl⟩)
    | some o =>
      cases (KX a o hk).symm.trans ha
      exact .inr ⟨_, vs.toArray, _, hk, rfl, rfl, rfl, by rw [List.size_toArray, hi.length]; exact hsz, vals_ints hi⟩
  have kb : K.In (hidT st.heap H) := few.kin KX unK
  have nb : (hidT st.heap H).Ns mainGlobals mg := few.ns hns
  have lim : (hidT st.heap H).NoLimit := let ⟨m, h1, h2⟩ := hlim; ⟨m, few.ns h1, h2⟩
  have e0 : Env0 P w K mg (hidT st.heap H) callerA [] st H :=
    ⟨rfl, ⟨kb, nb, ⟨mb, few.ns hb, hbb⟩, lim⟩, fun _ _ e => of_hidT e, Nat.le_of_eq (hidT_size _ _), trivial, fun _ z => (nomatch z), hok, AllBare.of_eq hgen⟩
  have call := (F _ kb nb fun p hp => few.tabB (hts p hp).1 (hts p hp).2.2 hns hbm).run callerA [] st H ⟨[.ref a], []⟩ [.ref a] [.ref a] (fun v _ => v = .bl true) (fun _ _ _ => False) hr e0 (hbind st (.ref a)) (.cons rfl .nil)
    ⟨a, ns, rfl, hl, hbits, tbl, scr, fun _ => rfl⟩
  refine codeAny_mono call fun r s' q => ?_
  match r, q with
  | .error e, q => exact (q.elim fun _ z => z.elim fun _ z => z.elim fun _ z => z.elim fun _ z => z.elim fun _ z => z.2.2.2.2.2.2.2 : False).elim
  | .ok .next, q => exact False.elim q
  | .ok .brk, q => exact False.elim q
  | .ok .cont, q => exact False.elim q
  | .ok (.ret u), ⟨v, H', os, bare, un, hok', rv, q⟩ =>
    cases (show v = .bl true from q)
    cases (show u = Value.bool true from rv)
    have same : ∀ b o, b ∉ ts.map (·.2) → st.heap.get? b = some o → s'.heap.get? b = some o := fun b o nb e => by
      cases q : H b with
      | none => exact un.keep b o e q (fun z => (nomatch z)) (fun z => (nomatch z))
      | some u =>
        have q' := q
        rw [hH] at q'
        rcases lawH_cases q' with ⟨hm, _⟩ | ⟨_, rfl, _, rfl⟩
        · exact absurd hm nb
        · cases e.symm.trans ha
          exact (hok' _ _ (un.frzs _ _ _ q)).1
    refine ⟨rfl, ⟨fun b o e => ?_, fun b o e => ?_⟩, os, bare⟩
    all_goals
      by_cases hb : b ∈ ts.map (·.2)
      · obtain ⟨p, hp, rfl⟩ := List.mem_map.mp hb
        obtain ⟨more, z⟩ := un.tbls p.2 #[] (tbl p hp)
        have z' : s'.heap.get? p.2 = some { cls := .none, data := .fields (#[] ++ more) } := hok' p.2 _ z
        first
          | exact ⟨_, z'⟩
          | (cases e.symm.trans (hts p hp).1
             exact .inr (.inl ⟨((hts p hp).2.2.tab (hts p hp).1).isCodeTable, rfl, #[], more, rfl, z'⟩))
      · first
          | exact .inl (same b o hb e)
          | exact ⟨o, same b o hb e⟩
end
/-- what is known of the law at the head's heap h -/
def LawG (l : OpenLaw) (w : World) (K : Frag) (k : Nat) (mg : Str → Option Value) (fa : Addr) (h : Heap) : Prop :=
  ∃ (fd : FuncData) (ts : List (Addr × Addr)), (∀ p ∈ ts, h.get? p.2 = some { cls := .none, data := .fields #[] } ∧ K.lookup p.2 = none ∧ CodeHd h p.1 p.2) ∧ (∀ (s : Shared) (u : Value), BindsTo s fd ⟨[u], []⟩ [("script", u)]) ∧
    ∀ base : Heap, K.In base → base.Ns mainGlobals mg → (∀ p ∈ ts, LamX.TabB base mg p.1 p.2) → FnG l.prog w K mg base (L2.CX l.prog w) k fa fd ["script"] (spS K ts)
theorem walk_G {l : OpenLaw} {k : Nat} {q : Program} {loose : List Str} {XP : (Str → Option Value) → Heap → Prop} {YP : World → Heap → Prop} {d : DefRec} (hn : l.most = some 63) (hdf : d.params.defaults = []) (hr : RmG k callerA)
    (F : ∀ (w : World) (mg : Str → Option Value) (fa : Addr) (h : Heap), YP w h → h.Ns mainGlobals mg → mg d.name = some (.ref fa) → ∃ K : Frag, K.In h ∧ LawG l w K k mg fa h) : WalkO q loose XP YP l.row.toRowW d [] (fun f vs => PySem.call f vs) := by
  refine Att.attach_callB hn hdf fun w _ st mg mb fa _ _ _ _ a vs ns G Y _ _ _ hmg ha hi hl hbits hg => ?_
  obtain ⟨K, KX, fd, ts, h1, h2, h3⟩ := F w mg fa _ Y G.T.g hmg
  exact law_end hr KX G.T.g G.T.b G.T.builtins G.T.nolimit hg h1 G.T.bmain ha hi hl hbits h3 h2
section
variable {l : OpenLaw} {w : World} {K : Frag} {mg : Str → Option Value} {h : Heap} {tb : List Dn} {cs : List (String × D)} {exc : List String} {fn : List He.DefD}
theorem law_at {n : Nat} {fd : FD} {fa : Addr} (hck : ∀ e ∈ tb, ∃ d ∈ fn, entB (pgOf tb cs exc) d e = true) (c : He.SaysX (faOf tb exc) fn [] (tfOf tb) (exOf l.prog.main.file tb cs exc) w h K) (KX : K.In h) (G : h.Ns mainGlobals mg)
    (htop : (l.prog.main.scope.names.lookup ("super" : Str)).isSome = false) (hl : (pgOf tb cs exc).fn "law" = some fd) (hps : fd.ps = ["script"]) (hfa : mg ("law" : Str) = some (.ref fa)) (hrun : RunT (pgOf tb cs exc) n) :
    LawG l w K n mg fa h := by
  have hl' : ((tb.find? fun e => e.x == "law").map (·.fd)) = some fd := hl
  obtain ⟨e, he, hex, hfd⟩ : ∃ e ∈ tb, e.x = "law" ∧ e.fd = fd := by
    cases q : tb.find? fun e => e.x == "law" with
    | none => rw [q] at hl'; cases hl'
    | some e =>
      rw [q] at hl'
      exact ⟨e, List.mem_of_find?_eq_some q, beq_iff_eq.mp (List.find?_some (p := fun e : Dn => e.x == "law") q), Option.some.inj hl'⟩
  obtain ⟨d, hd, hb⟩ := hck e he
  unfold entB at hb
  simp only [Bool.and_eq_true, decide_eq_true_eq, List.isEmpty_iff] at hb
  obtain ⟨b1, b2, b3, b4, b5, b6, b7, b8⟩ := hb
  obtain ⟨fdat, F⟩ := c.t.d.defs hd
  have e1 : d.dvs K = [] := by unfold He.DefD.dvs; rw [b3]; rfl
  have e2 : d.kws K = [] := by unfold He.DefD.kws; rw [b4]; rfl
  rw [e1, e2, b1, hex] at F
  have hfa' : He.ga K "law" = fa := by
    have z : mg (so e.x) = some (.ref (He.ga K (so e.x))) := He.glo_ok KX G (c.t.d.facts (List.mem_append_left _ (List.mem_map_of_mem (f := fun e : Dn => He.Fa.glo (so e.x)) he)))
    rw [hex] at z
    have z2 : mg ("law" : Str) = some (.ref (He.ga K "law")) := z
    rw [hfa] at z2
    cases z2
    rfl
  have F' : FunD K d.name d.qual d.params d.body d.scope [] [] fa fdat := by rw [← hfa']; exact F
  obtain ⟨oc, od, dV, kV, doc, pm, an, cdv, ct, osl, efd, lk, hcd, hD, _⟩ := F'.ex
  obtain ⟨ar, hp1, hp2⟩ := prmB_ok b7
  rw [hfd, hps] at hp2
  have hdV : dV = .none := by
    rcases hD with ⟨_, e⟩ | ⟨e, _⟩
    · exact e
    · exact absurd rfl e
  have hbind : ∀ (s : Shared) (u : Value), BindsTo s fdat ⟨[u], []⟩ [("script", u)] := fun s u => by
    refine .of_eq (binds_gen fdat ar (by rw [efd]; exact hp1) (by rw [efd]; exact hdV) hp2 [u] [] [u] (Nat.le_refl 1) (by simp) (by simp) rfl fun i p v e1 e2 => ?_)
    cases i with
    | zero =>
      cases e1
      cases e2
      rfl
    | succ i => cases e2
  refine ⟨fdat, (tfOf tb).map (He.cT K), fun p hp => ?_, hbind, fun base KB GB hT => ?_⟩
  · obtain ⟨q, hq, rfl⟩ := List.mem_map.mp hp
    exact ⟨c.empty q hq, c.out q hq, codeHd_of_K KX (c.hd q hq)⟩
  have L : LawR l.prog w K mg base ⟨tabsOf K (tfOf tb), pgOf tb cs exc, w⟩ := lawR_of c KX G htop
  have Df := defs_of (base := base) hck c hT KX G
  refine ⟨fun vs H Q E ⟨a, ns, q, _⟩ => by rw [q]; rfl, fun A outer s H args us vs Q E hr he hbd hv hsp => ?_⟩
  obtain ⟨X, x1, x2, x3, x4, x5⟩ : ∃ X : Cx, X.prog = l.prog ∧ X.w = w ∧ X.K = K ∧ X.mg = mg ∧ X.base = base := ⟨cxOf (L2.CX l.prog w) l.prog w K mg base [] Str.empty iS 0 .none A outer s H E, rfl, rfl, rfl, rfl, rfl⟩
  obtain ⟨a1, fdat1, F1⟩ := (fns_all L Df n).1 X x1 x2 x3 x4 x5 "law" fd hl
  have ea : a1 = fa := by
    have z := F1.mg
    rw [x4] at z
    cases z.symm.trans hfa
    rfl
  subst ea
  have ef : fdat1 = fdat := by
    obtain ⟨oc', od', osl', z⟩ := F1.lk
    rw [x3, lk] at z
    cases z
    rfl
  subst ef
  have ok := F1.ok
  rw [x1, x2, x3, x4, x5] at ok
  have eps : fd.ps.map so = [("script" : Str)] := by rw [hps]; rfl
  rw [eps] at ok
  refine ok.run A outer s H args us vs Q E hr he hbd hv ?_
  obtain ⟨a, ns, rfl, hlen, hbits, htbl, hS, hQ⟩ := hsp
  have gX : gc X ⟨tabsOf K (tfOf tb), pgOf tb cs exc, w⟩ = ⟨K, mg, ⟨tabsOf K (tfOf tb), pgOf tb cs exc, w⟩, base⟩ := by unfold gc; rw [x3, x4, x5]
  have htabs : LamX.Tabs (tabsOf K (tfOf tb)) H := fun p hp => by
    obtain ⟨q, hq, rfl⟩ := List.mem_map.mp hp
    exact LamX.TabS.nil (htbl _ (List.mem_map_of_mem (f := He.cT K) hq))
  rw [gX]
  refine ⟨by rw [hps]; rfl, ?_⟩
  have fin : ∀ (d : D) (F : FH) (ρ : List Addr), Scr ns d F → RH ⟨K, mg, ⟨tabsOf K (tfOf tb), pgOf tb cs exc, w⟩, base⟩ ρ H F → RD ⟨K, mg, ⟨tabsOf K (tfOf tb), pgOf tb cs exc, w⟩, base⟩ ρ H d (.ref a) →
      ∃ ρ F us, RH ⟨K, mg, ⟨tabsOf K (tfOf tb), pgOf tb cs exc, w⟩, base⟩ ρ H F ∧ RSs ⟨K, mg, ⟨tabsOf K (tfOf tb), pgOf tb cs exc, w⟩, base⟩ none ρ H us [.ref a] ∧ Sat ⟨K, mg, ⟨tabsOf K (tfOf tb), pgOf tb cs exc, w⟩, base⟩ ρ H (fun c d _ H' => E c d H') [] (run (pgOf tb cs exc) n (.fn "law") us F) fun d ρ' H' _ => ∀ v, RD ⟨K, mg, ⟨tabsOf K (tfOf tb), pgOf tb cs exc, w⟩, base⟩ ρ' H' d v → Q v H' :=
    fun d F ρ hs hF hd => by
      obtain ⟨F', hr⟩ := hrun ns d F hlen hbits hs
      refine ⟨ρ, F, [.d d], hF, .cons hd .nil, ?_⟩
      rw [hr]
      intro ρ' H' _ _ v hv
      cases (show v = .bl true from hv)
      exact hQ H'
  rcases hS with (hS | ⟨o, hS⟩) | hS
  · refine fin (.ref 0) [.lst (ns.map .int)] [a] (.inr ⟨rfl, rfl⟩) ⟨rfl, by simp, fun n b o e1 e2 => ?_, htabs⟩ ⟨a, rfl, rfl⟩
    cases n with
    | zero =>
      cases e1
      cases e2
      exact ⟨_, hS, rds_ints ns⟩
    | succ n => cases e2
  · exact fin (.frl (ns.map .int)) [] [] (.inl ⟨rfl, rfl⟩) ⟨rfl, by simp, (fun n b o e1 e2 => by cases e2), htabs⟩ ⟨a, _, rfl, .inl ⟨o, hS⟩, rds_ints ns⟩
  · exact fin (.frl (ns.map .int)) [] [] (.inl ⟨rfl, rfl⟩) ⟨rfl, by simp, (fun n b o e1 e2 => by cases e2), htabs⟩ ⟨a, _, rfl, .inr hS, rds_ints ns⟩
end
/-- the checks of all defs, out of one computation -/
theorem zip_left {α β : Type} : ∀ {l : List α} {m : List β}, l.length = m.length → ∀ {a : α}, a ∈ l → ∃ b ∈ m, (a, b) ∈ l.zip m
  | [], _, _, _, h => nomatch h
  | x :: l, [], e, _, _ => nomatch e
  | x :: l, y :: m, e, a, h => by
    rcases List.mem_cons.mp h with rfl | h
    · exact ⟨y, List.mem_cons_self, List.mem_cons_self⟩
    · obtain ⟨b, h1, h2⟩ := zip_left (Nat.succ.inj e) h
      exact ⟨b, List.mem_cons_of_mem _ h1, List.mem_cons_of_mem _ h2⟩
theorem hck_of {P : Pg} {tb : List Dn} {fn : List He.DefD} (h : (tb.length == fn.length && (tb.zip fn).all fun p => entB P p.2 p.1) = true) : ∀ e ∈ tb, ∃ d ∈ fn, entB P d e = true := fun e he => by
  rw [Bool.and_eq_true] at h
  obtain ⟨d, h1, h2⟩ := zip_left (beq_iff_eq.mp h.1) he
  exact ⟨d, h1, List.all_eq_true.mp h.2 _ h2⟩
end Fv
set_option Elab.async false
set_option linter.all false
set_option maxRecDepth 100000
/-! Pd: shared defs as terms. Printed by genpd.py. -/
namespace Fv
open PySem
abbrev con_MOST_THINGS : D := .int 24
abbrev con_MOST_ROOMS : D := .int 4
abbrev con_APART : D := .tup [.str (so "apart"), .int 0]
abbrev con_MOST_STALLS : D := .int 4
abbrev con_MOST_SHARED : D := .int 8
abbrev con_LEAST_STALLS : D := .int 2
def fd_is_whole : FD := ⟨["value"], 1,
  [.ret (.and (.isi (.var 0) "int") (.not (.isi (.var 0) "bool")))]⟩
structure Has_is_whole (P : Pg) : Prop where
  self : P.fn "is_whole" = some fd_is_whole
def fd_made_rooms : FD := ⟨["thing"], 3,
  [.ite (.not (.isi (.var 0) "tuple")) [.raise "BadRooms" (.neg (.int 1))] [],
   .ite (.cmp .gt (.bi .len [(.var 0)]) (.glob "MOST_THINGS")) [.raise "TooMany" (.bi .len [(.var 0)])] [],
   .for_ (.tup [1, 2]) .enum [(.var 0)] [.ite (.or (.not (.call "is_whole" [(.var 2)])) (.not (.chain .le .le (.int 0) (.var 2) (.glob "MOST_ROOMS")))) [.raise "BadRooms" (.var 1)] []],
   .ret (.var 0)]⟩
structure Has_made_rooms (P : Pg) : Prop where
  self : P.fn "made_rooms" = some fd_made_rooms
  is_whole : Has_is_whole P
  MOST_THINGS : P.con "MOST_THINGS" = some con_MOST_THINGS
  MOST_ROOMS : P.con "MOST_ROOMS" = some con_MOST_ROOMS
def fd_is_rooms : FD := ⟨["thing"], 2,
  [.ite (.or (.not (.isi (.var 0) "tuple")) (.cmp .gt (.bi .len [(.var 0)]) (.glob "MOST_THINGS"))) [.ret (.bl false)] [],
   .ret (.cmp .eq (.comp [1] (.var 1) (.nm 1) .plain [(.var 0)] [(.or (.not (.call "is_whole" [(.var 1)])) (.not (.chain .le .le (.int 0) (.var 1) (.glob "MOST_ROOMS"))))]) (.lst []))]⟩
structure Has_is_rooms (P : Pg) : Prop where
  self : P.fn "is_rooms" = some fd_is_rooms
  is_whole : Has_is_whole P
  MOST_THINGS : P.con "MOST_THINGS" = some con_MOST_THINGS
  MOST_ROOMS : P.con "MOST_ROOMS" = some con_MOST_ROOMS
def fd_is_place : FD := ⟨["rooms", "x", "place"], 5,
  [.ite (.cmp .is (.var 2) .non) [.ret (.bl true)] [],
   .ite (.or (.not (.isi (.var 2) "tuple")) (.or (.cmp .ne (.bi .len [(.var 2)]) (.int 2)) (.or (.not (.call "is_whole" [(.idx (.var 2) (.int 0))])) (.not (.call "is_whole" [(.idx (.var 2) (.int 1))]))))) [.ret (.bl false)] [],
   .asg (.tup [3, 4]) (.var 2),
   .ret (.and (.chain .le .lt (.int 0) (.var 3) (.bi .len [(.var 0)])) (.and (.cmp .ne (.var 3) (.var 1)) (.chain .le .lt (.int 0) (.var 4) (.idx (.var 0) (.var 3)))))]⟩
structure Has_is_place (P : Pg) : Prop where
  self : P.fn "is_place" = some fd_is_place
  is_whole : Has_is_whole P
def fd_lies_in_itself : FD := ⟨["forest", "x"], 4,
  [.asg (.nm 2) (.var 1),
   .for_ (.nm 3) .range [(.bi .len [(.var 0)])] [.ite (.cmp .is (.idx (.var 0) (.var 2)) .non) [.ret (.bl false)] [], .asg (.nm 2) (.idx (.idx (.var 0) (.var 2)) (.int 0)), .ite (.cmp .eq (.var 2) (.var 1)) [.ret (.bl true)] []],
   .ret (.bl false)]⟩
structure Has_lies_in_itself (P : Pg) : Prop where
  self : P.fn "lies_in_itself" = some fd_lies_in_itself
def fd_first_bad : FD := ⟨["rooms", "forest"], 4,
  [.for_ (.tup [2, 3]) .enum [(.var 1)] [.ite (.not (.call "is_place" [(.var 0), (.var 2), (.var 3)])) [.ret (.var 2)] []],
   .ret .non]⟩
structure Has_first_bad (P : Pg) : Prop where
  self : P.fn "first_bad" = some fd_first_bad
  is_place : Has_is_place P
def fd_first_ring : FD := ⟨["forest"], 2,
  [.for_ (.nm 1) .range [(.bi .len [(.var 0)])] [.ite (.call "lies_in_itself" [(.var 0), (.var 1)]) [.ret (.var 1)] []],
   .ret .non]⟩
structure Has_first_ring (P : Pg) : Prop where
  self : P.fn "first_ring" = some fd_first_ring
  lies_in_itself : Has_lies_in_itself P
def fd_made_forest : FD := ⟨["rooms", "forest"], 5,
  [.asg (.nm 0) (.call "made_rooms" [(.var 0)]),
   .ite (.or (.not (.isi (.var 1) "tuple")) (.cmp .ne (.bi .len [(.var 1)]) (.bi .len [(.var 0)]))) [.raise "BadForest" (.neg (.int 1))] [],
   .asg (.nm 2) (.call "first_bad" [(.var 0), (.var 1)]),
   .ite (.cmp .isn (.var 2) .non) [.raise "BadForest" (.var 2)] [],
   .asg (.nm 3) (.call "first_ring" [(.var 1)]),
   .ite (.cmp .isn (.var 3) .non) [.raise "Ring" (.var 3)] [],
   .ret (.bi .tuple [(.comp [4] (.ite (.cmp .is (.var 4) .non) .non (.tup [(.idx (.var 4) (.int 0)), (.idx (.var 4) (.int 1))])) (.nm 4) .plain [(.var 1)] [])])]⟩
structure Has_made_forest (P : Pg) : Prop where
  self : P.fn "made_forest" = some fd_made_forest
  made_rooms : Has_made_rooms P
  first_bad : Has_first_bad P
  first_ring : Has_first_ring P
def fd_is_forest : FD := ⟨["rooms", "forest"], 2,
  [.ite (.or (.not (.call "is_rooms" [(.var 0)])) (.or (.not (.isi (.var 1) "tuple")) (.cmp .ne (.bi .len [(.var 1)]) (.bi .len [(.var 0)])))) [.ret (.bl false)] [],
   .ret (.and (.cmp .is (.call "first_bad" [(.var 0), (.var 1)]) .non) (.cmp .is (.call "first_ring" [(.var 1)]) .non))]⟩
structure Has_is_forest (P : Pg) : Prop where
  self : P.fn "is_forest" = some fd_is_forest
  is_rooms : Has_is_rooms P
  first_bad : Has_first_bad P
  first_ring : Has_first_ring P
def fd_room_way : FD := ⟨["forest", "x", "y"], 4,
  [.asg (.nm 3) (.idx (.var 0) (.var 1)),
   .whl 1000000 (.cmp .isn (.var 3) .non) [.ite (.cmp .eq (.idx (.var 3) (.int 0)) (.var 2)) [.ret (.idx (.var 3) (.int 1))] [], .asg (.nm 3) (.idx (.var 0) (.idx (.var 3) (.int 0)))],
   .ret .non]⟩
structure Has_room_way (P : Pg) : Prop where
  self : P.fn "room_way" = some fd_room_way
def fd_standing_in : FD := ⟨["forest", "x", "y"], 4,
  [.asg (.nm 3) (.call "room_way" [(.var 0), (.var 1), (.var 2)]),
   .ite (.cmp .isn (.var 3) .non) [.ret (.tup [(.str "in"), (.var 3)])] [],
   .asg (.nm 3) (.call "room_way" [(.var 0), (.var 2), (.var 1)]),
   .ret (.ite (.cmp .is (.var 3) .non) (.glob "APART") (.tup [(.str "around"), (.var 3)]))]⟩
structure Has_standing_in (P : Pg) : Prop where
  self : P.fn "standing_in" = some fd_standing_in
  room_way : Has_room_way P
  APART : P.con "APART" = some con_APART
def fd_is_pair : FD := ⟨["thing"], 1,
  [.ret (.and (.isi (.var 0) "tuple") (.cmp .eq (.bi .len [(.var 0)]) (.int 2)))]⟩
structure Has_is_pair (P : Pg) : Prop where
  self : P.fn "is_pair" = some fd_is_pair
def fd_place_key : FD := ⟨["place"], 1,
  [.ret (.ite (.cmp .is (.var 0) .non) (.tup [(.neg (.int 1)), (.neg (.int 1))]) (.var 0))]⟩
structure Has_place_key (P : Pg) : Prop where
  self : P.fn "place_key" = some fd_place_key
def fd_places_with : FD := ⟨["forest", "least"], 4,
  [.asg (.nm 2) (.bi .dict0 []),
   .for_ (.nm 3) .plain [(.var 0)] [.setI (.var 2) (.var 3) (.bin .add (.meth .get (.var 2) [(.var 3), (.int 0)]) (.int 1))],
   .ret (.bi (.sortedK "place_key") [(.comp [3] (.var 3) (.nm 3) .plain [(.var 2)] [(.cmp .ge (.idx (.var 2) (.var 3)) (.var 1))])])]⟩
structure Has_places_with (P : Pg) : Prop where
  self : P.fn "places_with" = some fd_places_with
  place_key : Has_place_key P
def fd_want_uncrowded : FD := ⟨["forest"], 2,
  [.asg (.nm 1) (.call "places_with" [(.var 0), (.bin .add (.glob "MOST_STALLS") (.int 1))]),
   .ite (.cmp .ne (.var 1) (.lst [])) [.raise "Crowd" (.idx (.var 1) (.int 0))] []]⟩
structure Has_want_uncrowded (P : Pg) : Prop where
  self : P.fn "want_uncrowded" = some fd_want_uncrowded
  places_with : Has_places_with P
  MOST_STALLS : P.con "MOST_STALLS" = some con_MOST_STALLS
def fd_made_commons : FD := ⟨["thing"], 3,
  [.ite (.not (.call "is_pair" [(.var 0)])) [.raise "BadCommons" (.neg (.int 1))] [],
   .asg (.nm 1) (.call "made_rooms" [(.idx (.var 0) (.int 0))]),
   .ite (.cmp .gt (.bi .len [(.var 1)]) (.glob "MOST_SHARED")) [.raise "TooMany" (.bi .len [(.var 1)])] [],
   .asg (.nm 2) (.call "made_forest" [(.var 1), (.idx (.var 0) (.int 1))]),
   .ex (.call "want_uncrowded" [(.var 2)]),
   .ret (.tup [(.var 1), (.var 2)])]⟩
structure Has_made_commons (P : Pg) : Prop where
  self : P.fn "made_commons" = some fd_made_commons
  made_rooms : Has_made_rooms P
  made_forest : Has_made_forest P
  want_uncrowded : Has_want_uncrowded P
  is_pair : Has_is_pair P
  MOST_SHARED : P.con "MOST_SHARED" = some con_MOST_SHARED
def fd_is_commons : FD := ⟨["thing"], 1,
  [.ite (.or (.not (.call "is_pair" [(.var 0)])) (.or (.not (.call "is_rooms" [(.idx (.var 0) (.int 0))])) (.cmp .gt (.bi .len [(.idx (.var 0) (.int 0))]) (.glob "MOST_SHARED")))) [.ret (.bl false)] [],
   .ret (.and (.call "is_forest" [(.idx (.var 0) (.int 0)), (.idx (.var 0) (.int 1))]) (.cmp .eq (.call "places_with" [(.idx (.var 0) (.int 1)), (.bin .add (.glob "MOST_STALLS") (.int 1))]) (.lst [])))]⟩
structure Has_is_commons (P : Pg) : Prop where
  self : P.fn "is_commons" = some fd_is_commons
  is_forest : Has_is_forest P
  is_pair : Has_is_pair P
  is_rooms : Has_is_rooms P
  places_with : Has_places_with P
  MOST_SHARED : P.con "MOST_SHARED" = some con_MOST_SHARED
  MOST_STALLS : P.con "MOST_STALLS" = some con_MOST_STALLS
def fd_square_row : FD := ⟨["commons"], 1,
  [.ret (.bi .tuple [(.call "places_with" [(.idx (.var 0) (.int 1)), (.glob "LEAST_STALLS")])])]⟩
structure Has_square_row (P : Pg) : Prop where
  self : P.fn "square_row" = some fd_square_row
  places_with : Has_places_with P
  LEAST_STALLS : P.con "LEAST_STALLS" = some con_LEAST_STALLS
def fd_stalls_in : FD := ⟨["commons", "place"], 4,
  [.ret (.bi .tuple [(.comp [2, 3] (.var 2) (.tup [2, 3]) .enum [(.idx (.var 0) (.int 1))] [(.cmp .eq (.var 3) (.var 1))])])]⟩
structure Has_stalls_in (P : Pg) : Prop where
  self : P.fn "stalls_in" = some fd_stalls_in
def fd_is_square : FD := ⟨["commons", "square"], 2,
  [.ite (.and (.cmp .isn (.var 1) .non) (.or (.not (.call "is_pair" [(.var 1)])) (.or (.not (.call "is_whole" [(.idx (.var 1) (.int 0))])) (.not (.call "is_whole" [(.idx (.var 1) (.int 1))]))))) [.ret (.bl false)] [],
   .ret (.cmp .mem (.var 1) (.call "square_row" [(.var 0)]))]⟩
structure Has_is_square (P : Pg) : Prop where
  self : P.fn "is_square" = some fd_is_square
  square_row : Has_square_row P
  is_pair : Has_is_pair P
  is_whole : Has_is_whole P
def fd_want_square : FD := ⟨["commons", "square"], 2,
  [.ite (.not (.call "is_square" [(.var 0), (.var 1)])) [.raise "NoSquare" (.var 1)] []]⟩
structure Has_want_square (P : Pg) : Prop where
  self : P.fn "want_square" = some fd_want_square
  is_square : Has_is_square P
def fd_squares : FD := ⟨["commons"], 1,
  [.ret (.call "square_row" [(.call "made_commons" [(.var 0)])])]⟩
structure Has_squares (P : Pg) : Prop where
  self : P.fn "squares" = some fd_squares
  square_row : Has_square_row P
  made_commons : Has_made_commons P
def fd_stalls : FD := ⟨["commons", "square"], 2,
  [.asg (.nm 0) (.call "made_commons" [(.var 0)]),
   .ex (.call "want_square" [(.var 0), (.var 1)]),
   .ret (.call "stalls_in" [(.var 0), (.var 1)])]⟩
structure Has_stalls (P : Pg) : Prop where
  self : P.fn "stalls" = some fd_stalls
  made_commons : Has_made_commons P
  want_square : Has_want_square P
  stalls_in : Has_stalls_in P
def fd_settling_of : FD := ⟨["commons"], 5,
  [.asg (.nm 1) (.bi .len [(.idx (.var 0) (.int 0))]),
   .asg (.nm 2) (.comp2 [3, 4] (.tup [(.var 3), (.var 4)]) (.nm 3) .range [(.var 1)] [] (.nm 4) .range [(.bin .add (.var 3) (.int 1)), (.var 1)] []),
   .ret (.bi .tuple [(.comp [3, 4] (.tup [(.var 3), (.var 4), (.tup [(.call "standing_in" [(.idx (.var 0) (.int 1)), (.var 3), (.var 4)])])]) (.tup [3, 4]) .plain [(.var 2)] [])])]⟩
structure Has_settling_of (P : Pg) : Prop where
  self : P.fn "settling_of" = some fd_settling_of
  standing_in : Has_standing_in P
def fd_settling : FD := ⟨["commons"], 1,
  [.ret (.call "settling_of" [(.call "made_commons" [(.var 0)])])]⟩
structure Has_settling (P : Pg) : Prop where
  self : P.fn "settling" = some fd_settling
  settling_of : Has_settling_of P
  made_commons : Has_made_commons P
def fd_law_is_whole : FD := ⟨["thing"], 1,
  [.ret (.and (.isi (.var 0) "int") (.not (.isi (.var 0) "bool")))]⟩
structure Has_law_is_whole (P : Pg) : Prop where
  self : P.fn "_law_is_whole" = some fd_law_is_whole
def fd_law_number : FD := ⟨["thing", "most"], 2,
  [.ret (.and (.isi (.var 0) "int") (.and (.not (.isi (.var 0) "bool")) (.chain .le .lt (.int 0) (.var 0) (.var 1))))]⟩
structure Has_law_number (P : Pg) : Prop where
  self : P.fn "_law_number" = some fd_law_number
def fd_law_pool : FD := ⟨["script", "k"], 5,
  [.asg (.nm 2) (.int 0),
   .ite (.cmp .lt (.var 1) (.bi .len [(.var 0)])) [.asg (.nm 2) (.idx (.var 0) (.var 1))] [.ite (.cmp .ne (.var 0) (.lst [])) [.asg (.nm 2) (.idx (.var 0) (.int 0))] []],
   .asg (.nm 3) (.bi .max [(.bi .int [(.var 2)]), (.bi .int [(.bin .sub (.neg (.int 1)) (.var 2))])]),
   .asg (.nm 4) (.bin .mod (.bi .int [(.bin .mul (.bin .add (.bin .add (.bin .add (.bin .mod (.bi .int [(.var 3)]) (.int 2147483629)) (.bin .mul (.bin .mul (.int 7919) (.var 1)) (.var 1))) (.bin .mul (.int 31) (.var 1))) (.int 17)) (.int 48271))]) (.int 2147483647)),
   .ret (.lst [(.bin .mul (.var 3) (.bi .int [(.and (.cmp .ge (.var 3) (.bin .pow (.int 10) (.int 18))) (.cmp .lt (.var 1) (.bi .len [(.var 0)])))])), (.var 4)])]⟩
structure Has_law_pool (P : Pg) : Prop where
  self : P.fn "_law_pool" = some fd_law_pool
def fd_law_take : FD := ⟨["source", "top"], 3,
  [.ite (.cmp .gt (.idx (.var 0) (.int 0)) (.int 0)) [.asg (.nm 2) (.bin .mod (.bi .int [(.idx (.var 0) (.int 0))]) (.var 1)), .setI (.var 0) (.int 0) (.bin .fdiv (.idx (.var 0) (.int 0)) (.var 1)), .ret (.var 2)] [],
   .setI (.var 0) (.int 1) (.bin .mod (.bi .int [(.bin .add (.bin .mul (.idx (.var 0) (.int 1)) (.int 39373)) (.int 7))]) (.int 2147483647)),
   .ret (.bin .mod (.bi .int [(.bin .fdiv (.bin .mod (.bi .int [(.bin .mul (.idx (.var 0) (.int 1)) (.idx (.var 0) (.int 1)))]) (.int 2147483629)) (.int 32))]) (.var 1))]⟩
structure Has_law_take (P : Pg) : Prop where
  self : P.fn "_law_take" = some fd_law_take
def fd_law_one : FD := ⟨["source", "things"], 2,
  [.ret (.idx (.var 1) (.call "_law_take" [(.var 0), (.bi .len [(.var 1)])]))]⟩
structure Has_law_one (P : Pg) : Prop where
  self : P.fn "_law_one" = some fd_law_one
  law_take : Has_law_take P
def fd_law_climb : FD := ⟨["forest", "x"], 5,
  [.par 3 4 (.lst []) (.idx (.var 0) (.var 1)),
   .for_ (.nm 2) .range [(.bi .len [(.var 0)])] [.ite (.cmp .is (.var 4) .non) [.brk] [], .ex (.meth .append (.var 3) [(.var 4)]), .asg (.nm 4) (.idx (.var 0) (.idx (.var 4) (.int 0)))],
   .ret (.var 3)]⟩
structure Has_law_climb (P : Pg) : Prop where
  self : P.fn "_law_climb" = some fd_law_climb
def fd_law_standing : FD := ⟨["forest", "x", "y"], 5,
  [.for_ (.tup [3, 4]) .plain [(.call "_law_climb" [(.var 0), (.var 1)])] [.ite (.cmp .eq (.var 3) (.var 2)) [.ret (.tup [(.str "in"), (.var 4)])] []],
   .for_ (.tup [3, 4]) .plain [(.call "_law_climb" [(.var 0), (.var 2)])] [.ite (.cmp .eq (.var 3) (.var 1)) [.ret (.tup [(.str "around"), (.var 4)])] []],
   .ret (.tup [(.str "apart"), (.int 0)])]⟩
structure Has_law_standing (P : Pg) : Prop where
  self : P.fn "_law_standing" = some fd_law_standing
  law_climb : Has_law_climb P
def fd_law_same : FD := ⟨["told", "due"], 3,
  [.ite (.cmp .is (.var 1) .non) [.ret (.cmp .is (.var 0) .non)] [],
   .ite (.isi (.var 1) "bool") [.ret (.ite (.var 1) (.cmp .is (.var 0) (.bl true)) (.cmp .is (.var 0) (.bl false)))] [],
   .ite (.isi (.var 1) "int") [.ret (.and (.call "_law_is_whole" [(.var 0)]) (.cmp .eq (.var 0) (.var 1)))] [],
   .ite (.isi (.var 1) "str") [.ret (.and (.isi (.var 0) "str") (.cmp .eq (.var 0) (.var 1)))] [],
   .ite (.or (.and (.isi (.var 1) "tuple") (.not (.isi (.var 0) "tuple"))) (.and (.isi (.var 1) "list") (.not (.isi (.var 0) "list")))) [.ret (.bl false)] [],
   .ite (.cmp .ne (.bi .len [(.var 0)]) (.bi .len [(.var 1)])) [.ret (.bl false)] [],
   .ret (.cmp .eq (.comp [2] (.var 2) (.nm 2) .range [(.bi .len [(.var 1)])] [(.not (.call "_law_same" [(.idx (.var 0) (.var 2)), (.idx (.var 1) (.var 2))]))]) (.lst []))]⟩
structure Has_law_same (P : Pg) : Prop where
  self : P.fn "_law_same" = some fd_law_same
  law_is_whole : Has_law_is_whole P
def fd_law_crowd_of : FD := ⟨["forest", "place"], 3,
  [.ret (.comp [2] (.var 2) (.nm 2) .range [(.bi .len [(.var 0)])] [(.cmp .eq (.idx (.var 0) (.var 2)) (.var 1))])]⟩
structure Has_law_crowd_of (P : Pg) : Prop where
  self : P.fn "_law_crowd_of" = some fd_law_crowd_of
def fd_law_commons_drawn : FD := ⟨["source", "most"], 12,
  [.asg (.nm 2) (.bin .add (.int 2) (.call "_law_take" [(.var 0), (.bin .sub (.var 1) (.int 1))])),
   .asg (.nm 3) (.bi .tuple [(.comp [5] (.call "_law_one" [(.var 0), (.lst [(.int 0), (.int 0), (.int 1), (.int 2), (.int 0), (.int 3), (.int 2), (.int 1)])]) (.nm 5) .range [(.var 2)] [])]),
   .asg (.nm 4) (.tup []),
   .for_ (.nm 5) .range [(.var 2)] [.asg (.nm 6) (.lst [.non]), .for_ (.nm 7) .range [(.var 5)] [.ex (.meth .extend (.var 6) [(.comp [11] (.tup [(.var 7), (.var 11)]) (.nm 11) .range [(.idx (.var 3) (.var 7))] [])])], .asg (.nm 8) (.comp [10] (.var 10) (.nm 10) .plain [(.var 6)] [(.cmp .lt (.bi .len [(.call "_law_crowd_of" [(.var 4), (.var 10)])]) (.int 4))]), .asg (.nm 9) (.comp [10] (.var 10) (.nm 10) .plain [(.var 8)] [(.cmp .eq (.bi .len [(.call "_law_crowd_of" [(.var 4), (.var 10)])]) (.int 1))]), .ite (.cmp .eq (.var 8) (.lst [])) [.ret (.tup [(.slc (.var 3) .non (.var 5)), (.var 4)])] [], .asg (.nm 4) (.bin .add (.var 4) (.tup [(.call "_law_one" [(.var 0), (.ite (.and (.cmp .ne (.var 9) (.lst [])) (.cmp .eq (.call "_law_take" [(.var 0), (.int 2)]) (.int 0))) (.var 9) (.var 8))])]))],
   .ret (.tup [(.var 3), (.var 4)])]⟩
structure Has_law_commons_drawn (P : Pg) : Prop where
  self : P.fn "_law_commons_drawn" = some fd_law_commons_drawn
  law_take : Has_law_take P
  law_one : Has_law_one P
  law_crowd_of : Has_law_crowd_of P
def fd_law_places_of : FD := ⟨["commons"], 4,
  [.asg (.nm 1) (.lst [.non]),
   .for_ (.nm 2) .range [(.bi .len [(.idx (.var 0) (.int 0))])] [.ex (.meth .extend (.var 1) [(.comp [3] (.tup [(.var 2), (.var 3)]) (.nm 3) .range [(.idx (.idx (.var 0) (.int 0)) (.var 2))] [])])],
   .ret (.var 1)]⟩
structure Has_law_places_of (P : Pg) : Prop where
  self : P.fn "_law_places_of" = some fd_law_places_of
def fd_law_stalls_of : FD := ⟨["commons", "square"], 2,
  [.ret (.bi .tuple [(.call "_law_crowd_of" [(.idx (.var 0) (.int 1)), (.var 1)])])]⟩
structure Has_law_stalls_of (P : Pg) : Prop where
  self : P.fn "_law_stalls_of" = some fd_law_stalls_of
  law_crowd_of : Has_law_crowd_of P
def fd_law_squares_of : FD := ⟨["commons"], 2,
  [.ret (.bi .tuple [(.comp [1] (.var 1) (.nm 1) .plain [(.call "_law_places_of" [(.var 0)])] [(.cmp .gt (.bi .len [(.call "_law_crowd_of" [(.idx (.var 0) (.int 1)), (.var 1)])]) (.int 1))])])]⟩
structure Has_law_squares_of (P : Pg) : Prop where
  self : P.fn "_law_squares_of" = some fd_law_squares_of
  law_places_of : Has_law_places_of P
  law_crowd_of : Has_law_crowd_of P
def fd_law_settling_of : FD := ⟨["commons"], 4,
  [.asg (.nm 1) (.lst []),
   .for_ (.nm 2) .range [(.bi .len [(.idx (.var 0) (.int 0))])] [.for_ (.nm 3) .range [(.bin .add (.var 2) (.int 1)), (.bi .len [(.idx (.var 0) (.int 0))])] [.ex (.meth .append (.var 1) [(.tup [(.var 2), (.var 3), (.tup [(.call "_law_standing" [(.idx (.var 0) (.int 1)), (.var 2), (.var 3)])])])])]],
   .ret (.bi .tuple [(.var 1)])]⟩
structure Has_law_settling_of (P : Pg) : Prop where
  self : P.fn "_law_settling_of" = some fd_law_settling_of
  law_standing : Has_law_standing P
def fd_law_told_by : FD := ⟨["deed_now"], 2,
  [.try_ [.ret (.tup [(.str "told"), (.callV 0 [])])] [.hnd "BadRooms" 1 [.ret (.tup [(.str "BadRooms"), (.what 1)])], .hnd "TooMany" 1 [.ret (.tup [(.str "TooMany"), (.what 1)])], .hnd "BadForest" 1 [.ret (.tup [(.str "BadForest"), (.what 1)])], .hnd "Ring" 1 [.ret (.tup [(.str "Ring"), (.what 1)])], .hnd "BadCommons" 1 [.ret (.tup [(.str "BadCommons"), (.what 1)])], .hnd "Crowd" 1 [.ret (.tup [(.str "Crowd"), (.what 1)])], .hnd "NoSquare" 1 [.ret (.tup [(.str "NoSquare"), (.what 1)])]]]⟩
structure Has_law_told_by (P : Pg) : Prop where
  self : P.fn "_law_told_by" = some fd_law_told_by
def fd_law_gives : FD := ⟨["deed_now", "owed"], 2,
  [.ret (.call "_law_same" [(.call "_law_told_by" [(.var 0)]), (.tup [(.str "told"), (.var 1)])])]⟩
structure Has_law_gives (P : Pg) : Prop where
  self : P.fn "_law_gives" = some fd_law_gives
  law_same : Has_law_same P
  law_told_by : Has_law_told_by P
def fd_law_refused_so : FD := ⟨["deed_now", "owed"], 3,
  [.asg (.nm 2) (.call "_law_told_by" [(.var 0)]),
   .ret (.and (.cmp .eq (.idx (.var 2) (.int 0)) (.idx (.var 1) (.int 0))) (.and (.cmp .eq (.idx (.var 2) (.int 1)) (.idx (.var 1) (.int 1))) (.cmp .eq (.bi .str [(.idx (.var 2) (.int 1))]) (.bi .str [(.idx (.var 1) (.int 1))]))))]⟩
structure Has_law_refused_so (P : Pg) : Prop where
  self : P.fn "_law_refused_so" = some fd_law_refused_so
  law_told_by : Has_law_told_by P
def fd_law_rooms_fault : FD := ⟨["item"], 3,
  [.ite (.not (.isi (.var 0) "tuple")) [.ret (.tup [(.str "BadRooms"), (.neg (.int 1))])] [],
   .ite (.cmp .gt (.bi .len [(.var 0)]) (.int 24)) [.ret (.tup [(.str "TooMany"), (.bi .len [(.var 0)])])] [],
   .asg (.nm 1) (.comp [2] (.var 2) (.nm 2) .range [(.bi .len [(.var 0)])] [(.not (.call "_law_number" [(.idx (.var 0) (.var 2)), (.int 5)]))]),
   .ret (.ite (.cmp .ne (.var 1) (.lst [])) (.tup [(.str "BadRooms"), (.idx (.var 1) (.int 0))]) .non)]⟩
structure Has_law_rooms_fault (P : Pg) : Prop where
  self : P.fn "_law_rooms_fault" = some fd_law_rooms_fault
  law_number : Has_law_number P
def fd_law_forest_fault : FD := ⟨["rooms_now", "forest"], 4,
  [.ite (.or (.not (.isi (.var 1) "tuple")) (.cmp .ne (.bi .len [(.var 1)]) (.bi .len [(.var 0)]))) [.ret (.tup [(.str "BadForest"), (.neg (.int 1))])] [],
   .for_ (.nm 2) .range [(.bi .len [(.var 1)])] [.asg (.nm 3) (.idx (.var 1) (.var 2)), .ite (.cmp .isn (.var 3) .non) [.ite (.or (.not (.isi (.var 3) "tuple")) (.or (.cmp .ne (.bi .len [(.var 3)]) (.int 2)) (.not (.call "_law_number" [(.idx (.var 3) (.int 0)), (.bi .len [(.var 0)])])))) [.ret (.tup [(.str "BadForest"), (.var 2)])] [], .ite (.or (.cmp .eq (.idx (.var 3) (.int 0)) (.var 2)) (.not (.call "_law_number" [(.idx (.var 3) (.int 1)), (.idx (.var 0) (.idx (.var 3) (.int 0)))]))) [.ret (.tup [(.str "BadForest"), (.var 2)])] []] []],
   .for_ (.nm 2) .range [(.bi .len [(.var 1)])] [.ite (.cmp .mem (.var 2) (.comp [3] (.idx (.var 3) (.int 0)) (.nm 3) .plain [(.call "_law_climb" [(.var 1), (.var 2)])] [])) [.ret (.tup [(.str "Ring"), (.var 2)])] []],
   .ret .non]⟩
structure Has_law_forest_fault (P : Pg) : Prop where
  self : P.fn "_law_forest_fault" = some fd_law_forest_fault
  law_number : Has_law_number P
  law_climb : Has_law_climb P
def fd_law_commons_fault : FD := ⟨["item"], 6,
  [.ite (.or (.not (.isi (.var 0) "tuple")) (.cmp .ne (.bi .len [(.var 0)]) (.int 2))) [.ret (.tup [(.str "BadCommons"), (.neg (.int 1))])] [],
   .asg (.tup [3, 4]) (.var 0),
   .asg (.nm 1) (.call "_law_rooms_fault" [(.var 3)]),
   .ite (.or (.cmp .isn (.var 1) .non) (.cmp .gt (.bi .len [(.var 3)]) (.int 8))) [.ret (.ite (.cmp .isn (.var 1) .non) (.var 1) (.tup [(.str "TooMany"), (.bi .len [(.var 3)])]))] [],
   .asg (.nm 1) (.call "_law_forest_fault" [(.var 3), (.var 4)]),
   .ite (.cmp .isn (.var 1) .non) [.ret (.var 1)] [],
   .asg (.nm 2) (.comp [5] (.var 5) (.nm 5) .plain [(.call "_law_places_of" [(.var 0)])] [(.cmp .gt (.bi .len [(.call "_law_crowd_of" [(.var 4), (.var 5)])]) (.int 4))]),
   .ret (.ite (.cmp .ne (.var 2) (.lst [])) (.tup [(.str "Crowd"), (.idx (.var 2) (.int 0))]) .non)]⟩
structure Has_law_commons_fault (P : Pg) : Prop where
  self : P.fn "_law_commons_fault" = some fd_law_commons_fault
  law_rooms_fault : Has_law_rooms_fault P
  law_forest_fault : Has_law_forest_fault P
  law_places_of : Has_law_places_of P
  law_crowd_of : Has_law_crowd_of P
def fd_law_commons_bent : FD := ⟨["source", "yard"], 8,
  [.asg (.tup [6, 7]) (.var 1),
   .asg (.nm 2) (.call "_law_take" [(.var 0), (.bi .max [(.int 1), (.bi .len [(.var 6)])])]),
   .asg (.nm 3) (.call "_law_one" [(.var 0), (.lst [(.int 5), (.neg (.int 1)), .non, (.bl true), (.str "1"), (.tup [(.int 1)]), (.int 4), (.int 0)])]),
   .asg (.nm 4) (.lst [(.tup [(.var 2), (.int 0)]), (.tup [(.int 9), (.int 0)]), (.tup [(.int 0), (.int 4)]), (.tup [(.int 0), (.neg (.int 1))]), (.tup [(.int 0)]), (.int 0), (.str "f"), (.tup [(.bl true), (.int 0)]), (.tup [(.int 0), (.bl true)]), (.tup [(.int 0), (.int 0)]), .non, (.tup [(.int 1), (.int 0)]), (.tup [(.int 0), .non])]),
   .asg (.nm 5) (.lst [.non, (.tup []), (.var 6), (.tup [(.var 6)]), (.tup [(.var 6), (.var 7), (.tup [])]), (.tup [.non, (.var 7)]), (.tup [(.var 6), .non]), (.str "ab")]),
   .ex (.meth .append (.var 5) [(.tup [(.str "12"), (.var 7)])]),
   .asg (.nm 5) (.bin .add (.var 5) (.bin .mul (.lst [(.tup [(.bin .add (.bin .add (.slc (.var 6) .non (.var 2)) (.tup [(.var 3)])) (.slc (.var 6) (.bin .add (.var 2) (.int 1)) .non)), (.var 7)])]) (.int 3))),
   .asg (.nm 5) (.bin .add (.var 5) (.bin .mul (.lst [(.tup [(.var 6), (.bin .add (.bin .add (.slc (.var 7) .non (.var 2)) (.tup [(.call "_law_one" [(.var 0), (.var 4)])])) (.slc (.var 7) (.bin .add (.var 2) (.int 1)) .non))])]) (.int 3))),
   .asg (.nm 5) (.bin .add (.var 5) (.lst [(.tup [(.var 6), (.slc (.var 7) (.int 1) .non)]), (.tup [(.bin .add (.var 6) (.tup [(.int 1)])), (.var 7)]), (.tup [(.bin .mul (.tup [(.int 0)]) (.int 25)), .non])])),
   .ex (.meth .append (.var 5) [(.tup [(.bin .add (.var 6) (.tup [(.int 0)])), (.bin .add (.var 7) (.tup [.non]))])]),
   .asg (.nm 5) (.bin .add (.var 5) (.lst [(.tup [(.bin .mul (.tup [(.int 0)]) (.int 9)), (.bin .mul (.tup [.non]) (.int 9))]), (.tup [(.bin .mul (.tup [(.int 0)]) (.int 5)), (.bin .mul (.tup [.non]) (.int 5))]), (.tup [(.bin .add (.tup [(.int 1)]) (.bin .mul (.tup [(.int 0)]) (.int 5))), (.bin .add (.tup [.non]) (.bin .mul (.tup [(.tup [(.int 0), (.int 0)])]) (.int 5)))])])),
   .asg (.nm 5) (.bin .add (.var 5) (.lst [(.tup [(.tup [(.int 2), (.int 2)]), (.tup [(.tup [(.int 1), (.int 0)]), (.tup [(.int 0), (.int 1)])])]), (.tup [(.tup []), (.tup [])]), (.tup [(.tup [(.int 2)]), (.tup [.non])])])),
   .ex (.meth .append (.var 5) [(.tup [(.bin .add (.tup [(.int 4)]) (.bin .mul (.tup [(.int 0)]) (.int 7))), (.bin .add (.bin .add (.tup [.non]) (.bin .mul (.tup [(.tup [(.int 0), (.int 3)])]) (.int 5))) (.bin .mul (.tup [.non]) (.int 2)))])]),
   .ret (.call "_law_one" [(.var 0), (.var 5)])]⟩
structure Has_law_commons_bent (P : Pg) : Prop where
  self : P.fn "_law_commons_bent" = some fd_law_commons_bent
  law_take : Has_law_take P
  law_one : Has_law_one P
def fd_law_told_right : FD := ⟨["yard"], 4,
  [.asg (.nm 1) (.call "_law_squares_of" [(.var 0)]),
   .ite (.not (.callL "_law_gives" (.tup [(.call "made_commons" [(.var 0)]), (.callK "made_commons" [] [0] [(.var 0)])]) [0] [(.tup [(.var 0), (.var 0)])])) [.ret (.bl false)] [],
   .ite (.not (.callL "_law_gives" (.tup [(.call "is_commons" [(.var 0)]), (.callK "is_commons" [] [0] [(.var 0)])]) [0] [(.tup [(.bl true), (.bl true)])])) [.ret (.bl false)] [],
   .ite (.not (.callL "_law_gives" (.tup [(.call "squares" [(.var 0)]), (.callK "squares" [] [0] [(.var 0)])]) [0] [(.tup [(.var 1), (.var 1)])])) [.ret (.bl false)] [],
   .for_ (.nm 2) .plain [(.var 1)] [.asg (.nm 3) (.call "_law_stalls_of" [(.var 0), (.var 2)]), .ite (.not (.callL "_law_gives" (.tup [(.call "stalls" [(.var 0), (.var 2)]), (.callK "stalls" [] [1, 0] [(.var 2), (.var 0)])]) [0, 2] [(.tup [(.var 3), (.var 3)])])) [.ret (.bl false)] []],
   .asg (.nm 3) (.call "_law_settling_of" [(.var 0)]),
   .ret (.callL "_law_gives" (.tup [(.call "settling" [(.var 0)]), (.callK "settling" [] [0] [(.var 0)])]) [0] [(.tup [(.var 3), (.var 3)])])]⟩
structure Has_law_told_right (P : Pg) : Prop where
  self : P.fn "_law_told_right" = some fd_law_told_right
  law_squares_of : Has_law_squares_of P
  law_settling_of : Has_law_settling_of P
  law_gives : Has_law_gives P
  law_stalls_of : Has_law_stalls_of P
  settling : Has_settling P
  made_commons : Has_made_commons P
  is_commons : Has_is_commons P
  squares : Has_squares P
  stalls : Has_stalls P
def fd_law_no_square : FD := ⟨["source", "yard"], 5,
  [.asg (.nm 2) (.call "_law_squares_of" [(.var 1)]),
   .asg (.nm 3) (.lst [(.tup [(.int 0), (.int 4)]), (.tup [(.int 9), (.int 0)]), (.tup [(.int 0), (.neg (.int 1))]), (.int 0), (.str "floor"), (.tup [(.int 0)]), (.tup [(.int 0), (.int 0), (.int 0)]), (.tup [(.bl true), (.int 0)]), (.tup [(.int 0), (.bl true)]), (.tup [(.int 0), .non]), (.tup [])]),
   .asg (.nm 3) (.bin .add (.var 3) (.comp [4] (.var 4) (.nm 4) .plain [(.call "_law_places_of" [(.var 1)])] [(.cmp .nmem (.var 4) (.var 2))])),
   .ret (.call "_law_one" [(.var 0), (.var 3)])]⟩
structure Has_law_no_square (P : Pg) : Prop where
  self : P.fn "_law_no_square" = some fd_law_no_square
  law_squares_of : Has_law_squares_of P
  law_one : Has_law_one P
  law_places_of : Has_law_places_of P
def fd_law_bent_right : FD := ⟨["source", "item"], 4,
  [.asg (.nm 2) (.call "_law_commons_fault" [(.var 1)]),
   .ite (.not (.callL "_law_gives" (.tup [(.call "is_commons" [(.var 1)]), (.callK "is_commons" [] [0] [(.var 1)])]) [1] [(.tup [(.cmp .is (.var 2) .non), (.cmp .is (.var 2) .non)])])) [.ret (.bl false)] [],
   .ite (.cmp .is (.var 2) .non) [.ret (.call "_law_told_right" [(.var 1)])] [],
   .ite (.not (.callL "_law_refused_so" (.call "stalls" [(.var 1), (.int 0)]) [1] [(.var 2)])) [.ret (.bl false)] [],
   .for_ (.nm 3) .plain [(.lst [(.fn "made_commons"), (.fn "squares"), (.fn "settling")])] [.ite (.not (.callL "_law_refused_so" (.callV 3 [(.var 1)]) [1, 3] [(.var 2)])) [.ret (.bl false)] []],
   .ret (.bl true)]⟩
structure Has_law_bent_right (P : Pg) : Prop where
  self : P.fn "_law_bent_right" = some fd_law_bent_right
  law_commons_fault : Has_law_commons_fault P
  made_commons : Has_made_commons P
  squares : Has_squares P
  settling : Has_settling P
  law_gives : Has_law_gives P
  law_told_right : Has_law_told_right P
  law_refused_so : Has_law_refused_so P
  stalls : Has_stalls P
  is_commons : Has_is_commons P
end Fv
set_option Elab.async false
set_option linter.all false
set_option maxRecDepth 100000
/-! M0: the run by equations: loops by invariants, frames of the heap. -/
namespace Fv
open PySem
/-- not by computation: so the kernel need not compute -/
theorem nd {α : Sort _} {a b : α} (h : a = b) : a = b := h
/-- what follows, put away: simp leaves it alone until what is run first is known -/
class Hd (α : Type) where
  f : α
def R.bnd {α β : Type} (r : R α) {k : Hd (α → FH → R β)} : R β := r.bind k.f
@[simp ↓] theorem bind_bnd {α β : Type} (r : R α) (f : α → FH → R β) : r.bind f = r.bnd (k := ⟨f⟩) := nd rfl
@[simp] theorem bindOk {α β : Type} (a : α) (F : FH) (f : α → FH → R β) : (R.ok a F).bnd (k := ⟨f⟩) = f a F := nd rfl
@[simp] theorem bind_exc {α β : Type} (c : String) (w : D) (F : FH) (f : α → FH → R β) : (R.exc c w F : R α).bnd (k := ⟨f⟩) = .exc c w F := nd rfl
@[simp] theorem bind_bad {α β : Type} (f : α → FH → R β) : (R.bad : R α).bnd (k := ⟨f⟩) = .bad := nd rfl
@[simp] theorem lift_some {α : Type} (a : α) (F : FH) : lift (some a) F = .ok a F := nd rfl
/-- one statement, then the rest -/
def R.seq (r : R O) (k : Ls → FH → R O) : R O := match r with
  | .ok (.nx ls) F => k ls F
  | r => r
@[simp] theorem seq_nx (ls : Ls) (F : FH) (k : Ls → FH → R O) : (R.ok (.nx ls) F).seq k = k ls F := nd rfl
@[simp] theorem seq_rt (d : D) (F : FH) (k : Ls → FH → R O) : (R.ok (.rt d) F).seq k = .ok (.rt d) F := nd rfl
@[simp] theorem seq_bk (ls : Ls) (F : FH) (k : Ls → FH → R O) : (R.ok (.bk ls) F).seq k = .ok (.bk ls) F := nd rfl
@[simp] theorem seq_ct (ls : Ls) (F : FH) (k : Ls → FH → R O) : (R.ok (.ct ls) F).seq k = .ok (.ct ls) F := nd rfl
@[simp] theorem seq_exc (c : String) (w : D) (F : FH) (k : Ls → FH → R O) : (R.exc c w F : R O).seq k = .exc c w F := nd rfl
@[simp] theorem seq_bad (k : Ls → FH → R O) : (R.bad : R O).seq k = .bad := nd rfl
/-- a def's end -/
def R.fin : R O → R D
  | .ok (.rt d) F' => .ok d F'
  | .ok (.nx _) F' => .ok .non F'
  | .exc c w F' => .exc c w F'
  | _ => .bad
@[simp] theorem fin_rt (d : D) (F : FH) : (R.ok (.rt d) F).fin = .ok d F := nd rfl
@[simp] theorem fin_nx (ls : Ls) (F : FH) : (R.ok (.nx ls) F).fin = .ok .non F := nd rfl
@[simp] theorem fin_exc (c : String) (w : D) (F : FH) : (R.exc c w F : R O).fin = .exc c w F := nd rfl
theorem run_fn {P : Pg} {n : Nat} {f : String} {fd : FD} (h : P.fn f = some fd) (us : List SV) (F : FH) (hl : us.length = fd.ps.length) :
    run P (n + 1) (.fn f) us F = (exs (run P n) P fd.body (us.map some ++ List.replicate (fd.nl - us.length) none) F).fin := by
  show runC (run P n) P (.fn f) us F = _
  simp only [runC, h, hl, if_true]
  rfl
section
variable {C : CT} {P : Pg} {ls : Ls} {F : FH}
@[simp] theorem exs_nil : exs C P [] ls F = .ok (.nx ls) F := by rw [exs]
@[simp] theorem exs_cons {s : FS} {r : List FS} : exs C P (s :: r) ls F = (ex C P s ls F).seq (exs C P r) := by rw [exs.eq_def]; rfl
/-! ### expressions, one by one -/
def slot (ls : Ls) (i : Nat) (F : FH) : R D := match ls[i]? with
  | some (some (.d x)) => .ok x F
  | _ => .bad
@[simp] theorem slot_z (x : D) : slot (some (.d x) :: ls) 0 F = .ok x F := nd rfl
@[simp] theorem slot_s (o : Option SV) (i : Nat) : slot (o :: ls) (i + 1) F = slot ls i F := by simp [slot]
@[simp] theorem ev_var {i : Nat} : ev C P (.var i) ls F = slot ls i F := by rw [ev]; rfl
@[simp] theorem ev_non : ev C P .non ls F = .ok .non F := by rw [ev]
@[simp] theorem ev_bl {b : Bool} : ev C P (.bl b) ls F = .ok (.bl b) F := by rw [ev]
@[simp] theorem ev_int {i : Int} : ev C P (.int i) ls F = .ok (.int i) F := by rw [ev]
@[simp] theorem ev_str {x : String} : ev C P (.str x) ls F = .ok (.str (Str.ofString x)) F := by rw [ev]
@[simp] theorem ev_glob {x : String} : ev C P (.glob x) ls F = lift (P.con x) F := by rw [ev]
@[simp] theorem ev_fn {x : String} : ev C P (.fn x) ls F = .ok (.fn x) F := by rw [ev]
@[simp] theorem ev_tup {es : List FE} : ev C P (.tup es) ls F = (evs C P es ls F).bind newT := by rw [ev]
@[simp] theorem ev_lst {es : List FE} : ev C P (.lst es) ls F = (evs C P es ls F).bind newL := by rw [ev]
@[simp] theorem ev_bin {o : BO} {a b : FE} : ev C P (.bin o a b) ls F = (ev C P a ls F).bind fun x F => (ev C P b ls F).bind fun y F => binop o x y F := by rw [ev]
@[simp] theorem ev_neg {a : FE} : ev C P (.neg a) ls F = (ev C P a ls F).bind fun x F => (match x with
    | .int i => .ok (.int (-i)) F
    | _ => .bad) := by
  rw [ev]
  all_goals rfl
@[simp] theorem ev_not {a : FE} : ev C P (.not a) ls F = (ev C P a ls F).bind fun x F => (lift (truth F x) F).bind fun b F => .ok (.bl (!b)) F := by rw [ev]
@[simp] theorem ev_cmp {o : CO} {a b : FE} : ev C P (.cmp o a b) ls F = (ev C P a ls F).bind fun x F => (ev C P b ls F).bind fun y F => (lift (cmpop o x y F) F).bind fun b F => .ok (.bl b) F := by rw [ev]
@[simp] theorem ev_chain {o o' : CO} {a b c : FE} : ev C P (.chain o o' a b c) ls F = (ev C P a ls F).bind fun x F => (ev C P b ls F).bind fun y F => (lift (cmpop o x y F) F).bind fun k F =>
      if k then (ev C P c ls F).bind fun z F => (lift (cmpop o' y z F) F).bind fun b F => .ok (.bl b) F else .ok (.bl false) F := by rw [ev]
@[simp] theorem ev_and {a b : FE} : ev C P (.and a b) ls F = (ev C P a ls F).bind fun x F => (lift (truth F x) F).bind fun k F => if k then ev C P b ls F else .ok x F := by rw [ev]
@[simp] theorem ev_or {a b : FE} : ev C P (.or a b) ls F = (ev C P a ls F).bind fun x F => (lift (truth F x) F).bind fun k F => if k then .ok x F else ev C P b ls F := by rw [ev]
@[simp] theorem ev_ite {c a b : FE} : ev C P (.ite c a b) ls F = (ev C P c ls F).bind fun x F => (lift (truth F x) F).bind fun k F => if k then ev C P a ls F else ev C P b ls F := by rw [ev]
@[simp] theorem ev_call {f : String} {es : List FE} : ev C P (.call f es) ls F = (eva C P es ls F).bind (C (.fn f)) := by rw [ev]
@[simp] theorem ev_callK {f : String} {es ws : List FE} {pm : List Nat} : ev C P (.callK f es pm ws) ls F = (eva C P es ls F).bind fun us F => (eva C P ws ls F).bind fun vs F => C (.fn f) (permA pm (us ++ vs)) F := by rw [ev]
@[simp] theorem ev_callL {f : String} {b : FE} {cs : List Nat} {es : List FE} : ev C P (.callL f b cs es) ls F = (eva C P es ls F).bind fun us F => C (.fn f) (.clo b (capL cs ls) :: us) F := by rw [ev]
def slotV (ls : Ls) (i : Nat) (F : FH) : R SV := match ls[i]? with
  | some (some v) => .ok v F
  | _ => .bad
@[simp] theorem slotV_z (v : SV) : slotV (some v :: ls) 0 F = .ok v F := nd rfl
@[simp] theorem slotV_s (o : Option SV) (i : Nat) : slotV (o :: ls) (i + 1) F = slotV ls i F := by simp [slotV]
@[simp] theorem ev_callV {i : Nat} {es : List FE} : ev C P (.callV i es) ls F = (slotV ls i F).bind fun v F => if calb P v es.length then (eva C P es ls F).bind fun us F => callVal C v us F else .bad := by
  rw [ev]
  unfold slotV
  generalize ls[i]? = o
  rcases o with _ | _ | v <;> rfl
@[simp] theorem ev_bi {b : Bi} {es : List FE} : ev C P (.bi b es) ls F = (evs C P es ls F).bind (biop b) := by rw [ev]
@[simp] theorem ev_isi {a : FE} {t : String} : ev C P (.isi a t) ls F = (ev C P a ls F).bind fun x F => (lift (typOk t x F) F).bind fun b F => .ok (.bl b) F := by rw [ev]
@[simp] theorem ev_meth {m : Mt} {o : FE} {es : List FE} : ev C P (.meth m o es) ls F = (ev C P o ls F).bind fun x F => if rcv m F x then (evs C P es ls F).bind fun ds F => methop m x ds F else .bad := by rw [ev]
@[simp] theorem ev_idx {a i : FE} : ev C P (.idx a i) ls F = (ev C P a ls F).bind fun x F => (ev C P i ls F).bind fun y F => idxop x y F := by rw [ev]
@[simp] theorem ev_slc {a lo hi : FE} : ev C P (.slc a lo hi) ls F = (ev C P a ls F).bind fun x F => (ev C P lo ls F).bind fun l F => (lift (oint l) F).bind fun l F => (ev C P hi ls F).bind fun h F => (lift (oint h) F).bind fun h F => slc1 x l h F := by rw [ev]
/-- one turn of a comprehension -/
def cbody (C : CT) (P : Pg) (vs : List Nat) (elt : FE) (tg : Tg) (ifs : List FE) (ls : Ls) (x : D) (F : FH) : R (List D) := match bindT tg x (wipeL ls vs) with
  | some ls' => (evt C P ifs ls' F).bind fun b F => if b then (ev C P elt ls' F).bind fun y F => .ok [y] F else .ok [] F
  | none => .bad
@[simp] theorem ev_comp {vs : List Nat} {elt : FE} {tg : Tg} {k : IK} {its ifs : List FE} : ev C P (.comp vs elt tg k its ifs) ls F = (evs C P its ls F).bind fun ds F => (lift (walk k ds F) F).bind fun p F => (compL p.2 (cbody C P vs elt tg ifs ls) p.1 [] F).bind newL := by
  rw [ev]
  congr 1
  funext ds F
  rcases walk k ds F with _ | ⟨xs, g⟩ <;> rfl
/-- one turn of the inner walk, of the outer one -/
def cbody2 (C : CT) (P : Pg) (vs : List Nat) (elt : FE) (tg : Tg) (ifs : List FE) (tg2 : Tg) (k2 : IK) (its2 ifs2 : List FE) (ls : Ls) (x : D) (F : FH) : R (List D) := match bindT tg x (wipeL ls vs) with
  | some ls' => (evt C P ifs ls' F).bind fun b F => if b then (evs C P its2 ls' F).bind fun ds2 F => (lift (walk k2 ds2 F) F).bind fun p F => compL p.2 (cbody C P (tgS tg2) elt tg2 ifs2 ls') p.1 [] F else .ok [] F
  | none => .bad
@[simp] theorem ev_comp2 {vs : List Nat} {elt : FE} {tg : Tg} {k : IK} {its ifs : List FE} {tg2 : Tg} {k2 : IK} {its2 ifs2 : List FE} : ev C P (.comp2 vs elt tg k its ifs tg2 k2 its2 ifs2) ls F = (evs C P its ls F).bind fun ds F => (lift (walk k ds F) F).bind fun p F => (compL p.2 (cbody2 C P vs elt tg ifs tg2 k2 its2 ifs2 ls) p.1 [] F).bind newL := by
  rw [ev]
  congr 1
  funext ds F
  rcases walk k ds F with _ | ⟨xs, g⟩
  · rfl
  · show (R.bind _ _) = R.bind _ _
    congr 2
    funext x F
    unfold cbody2
    cases bindT tg x (wipeL ls vs) with
    | none => rfl
    | some ls' =>
      show R.bind _ _ = R.bind _ _
      congr 1
      funext b F
      cases b
      · rfl
      · show R.bind _ _ = R.bind _ _
        congr 1
        funext ds2 F
        rcases walk k2 ds2 F with _ | ⟨xs2, g2⟩ <;> rfl
@[simp] theorem ev_what {i : Nat} : ev C P (.what i) ls F = (slotV ls i F).bind fun v F => (match v with
    | .exc _ w => .ok w F
    | _ => .bad) := by
  rw [ev]
  unfold slotV
  split
  · rename_i q
    simp [q]
  · rename_i q
    split
    · rename_i v q'
      cases v with
      | exc c w => exact absurd q' (q c w)
      | _ => rfl
    · rfl
@[simp] theorem evs_nil : evs C P [] ls F = .ok [] F := by rw [evs]
@[simp] theorem evs_cons {e : FE} {r : List FE} : evs C P (e :: r) ls F = (ev C P e ls F).bind fun x F => (evs C P r ls F).bind fun xs F => .ok (x :: xs) F := by rw [evs]
@[simp] theorem evt_nil : evt C P [] ls F = .ok true F := by rw [evt]
@[simp] theorem evt_cons {e : FE} {r : List FE} : evt C P (e :: r) ls F = (ev C P e ls F).bind fun x F => (lift (truth F x) F).bind fun b F => if b then evt C P r ls F else .ok false F := by rw [evt]
/-- an argument -/
def argv (C : CT) (P : Pg) (e : FE) (ls : Ls) (F : FH) : R SV := match e with
  | .var i => slotV ls i F
  | e => (ev C P e ls F).bind fun x F => .ok (.d x) F
@[simp] theorem argv_var {i : Nat} : argv C P (.var i) ls F = slotV ls i F := nd rfl
@[simp] theorem argv_non  : argv C P .non ls F = (ev C P .non ls F).bind fun x F => .ok (.d x) F := nd rfl
@[simp] theorem argv_bl {b : Bool} : argv C P (.bl b) ls F = (ev C P (.bl b) ls F).bind fun x F => .ok (.d x) F := nd rfl
@[simp] theorem argv_int {i : Int} : argv C P (.int i) ls F = (ev C P (.int i) ls F).bind fun x F => .ok (.d x) F := nd rfl
@[simp] theorem argv_str {x : String} : argv C P (.str x) ls F = (ev C P (.str x) ls F).bind fun x F => .ok (.d x) F := nd rfl
@[simp] theorem argv_glob {x : String} : argv C P (.glob x) ls F = (ev C P (.glob x) ls F).bind fun x F => .ok (.d x) F := nd rfl
@[simp] theorem argv_fn {x : String} : argv C P (.fn x) ls F = (ev C P (.fn x) ls F).bind fun x F => .ok (.d x) F := nd rfl
@[simp] theorem argv_tup {es : List FE} : argv C P (.tup es) ls F = (ev C P (.tup es) ls F).bind fun x F => .ok (.d x) F := nd rfl
@[simp] theorem argv_lst {es : List FE} : argv C P (.lst es) ls F = (ev C P (.lst es) ls F).bind fun x F => .ok (.d x) F := nd rfl
@[simp] theorem argv_bin {o : BO} {a b : FE} : argv C P (.bin o a b) ls F = (ev C P (.bin o a b) ls F).bind fun x F => .ok (.d x) F := nd rfl
@[simp] theorem argv_neg {a : FE} : argv C P (.neg a) ls F = (ev C P (.neg a) ls F).bind fun x F => .ok (.d x) F := nd rfl
@[simp] theorem argv_not {a : FE} : argv C P (.not a) ls F = (ev C P (.not a) ls F).bind fun x F => .ok (.d x) F := nd rfl
@[simp] theorem argv_cmp {o : CO} {a b : FE} : argv C P (.cmp o a b) ls F = (ev C P (.cmp o a b) ls F).bind fun x F => .ok (.d x) F := nd rfl
@[simp] theorem argv_chain {o o' : CO} {a b c : FE} : argv C P (.chain o o' a b c) ls F = (ev C P (.chain o o' a b c) ls F).bind fun x F => .ok (.d x) F := nd rfl
@[simp] theorem argv_and {a b : FE} : argv C P (.and a b) ls F = (ev C P (.and a b) ls F).bind fun x F => .ok (.d x) F := nd rfl
@[simp] theorem argv_or {a b : FE} : argv C P (.or a b) ls F = (ev C P (.or a b) ls F).bind fun x F => .ok (.d x) F := nd rfl
@[simp] theorem argv_ite {a b c : FE} : argv C P (.ite a b c) ls F = (ev C P (.ite a b c) ls F).bind fun x F => .ok (.d x) F := nd rfl
@[simp] theorem argv_call {f : String} {es : List FE} : argv C P (.call f es) ls F = (ev C P (.call f es) ls F).bind fun x F => .ok (.d x) F := nd rfl
@[simp] theorem argv_callK {f : String} {es ws : List FE} {pm : List Nat} : argv C P (.callK f es pm ws) ls F = (ev C P (.callK f es pm ws) ls F).bind fun x F => .ok (.d x) F := nd rfl
@[simp] theorem argv_callV {i : Nat} {es : List FE} : argv C P (.callV i es) ls F = (ev C P (.callV i es) ls F).bind fun x F => .ok (.d x) F := nd rfl
@[simp] theorem argv_callL {f : String} {b : FE} {cs : List Nat} {es : List FE} : argv C P (.callL f b cs es) ls F = (ev C P (.callL f b cs es) ls F).bind fun x F => .ok (.d x) F := nd rfl
@[simp] theorem argv_bi {b : Bi} {es : List FE} : argv C P (.bi b es) ls F = (ev C P (.bi b es) ls F).bind fun x F => .ok (.d x) F := nd rfl
@[simp] theorem argv_isi {a : FE} {t : String} : argv C P (.isi a t) ls F = (ev C P (.isi a t) ls F).bind fun x F => .ok (.d x) F := nd rfl
@[simp] theorem argv_meth {m : Mt} {o : FE} {es : List FE} : argv C P (.meth m o es) ls F = (ev C P (.meth m o es) ls F).bind fun x F => .ok (.d x) F := nd rfl
@[simp] theorem argv_idx {a b : FE} : argv C P (.idx a b) ls F = (ev C P (.idx a b) ls F).bind fun x F => .ok (.d x) F := nd rfl
@[simp] theorem argv_slc {a b c : FE} : argv C P (.slc a b c) ls F = (ev C P (.slc a b c) ls F).bind fun x F => .ok (.d x) F := nd rfl
@[simp] theorem argv_comp {vs : List Nat} {elt : FE} {tg : Tg} {k : IK} {its ifs : List FE} : argv C P (.comp vs elt tg k its ifs) ls F = (ev C P (.comp vs elt tg k its ifs) ls F).bind fun x F => .ok (.d x) F := nd rfl
@[simp] theorem argv_comp2 {vs : List Nat} {elt : FE} {tg : Tg} {k : IK} {its ifs : List FE} {tg2 : Tg} {k2 : IK} {its2 ifs2 : List FE} : argv C P (.comp2 vs elt tg k its ifs tg2 k2 its2 ifs2) ls F = (ev C P (.comp2 vs elt tg k its ifs tg2 k2 its2 ifs2) ls F).bind fun x F => .ok (.d x) F := nd rfl
@[simp] theorem argv_what {i : Nat} : argv C P (.what i) ls F = (ev C P (.what i) ls F).bind fun x F => .ok (.d x) F := nd rfl
@[simp] theorem eva_nil : eva C P [] ls F = .ok [] F := by rw [eva]
@[simp] theorem evaCons {e : FE} {r : List FE} : eva C P (e :: r) ls F = (argv C P e ls F).bind fun v F => (eva C P r ls F).bind fun vs F => .ok (v :: vs) F := by
  rw [eva.eq_def]
  dsimp only
  unfold argv
  cases e <;> rfl
/-! ### statements -/
@[simp] theorem ex_ex {e : FE} : ex C P (.ex e) ls F = (ev C P e ls F).bind fun _ F => .ok (.nx ls) F := by rw [ex]
@[simp] theorem ex_ret {e : FE} : ex C P (.ret e) ls F = (ev C P e ls F).bind fun x F => .ok (.rt x) F := by rw [ex]
@[simp] theorem ex_asg {t : Tg} {e : FE} : ex C P (.asg t e) ls F = (ev C P e ls F).bind fun x F => (lift (bindT t x ls) F).bind fun ls F => .ok (.nx ls) F := by rw [ex]
@[simp] theorem ex_par {i j : Nat} {a b : FE} : ex C P (.par i j a b) ls F = (ev C P a ls F).bind fun x F => (ev C P b ls F).bind fun y F => .ok (.nx ((ls.set i (some (.d x))).set j (some (.d y)))) F := by rw [ex]
@[simp] theorem ex_setI {o i v : FE} : ex C P (.setI o i v) ls F = (ev C P v ls F).bind fun z F => (ev C P o ls F).bind fun x F => (ev C P i ls F).bind fun y F => (lift (setIop x y z F) F).bind fun F' _ => .ok (.nx ls) F' := by
  rw [ex]
  congr 1
  funext z F
  congr 1
  funext x F
  congr 1
  funext y F
  cases setIop x y z F <;> rfl
@[simp] theorem ex_ite {c : FE} {a b : List FS} : ex C P (.ite c a b) ls F = (ev C P c ls F).bind fun x F => (lift (truth F x) F).bind fun k F => if k then exs C P a ls F else exs C P b ls F := by rw [ex]
def wtest (C : CT) (P : Pg) (c : FE) (ls : Ls) (F : FH) : R Bool := (ev C P c ls F).bind fun x F => lift (truth F x) F
@[simp] theorem ex_whl {m : Nat} {c : FE} {b : List FS} : ex C P (.whl m c b) ls F = whlL (wtest C P c) (exs C P b) m ls F := by rw [ex]; rfl
/-- one turn of a loop -/
def fbody (C : CT) (P : Pg) (t : Tg) (b : List FS) (x : D) (ls : Ls) (F : FH) : R O := match bindT t x ls with
  | some ls => exs C P b ls F
  | none => .bad
@[simp] theorem ex_for {t : Tg} {k : IK} {its : List FE} {b : List FS} : ex C P (.for_ t k its b) ls F = (evs C P its ls F).bind fun ds F => (lift (walk k ds F) F).bind fun p F => forL p.2 (fbody C P t b) p.1 ls F := by
  rw [ex]
  congr 1
  funext ds F
  rcases walk k ds F with _ | ⟨xs, g⟩ <;> rfl
@[simp] theorem ex_brk : ex C P .brk ls F = .ok (.bk ls) F := by rw [ex]
@[simp] theorem ex_cnt : ex C P .cnt ls F = .ok (.ct ls) F := by rw [ex]
@[simp] theorem ex_pass : ex C P .pass ls F = .ok (.nx ls) F := by rw [ex]
@[simp] theorem ex_raise {c : String} {e : FE} : ex C P (.raise c e) ls F = (ev C P e ls F).bind fun x F => .exc c x F := by rw [ex]
def R.tr (r : R O) (h : String → D → FH → R O) : R O := match r with
  | .exc c w F' => h c w F'
  | r => r
@[simp] theorem tr_ok (o : O) (F : FH) (h : String → D → FH → R O) : (R.ok o F).tr h = .ok o F := nd rfl
@[simp] theorem tr_exc (c : String) (w : D) (F : FH) (h : String → D → FH → R O) : (R.exc c w F : R O).tr h = h c w F := nd rfl
@[simp] theorem ex_try {b hs : List FS} : ex C P (.try_ b hs) ls F = (exs C P b ls F).tr fun c w F' => hds C P hs c w ls F' := by
  rw [ex]
  cases exs C P b ls F <;> rfl
@[simp] theorem hds_nil {c : String} {w : D} : hds C P [] c w ls F = .exc c w F := by rw [hds]
def R.hnd (r : R O) : R O := match r with
  | .ok (.rt d) F' => .ok (.rt d) F'
  | _ => .bad
@[simp] theorem hnd_rt (d : D) (F : FH) : (R.ok (.rt d) F).hnd = .ok (.rt d) F := nd rfl
theorem hds_cons {c c' : String} {i : Nat} {b : List FS} {r : List FS} {w : D} : hds C P (.hnd c' i b :: r) c w ls F = if c = c' ∨ c' = "Refused" then (exs C P b (ls.set i (some (.exc c w))) F).hnd else hds C P r c w ls F := by
  rw [hds]
  rfl
@[simp] theorem hds_hit {c : String} {i : Nat} {b : List FS} {r : List FS} {w : D} : hds C P (.hnd c i b :: r) c w ls F = (exs C P b (ls.set i (some (.exc c w))) F).hnd := by
  rw [hds_cons, if_pos (.inl rfl)]
end
/-! ### operations -/
@[simp] theorem truth_bl (F : FH) (b : Bool) : truth F (.bl b) = some b := nd rfl
@[simp] theorem truth_int (F : FH) (i : Int) : truth F (.int i) = some (i != 0) := nd rfl
@[simp] theorem truth_non (F : FH) : truth F .non = some false := nd rfl
@[simp] theorem truth_tup (F : FH) (ds : List D) : truth F (.tup ds) = some (!ds.isEmpty) := nd rfl
@[simp] theorem oint_non : oint .non = some none := nd rfl
@[simp] theorem oint_int (i : Int) : oint (.int i) = some (some i) := nd rfl
@[simp] theorem isd_non_non : isd .non .non = some true := nd rfl
@[simp] theorem isd_tup_non (ds : List D) : isd (.tup ds) .non = some false := nd rfl
@[simp] theorem isd_int_non (i : Int) : isd (.int i) .non = some false := nd rfl
@[simp] theorem isd_str_non (x : Str) : isd (.str x) .non = some false := nd rfl
@[simp] theorem isd_bl_non (b : Bool) : isd (.bl b) .non = some false := nd rfl
@[simp] theorem isd_bl_bl (a b : Bool) : isd (.bl a) (.bl b) = some (a == b) := nd rfl
@[simp] theorem isd_non_bl (b : Bool) : isd .non (.bl b) = some false := nd rfl
@[simp] theorem isd_int_bl (i : Int) (b : Bool) : isd (.int i) (.bl b) = some false := nd rfl
@[simp] theorem isd_tup_bl (ds : List D) (b : Bool) : isd (.tup ds) (.bl b) = some false := nd rfl
@[simp] theorem isd_str_bl (x : Str) (b : Bool) : isd (.str x) (.bl b) = some false := nd rfl
@[simp] theorem isd_ref_non (n : Nat) : isd (.ref n) .non = some false := nd rfl
section
variable (F : FH) (a b : D) (i j : Int)
@[simp] theorem cmp_eq : cmpop .eq a b F = eqd F a b := nd rfl
@[simp] theorem cmp_ne : cmpop .ne a b F = (eqd F a b).map (!·) := nd rfl
@[simp] theorem cmp_is : cmpop .is a b F = isd a b := nd rfl
@[simp] theorem cmp_isn : cmpop .isn a b F = (isd a b).map (!·) := nd rfl
@[simp] theorem cmp_mem : cmpop .mem a b F = memD F a b := nd rfl
@[simp] theorem cmp_nmem : cmpop .nmem a b F = (memD F a b).map (!·) := nd rfl
@[simp] theorem cmp_lt : cmpop .lt (.int i) (.int j) F = some (decide (i < j)) := nd rfl
@[simp] theorem cmp_le : cmpop .le (.int i) (.int j) F = some (decide (i ≤ j)) := nd rfl
@[simp] theorem cmp_gt : cmpop .gt (.int i) (.int j) F = some (decide (j < i)) := nd rfl
@[simp] theorem cmp_ge : cmpop .ge (.int i) (.int j) F = some (decide (j ≤ i)) := nd rfl
@[simp] theorem items_tup (ds : List D) : items F (.tup ds) = some ds := nd rfl
@[simp] theorem lis_frl (ds : List D) : lis F (.frl ds) = some ds := nd rfl
@[simp] theorem items_frl (ds : List D) : items F (.frl ds) = some ds := nd rfl
@[simp] theorem items_ref (n : Nat) : items F (.ref n) = lis F (.ref n) := nd rfl
theorem lis_ref {n : Nat} {ds : List D} (h : F[n]? = some (.lst ds)) : lis F (.ref n) = some ds := by simp [lis, h]
@[simp] theorem lis_new (ds : List D) : lis (F ++ [.lst ds]) (.ref F.length) = some ds := lis_ref _ (by simp)
@[simp] theorem typ_non (t : String) : typOk t .non F = some false := nd rfl
@[simp] theorem typ_bl (t : String) (b : Bool) : typOk t (.bl b) F = some (t == "bool" || t == "int") := nd rfl
@[simp] theorem typ_int (t : String) : typOk t (.int i) F = some (t == "int") := nd rfl
@[simp] theorem typ_str (t : String) (x : Str) : typOk t (.str x) F = some (t == "str") := nd rfl
@[simp] theorem typ_tup (t : String) (ds : List D) : typOk t (.tup ds) F = some (t == "tuple") := nd rfl
@[simp] theorem len_tup (ds : List D) : biop .len [.tup ds] F = .ok (.int ds.length) F := nd rfl
theorem len_lis {d : D} {ds : List D} (h : lis F d = some ds) : biop .len [d] F = .ok (.int ds.length) F := by
  cases d <;> first | (cases h; done) | (simp [biop, h]; done) | (simp only [lis, Option.some.injEq] at h; simp [biop, h])
theorem tuple_lis {d : D} {ds : List D} (h : items F d = some ds) : biop .tuple [d] F = .ok (.tup ds) F := by
  show (match items F d with | some ds => _ | none => _) = _
  rw [h]
theorem list_lis {d : D} {ds : List D} (h : items F d = some ds) : biop .list [d] F = newL ds F := by
  show (match items F d with | some ds => _ | none => _) = _
  rw [h]
@[simp] theorem bi_int_int : biop .int [.int i] F = .ok (.int i) F := nd rfl
@[simp] theorem bi_int_bl (k : Bool) : biop .int [.bl k] F = .ok (.int (if k then 1 else 0)) F := nd rfl
@[simp] theorem bi_max : biop .max [.int i, .int j] F = .ok (.int (if j > i then j else i)) F := nd rfl
@[simp] theorem bi_min : biop .min [.int i, .int j] F = .ok (.int (if j < i then j else i)) F := nd rfl
@[simp] theorem bi_dict0 : biop .dict0 [] F = .ok (.ref F.length) (F ++ [.dic 0 []]) := nd rfl
@[simp] theorem add_int : binop .add (.int i) (.int j) F = .ok (.int (i + j)) F := nd rfl
@[simp] theorem sub_int : binop .sub (.int i) (.int j) F = .ok (.int (i - j)) F := nd rfl
@[simp] theorem add_tup (xs ys : List D) : binop .add (.tup xs) (.tup ys) F = newT (xs ++ ys) F := nd rfl
theorem newT_ok {ds : List D} (h : ds.length ≤ 16777216) : newT ds F = .ok (.tup ds) F := by simp [newT, big, h]
theorem newL_ok {ds : List D} (h : ds.length ≤ 16777216) : newL ds F = .ok (.ref F.length) (F ++ [.lst ds]) := by simp [newL, big, h, new]
@[simp] theorem newT_nil : newT [] F = .ok (.tup []) F := nd rfl
@[simp] theorem newL_nil : newL [] F = .ok (.ref F.length) (F ++ [.lst []]) := nd rfl
@[simp] theorem newT1 : newT [a] F = .ok (.tup [a]) F := nd rfl
@[simp] theorem newT2 : newT [a, b] F = .ok (.tup [a, b]) F := nd rfl
@[simp] theorem newT3 (c : D) : newT [a, b, c] F = .ok (.tup [a, b, c]) F := nd rfl
@[simp] theorem walk_plain_tup (ds : List D) : walk .plain [.tup ds] F = some (ds, []) := nd rfl
@[simp] theorem walk_plain_frl (ds : List D) : walk .plain [.frl ds] F = some (ds, []) := nd rfl
theorem walk_plain_ref {n : Nat} {ds : List D} (h : F[n]? = some (.lst ds)) : walk .plain [.ref n] F = some (ds, [(n, .lst ds)]) := by simp [walk, seqG, h]
@[simp] theorem walk_enum_tup (ds : List D) : walk .enum [.tup ds] F = some (enumL ds, []) := nd rfl
theorem walk_range1 (h : -4611686018427387904 ≤ j ∧ j < 4611686018427387904) : walk .range [.int j] F = some (rng 0 j, []) := by
  simp [walk, bnd]
  omega
theorem walk_range2 (h : -4611686018427387904 ≤ j ∧ j < 4611686018427387904) (h' : -4611686018427387904 ≤ i ∧ i < 4611686018427387904) : walk .range [.int i, .int j] F = some (rng i j, []) := by
  simp [walk, bnd]
  omega
end
@[simp] theorem ite_ok {c : Prop} [Decidable c] (a b : D) (F : FH) : (if c then R.ok a F else R.ok b F) = R.ok (if c then a else b) F := by split <;> rfl
@[simp] theorem ite_okb {c : Prop} [Decidable c] (a b : Bool) (F : FH) : (if c then R.ok a F else R.ok b F) = R.ok (if c then a else b) F := by split <;> rfl
@[simp] theorem ite_bl {c : Prop} [Decidable c] (a b : Bool) : (if c then D.bl a else D.bl b) = D.bl (if c then a else b) := by split <;> rfl
/-! ### loops -/
/-- what a turn's end owes: on to the next one by J, or the loop's end by Z -/
def Turn' (J : Ls → FH → Prop) (Z : R O → Prop) : R O → Prop
  | .ok (.nx ls') F' => J ls' F'
  | .ok (.ct ls') F' => J ls' F'
  | .ok (.bk ls') F' => Z (.ok (.nx ls') F')
  | .ok (.rt d) F' => Z (.ok (.rt d) F')
  | .exc c w F' => Z (.exc c w F')
  | .bad => False
@[simp] theorem turn_nx {J : Ls → FH → Prop} {Z : R O → Prop} {ls : Ls} {F : FH} : Turn' J Z (.ok (.nx ls) F) ↔ J ls F := Iff.rfl
@[simp] theorem turn_ct {J : Ls → FH → Prop} {Z : R O → Prop} {ls : Ls} {F : FH} : Turn' J Z (.ok (.ct ls) F) ↔ J ls F := Iff.rfl
@[simp] theorem turn_bk {J : Ls → FH → Prop} {Z : R O → Prop} {ls : Ls} {F : FH} : Turn' J Z (.ok (.bk ls) F) ↔ Z (.ok (.nx ls) F) := Iff.rfl
@[simp] theorem turn_rt {J : Ls → FH → Prop} {Z : R O → Prop} {d : D} {F : FH} : Turn' J Z (.ok (.rt d) F) ↔ Z (.ok (.rt d) F) := Iff.rfl
@[simp] theorem turn_exc {J : Ls → FH → Prop} {Z : R O → Prop} {c : String} {d : D} {F : FH} : Turn' J Z (.exc c d F) ↔ Z (.exc c d F) := Iff.rfl
@[simp] theorem turn_bad {J : Ls → FH → Prop} {Z : R O → Prop} : Turn' J Z .bad ↔ False := Iff.rfl
theorem turn_to {J : Ls → FH → Prop} {Z : R O → Prop} {r : R O} {ls : Ls} {F : FH} (h : J ls F) (e : r = .ok (.nx ls) F) : Turn' J Z r := by rw [e]; exact h
theorem turn_ret {J : Ls → FH → Prop} {Z : R O → Prop} {r : R O} {d : D} {F : FH} (h : Z (.ok (.rt d) F)) (e : r = .ok (.rt d) F) : Turn' J Z r := by rw [e]; exact h
theorem turn_brk {J : Ls → FH → Prop} {Z : R O → Prop} {r : R O} {ls : Ls} {F : FH} (h : Z (.ok (.nx ls) F)) (e : r = .ok (.bk ls) F) : Turn' J Z r := by rw [e]; exact h
theorem turn_cnt {J : Ls → FH → Prop} {Z : R O → Prop} {r : R O} {ls : Ls} {F : FH} (h : J ls F) (e : r = .ok (.ct ls) F) : Turn' J Z r := by rw [e]; exact h
theorem turn_raise {J : Ls → FH → Prop} {Z : R O → Prop} {r : R O} {c : String} {w : D} {F : FH} (h : Z (.exc c w F)) (e : r = .exc c w F) : Turn' J Z r := by rw [e]; exact h
theorem forL_ind {g : Gd} {body : D → Ls → FH → R O} {J : List D → Ls → FH → Prop} {Z : R O → Prop} : ∀ {xs : List D} {ls : Ls} {F : FH} {r : R O} (e : forL g body xs ls F = r) (done : List D)
    (hg : ∀ pre post ls F, done ++ xs = pre ++ post → J pre ls F → gok g F = true) (hend : ∀ ls F, J (done ++ xs) ls F → Z (.ok (.nx ls) F))
    (hstep : ∀ pre x post ls F, done ++ xs = pre ++ x :: post → J pre ls F → Turn' (J (pre ++ [x])) Z (body x ls F))
    (h0 : J done ls F), Z r
  | [], ls, F, r, e, done, hg, hend, hstep, h0 => by
    rw [forL, if_pos (hg done [] ls F (by simp) h0)] at e
    subst e
    exact hend ls F (by simpa using h0)
  | x :: xs, ls, F, r, e, done, hg, hend, hstep, h0 => by
    rw [forL, if_pos (hg done (x :: xs) ls F rfl h0)] at e
    have hs := hstep done x xs ls F rfl h0
    have next : ∀ {ls' F'}, forL g body xs ls' F' = r → J (done ++ [x]) ls' F' → Z r := fun {ls' F'} e' h' =>
      forL_ind e' (done ++ [x]) (by simpa using hg) (by simpa using hend) (by simpa using hstep) h'
    revert hs e
    cases body x ls F with
    | ok o F' => cases o with
      | nx ls' => exact fun e hs => next e hs
      | ct ls' => exact fun e hs => next e hs
      | bk ls' => exact fun e hs => by rw [← e]; exact hs
      | rt d => exact fun e hs => by rw [← e]; exact hs
    | exc c w F' => exact fun e hs => by rw [← e]; exact hs
    | bad => exact fun e hs => hs.elim
theorem pre_get {xs pre post : List D} {x : D} (e : xs = pre ++ x :: post) : xs[pre.length]? = some x := by
  subst e
  simp
/-- by how many turns are done -/
theorem forL_ix {g : Gd} {body : D → Ls → FH → R O} {J : Nat → Ls → FH → Prop} {Z : R O → Prop} {xs : List D} {ls : Ls} {F : FH} {r : R O} (e : forL g body xs ls F = r)
    (h0 : J 0 ls F) (hstep : ∀ k x ls F, xs[k]? = some x → J k ls F → Turn' (J (k + 1)) Z (body x ls F)) (hend : ∀ ls F, J xs.length ls F → Z (.ok (.nx ls) F))
    (hg : ∀ k ls F, k ≤ xs.length → J k ls F → gok g F = true := by intros; rfl) : Z r :=
  forL_ind (J := fun pre => J pre.length) e [] (fun pre post ls F q h => hg pre.length ls F (by have := congrArg List.length q; simp at this; omega) h) (by simpa using hend)
    (fun pre x post ls F q h => by simpa using hstep pre.length x ls F (pre_get (by simpa using q)) h) h0
@[simp] theorem gok_nil (F : FH) : gok [] F = true := nd rfl
theorem enumGet {ds : List D} {k : Nat} {x : D} : (enumL ds)[k]? = some x ↔ ∃ d, ds[k]? = some d ∧ x = .tup [.int k, d] := by
  unfold enumL
  rw [List.getElem?_zipWith]
  by_cases h : k < ds.length
  · rw [List.getElem?_range h, List.getElem?_eq_getElem h]
    simp [eq_comm]
  · rw [List.getElem?_eq_none (by simpa using h : ds.length ≤ k)]
    simp
@[simp] theorem enumL_length (ds : List D) : (enumL ds).length = ds.length := by simp [enumL]
theorem rngGet {i j : Int} {k : Nat} {x : D} : (rng i j)[k]? = some x ↔ (i + k < j) ∧ x = .int (i + k) := by
  unfold rng
  rw [List.getElem?_map]
  by_cases h : k < (j - i).toNat
  · rw [List.getElem?_range h]
    simp only [Option.map_some, Option.some.injEq]
    exact ⟨fun e => ⟨by omega, e.symm⟩, fun e => e.2.symm⟩
  · rw [List.getElem?_eq_none (by simpa using h)]
    simp only [Option.map_none]
    exact ⟨fun e => (by cases e), fun e => by omega⟩
@[simp] theorem rng_length (i j : Int) : (rng i j).length = (j - i).toNat := by simp [rng]
/-- a while loop: by a measure -/
theorem whlL_ind {test : Ls → FH → R Bool} {body : Ls → FH → R O} {J : Ls → FH → Prop} {Z : R O → Prop} {m : Ls → FH → Nat} : ∀ {n : Nat} {ls : Ls} {F : FH} {r : R O} (e : whlL test body n ls F = r)
    (h0 : J ls F) (hm : m ls F < n)
    (hstep : ∀ ls F, J ls F → ∃ b F1, test ls F = .ok b F1 ∧ (b = false → Z (.ok (.nx ls) F1)) ∧ (b = true → Turn' (fun ls' F' => J ls' F' ∧ m ls' F' < m ls F) Z (body ls F1))), Z r
  | 0, ls, F, r, e, h0, hm, hstep => by omega
  | n + 1, ls, F, r, e, h0, hm, hstep => by
    rw [whlL] at e
    obtain ⟨b, F1, e1, h1, h2⟩ := hstep ls F h0
    rw [e1] at e
    simp only [↓bind_bnd, bindOk] at e
    cases b with
    | false =>
      simp only [Bool.false_eq_true, if_false] at e
      rw [← e]
      exact h1 rfl
    | true =>
      simp only [if_true] at e
      have hs := h2 rfl
      have next : ∀ {ls' F'}, whlL test body n ls' F' = r → J ls' F' ∧ m ls' F' < m ls F → Z r := fun {ls' F'} e' h' =>
        whlL_ind e' h'.1 (by omega) hstep
      revert hs e
      cases body ls F1 with
      | ok o F' => cases o with
        | nx ls' => exact fun e hs => next e hs
        | ct ls' => exact fun e hs => next e hs
        | bk ls' => exact fun e hs => by rw [← e]; exact hs
        | rt d => exact fun e hs => by rw [← e]; exact hs
      | exc c w F' => exact fun e hs => by rw [← e]; exact hs
      | bad => exact fun e hs => hs.elim
/-! ### comprehensions -/
theorem compL_ix {g : Gd} {body : D → FH → R (List D)} {J : Nat → List D → FH → Prop} : ∀ {xs : List D} {acc : List D} {F : FH} (i : Nat) (h0 : J i acc F)
    (hstep : ∀ k x acc F, xs[k]? = some x → J (i + k) acc F → ∃ ys F', body x F = .ok ys F' ∧ J (i + k + 1) (acc ++ ys) F') (hg : ∀ k acc F, k ≤ xs.length → J (i + k) acc F → gok g F = true),
    ∃ acc' F', compL g body xs acc F = .ok acc' F' ∧ J (i + xs.length) acc' F'
  | [], acc, F, i, h0, hstep, hg => ⟨acc, F, by rw [compL, if_pos (hg 0 acc F (Nat.le_refl _) h0)], h0⟩
  | x :: xs, acc, F, i, h0, hstep, hg => by
    obtain ⟨ys, F', e, h⟩ := hstep 0 x acc F rfl h0
    obtain ⟨acc', F'', e2, h2⟩ := compL_ix (xs := xs) (i + 1) h (fun k x acc F hx hj => by
      have := hstep (k + 1) x acc F (by simpa using hx) (by rw [show i + (k + 1) = i + 1 + k by omega]; exact hj)
      rw [show i + (k + 1) + 1 = i + 1 + k + 1 by omega] at this
      exact this) (fun k acc F hk hj => hg (k + 1) acc F (by simpa using hk) (by rw [show i + (k + 1) = i + 1 + k by omega]; exact hj))
    refine ⟨acc', F'', ?_, ?_⟩
    · rw [compL, if_pos (hg 0 acc F (Nat.zero_le _) h0), e]
      exact e2
    · rw [show i + (x :: xs).length = i + 1 + xs.length by simp; omega]
      exact h2
/-- what every turn makes, the heap as it is -/
theorem compL_const {g : Gd} {body : D → FH → R (List D)} {f : D → List D} {F : FH} (hg : gok g F = true) : ∀ {xs acc : List D}, (∀ x ∈ xs, body x F = .ok (f x) F) → compL g body xs acc F = .ok (acc ++ xs.flatMap f) F
  | [], acc, h => by rw [compL, if_pos hg]; simp
  | x :: xs, acc, h => by
    rw [compL, if_pos hg, h x (by simp)]
    show compL g body xs (acc ++ f x) F = _
    rw [compL_const hg fun y hy => h y (List.mem_cons_of_mem _ hy)]
    simp
/-! ### the heap's frame: all but s stays -/
structure Fr (s : Option Nat) (F F' : FH) : Prop where
  len : F.length ≤ F'.length
  at_ : ∀ k o, F[k]? = some o → some k ≠ s → F'[k]? = some o
theorem Fr.refl (s : Option Nat) (F : FH) : Fr s F F := ⟨Nat.le_refl _, fun _ _ h _ => h⟩
theorem Fr.trans {s : Option Nat} {F F' F'' : FH} (h : Fr s F F') (h' : Fr s F' F'') : Fr s F F'' := ⟨Nat.le_trans h.len h'.len, fun k o e n => h'.at_ k o (h.at_ k o e n) n⟩
theorem Fr.mono {s : Option Nat} {F F' : FH} (h : Fr none F F') : Fr s F F' := ⟨h.len, fun k o e _ => h.at_ k o e (by simp)⟩
theorem Fr.app (s : Option Nat) (F G : FH) : Fr s F (F ++ G) := ⟨by simp, fun k o e _ => by rw [List.getElem?_append_left (List.getElem?_eq_some_iff.mp e).1]; exact e⟩
theorem Fr.get {F F' : FH} (h : Fr none F F') {k : Nat} {o : FO} (e : F[k]? = some o) : F'[k]? = some o := h.at_ k o e (by simp)
theorem Fr.lis {F F' : FH} (h : Fr none F F') {d : D} {ds : List D} (e : lis F d = some ds) : lis F' d = some ds := by
  unfold Fv.lis at e ⊢
  cases d with
  | ref n =>
    simp only at e ⊢
    split at e
    · rename_i q
      rw [h.get q]
      exact e
    · cases e
  | frl ds => exact e
  | _ => cases e
theorem Fr.items {F F' : FH} (h : Fr none F F') {d : D} {ds : List D} (e : items F d = some ds) : items F' d = some ds := by
  unfold Fv.items at e ⊢
  cases d with
  | tup ds => exact e
  | _ => exact h.lis e
/-- a comprehension whose turns leave the heap's frame -/
theorem compL_fr {g : Gd} {body : D → FH → R (List D)} (f : D → List D) {xs : List D} {acc : List D} {F : FH} (hg : ∀ F', Fr none F F' → gok g F' = true) (h : ∀ x ∈ xs, ∀ F', Fr none F F' → ∃ F'', body x F' = .ok (f x) F'' ∧ Fr none F' F'') :
    ∃ F', compL g body xs acc F = .ok (acc ++ xs.flatMap f) F' ∧ Fr none F F' := by
  obtain ⟨acc', F', e, q, fr⟩ := compL_ix (g := g) (body := body) (xs := xs) (acc := acc) (F := F) (J := fun k a F' => a = acc ++ (xs.take k).flatMap f ∧ Fr none F F') 0 ⟨by simp, .refl _ _⟩ (fun k x a F' hx ⟨ha, hf⟩ => by
    obtain ⟨F'', e1, e2⟩ := h x (List.mem_of_getElem? hx) F' hf
    refine ⟨_, F'', e1, ?_, hf.trans e2⟩
    obtain ⟨hk, rfl⟩ := List.getElem?_eq_some_iff.mp hx
    rw [ha, show 0 + k + 1 = k + 1 by omega, show 0 + k = k by omega, List.take_add_one, List.flatMap_append, hx]
    simp) (fun k a F' _ ⟨_, hf⟩ => hg F' hf)
  rw [show 0 + xs.length = xs.length by omega, List.take_length] at q
  exact ⟨F', by rw [e, q], fr⟩
end Fv
set_option Elab.async false
set_option linter.all false
set_option maxRecDepth 100000
/-! M1: rooms and forests of any plain data. -/
namespace Fv
open PySem
theorem suc_of {n k : Nat} (h : k + 1 ≤ n) : ∃ m, n = m + 1 ∧ k ≤ m := ⟨n - 1, by omega, by omega⟩
theorem ball_succ {p : Nat → Prop} {k : Nat} : (∀ j, j < k + 1 → p j) ↔ (∀ j, j < k → p j) ∧ p k := ⟨fun h => ⟨fun j hj => h j (by omega), h k (by omega)⟩, fun ⟨h, q⟩ j hj => by
  by_cases e : j = k
  · subst e; exact q
  · exact h j (by omega)⟩
/-! ### first indexes -/
def firstB (p : Nat → Bool) (n : Nat) : Option Nat := (List.range n).find? p
theorem firstB_none {p : Nat → Bool} {n : Nat} (h : ∀ j, j < n → p j = false) : firstB p n = none := by
  unfold firstB
  rw [List.find?_eq_none]
  intro x hx
  rw [h x (List.mem_range.mp hx)]
  simp
theorem firstB_some {p : Nat → Bool} {n k : Nat} (hk : k < n) (hp : p k = true) (h : ∀ j, j < k → p j = false) : firstB p n = some k := by
  unfold firstB
  rw [List.find?_range_eq_some]
  exact ⟨hp, by simpa using hk, fun j hj => by simpa using h j hj⟩
theorem firstB_some_iff {p : Nat → Bool} {n k : Nat} : firstB p n = some k ↔ k < n ∧ p k = true ∧ ∀ j, j < k → p j = false := by
  unfold firstB
  rw [List.find?_range_eq_some]
  simp
  exact ⟨fun ⟨a, b, c⟩ => ⟨b, a, c⟩, fun ⟨a, b, c⟩ => ⟨b, a, c⟩⟩
theorem firstB_none_iff {p : Nat → Bool} {n : Nat} : firstB p n = none ↔ ∀ j, j < n → p j = false := by
  unfold firstB
  simp
theorem firstB_congr {p q : Nat → Bool} {n : Nat} (h : ∀ j, j < n → p j = q j) : firstB p n = firstB q n := by
  cases e : firstB q n with
  | none => exact firstB_none fun j hj => (h j hj).trans (firstB_none_iff.mp e j hj)
  | some k =>
    obtain ⟨h1, h2, h3⟩ := firstB_some_iff.mp e
    exact firstB_some h1 ((h k h1).trans h2) fun j hj => (h j (by omega)).trans (h3 j hj)
/-- of a row -/
def ixB (p : Nat → D → Bool) (ds : List D) (k : Nat) : Bool := match ds[k]? with
  | some d => p k d
  | none => false
theorem ixB_at {p : Nat → D → Bool} {ds : List D} {k : Nat} {d : D} (h : ds[k]? = some d) : ixB p ds k = p k d := by simp [ixB, h]
def optN : Option Nat → D
  | none => .non
  | some k => .int k
/-- a value, or what is raised instead -/
def orExc (d : D) (F : FH) : Option (String × D) → R D
  | none => .ok d F
  | some (c, w) => .exc c w F
@[simp] theorem orExc_none (d : D) (F : FH) : orExc d F none = .ok d F := nd rfl
@[simp] theorem orExc_some (d : D) (F : FH) (e : String × D) : orExc d F (some e) = .exc e.1 e.2 F := nd rfl
/-! ### plain data -/
theorem pls_get {ds : List D} (h : D.pls ds = true) {k : Nat} {d : D} (e : ds[k]? = some d) : D.pl d = true := by
  induction ds generalizing k with
  | nil => cases e
  | cons x r ih =>
    simp only [D.pls, Bool.and_eq_true] at h
    cases k with
    | zero => cases e; exact h.1
    | succ k => exact ih h.2 (by simpa using e)
theorem pls_iff {ds : List D} : D.pls ds = true ↔ ∀ d ∈ ds, D.pl d = true := by
  induction ds with
  | nil => simp [D.pls]
  | cons x r ih => simp [D.pls, ih]
theorem les_iff {ds : List D} {n : Nat} : D.les ds n = true ↔ ∀ d ∈ ds, D.le d n = true := by
  induction ds with
  | nil => simp [D.les]
  | cons x r ih => simp [D.les, ih]
theorem lis_pl {d : D} (h : D.pl d = true) (F : FH) : lis F d = none := by cases d <;> first | rfl | cases h
theorem eqd_pl {a b : D} {F : FH} (ha : D.pl a = true) (hb : D.pl b = true) (hd : D.le a 50 = true ∨ D.le b 50 = true) : eqd F a b = some (D.eq a b) := by
  unfold eqd
  rw [lis_pl ha, lis_pl hb]
  simp [ha, hb, hd]
theorem eqs_nil (xs : List D) : D.eqs xs [] = xs.isEmpty := by cases xs <;> rfl
theorem eqd_empty {a b : D} {xs : List D} {F : FH} (ha : lis F a = some xs) (hb : lis F b = some []) (hp : D.pls xs = true) : eqd F a b = some xs.isEmpty := by
  unfold eqd
  rw [ha, hb]
  simp [hp, D.pls, D.les, eqs_nil]
/-! ### comprehensions over typed rows -/
section
variable {α : Type} {g : Gd} {body : D → FH → R (List D)} {enc : α → D} {l : List α} {p : α → Bool} {v : α → D} {F : FH}
theorem compL_ty (enc : α → D) (l : List α) (p : α → Bool) (v : α → D) (hg : gok g F = true) (h : ∀ a ∈ l, body (enc a) F = .ok (if p a then [v a] else []) F) : compL g body (l.map enc) [] F = .ok ((l.filter p).map v) F := by
  have key : ∀ (l : List α) (acc : List D), (∀ a ∈ l, body (enc a) F = .ok (if p a then [v a] else []) F) → compL g body (l.map enc) acc F = .ok (acc ++ (l.filter p).map v) F := by
    intro l
    induction l with
    | nil => intro acc _; rw [List.map_nil, compL, if_pos hg]; simp
    | cons a r ih =>
      intro acc h
      rw [List.map_cons, compL, if_pos hg, h a (by simp)]
      show compL g body (r.map enc) (acc ++ if p a = true then [v a] else []) F = _
      rw [ih _ fun b hb => h b (List.mem_cons_of_mem _ hb)]
      cases hp : p a <;> simp [hp]
  simpa using key l [] h
theorem compL_tyF (enc : α → D) (l : List α) (p : α → Bool) (v : α → D) (hg : ∀ F', Fr none F F' → gok g F' = true) (h : ∀ a ∈ l, ∀ F', Fr none F F' → ∃ F'', body (enc a) F' = .ok (if p a then [v a] else []) F'' ∧ Fr none F' F'') :
    ∃ F', compL g body (l.map enc) [] F = .ok ((l.filter p).map v) F' ∧ Fr none F F' := by
  have key : ∀ (l : List α) (acc : List D) (F1 : FH), Fr none F F1 → (∀ a ∈ l, ∀ F', Fr none F F' → ∃ F'', body (enc a) F' = .ok (if p a then [v a] else []) F'' ∧ Fr none F' F'') → ∃ F', compL g body (l.map enc) acc F1 = .ok (acc ++ (l.filter p).map v) F' ∧ Fr none F F' := by
    intro l
    induction l with
    | nil => intro acc F1 f1 _; exact ⟨F1, by rw [List.map_nil, compL, if_pos (hg F1 f1)]; simp, f1⟩
    | cons a r ih =>
      intro acc F1 f1 h
      obtain ⟨F2, e2, f2⟩ := h a (by simp) F1 f1
      obtain ⟨F3, e3, f3⟩ := ih (acc ++ if p a = true then [v a] else []) F2 (f1.trans f2) fun b hb => h b (List.mem_cons_of_mem _ hb)
      refine ⟨F3, ?_, f3⟩
      rw [List.map_cons, compL, if_pos (hg F1 f1), e2]
      show compL g body (r.map enc) (acc ++ if p a = true then [v a] else []) F2 = _
      rw [e3]
      cases hp : p a <;> simp [hp]
  simpa using key l [] F (.refl _ _) h
theorem compL_df (l : List D) (p : D → Bool) (hg : gok g F = true) (h : ∀ a ∈ l, body a F = .ok (if p a then [a] else []) F) : compL g body l [] F = .ok (l.filter p) F := by
  have := compL_ty (g := g) (body := body) (F := F) id l p id hg h
  simpa using this
theorem compL_dv (l : List D) (p : D → Bool) (v : D → D) (hg : gok g F = true) (h : ∀ a ∈ l, body a F = .ok (if p a then [v a] else []) F) : compL g body l [] F = .ok ((l.filter p).map v) F := by
  have := compL_ty (g := g) (body := body) (F := F) id l p v hg h
  simpa using this
end
theorem tuple_ref {F : FH} {k : Nat} {ds : List D} (h : F[k]? = some (.lst ds)) : biop .tuple [.ref k] F = .ok (.tup ds) F := tuple_lis F (by rw [items_ref]; exact lis_ref F h)
theorem len_ref {F : FH} {k : Nat} {ds : List D} (h : F[k]? = some (.lst ds)) : biop .len [.ref k] F = .ok (.int ds.length) F := len_lis F (lis_ref F h)
theorem flatMap_cg {α β : Type} {l : List α} {f g : α → List β} (h : ∀ x ∈ l, f x = g x) : l.flatMap f = l.flatMap g := by
  induction l with
  | nil => rfl
  | cons a r ih => rw [List.flatMap_cons, List.flatMap_cons, h a (by simp), ih fun x hx => h x (List.mem_cons_of_mem _ hx)]
theorem rng_nat (n : Nat) : rng 0 (n : Int) = (List.range n).map fun (k : Nat) => D.int k := by simp [rng]
/-! ### numbers -/
def isWhole : D → Bool
  | .int _ => true
  | _ => false
theorem is_whole_run {P : Pg} {n : Nat} (hP : Has_is_whole P) (hn : 1 ≤ n) {d : D} (hd : D.pl d = true) (F : FH) : run P n (.fn "is_whole") [.d d] F = .ok (.bl (isWhole d)) F := by
  obtain ⟨n, rfl, _⟩ := suc_of hn
  rw [run_fn hP.self _ _ rfl]
  cases d <;> simp [fd_is_whole, isWhole, D.pl] at hd ⊢
/-! ### rooms -/
def isRoomN : D → Bool
  | .int i => decide (0 ≤ i) && decide (i ≤ 4)
  | _ => false
def roomsFault : D → Option (String × D)
  | .tup ds => if (24 : Int) < ds.length then some ("TooMany", .int ds.length) else (firstB (ixB (fun _ d => !isRoomN d) ds) ds.length).map fun (k : Nat) => ("BadRooms", .int k)
  | _ => some ("BadRooms", .int (-1))
theorem made_rooms_run {P : Pg} {n : Nat} (hP : Has_made_rooms P) (hn : 2 ≤ n) {d : D} (hd : D.pl d = true) (F : FH) : run P n (.fn "made_rooms") [.d d] F = orExc d F (roomsFault d) := by
  obtain ⟨n, rfl, hm⟩ := suc_of hn
  rw [run_fn hP.self _ _ rfl]
  cases d with
  | tup ds =>
    simp only [D.pl] at hd
    by_cases h24 : (24 : Int) < ds.length
    · simp [fd_made_rooms, hP.MOST_THINGS, roomsFault, h24]
    · simp [fd_made_rooms, hP.MOST_THINGS, roomsFault, h24]
      generalize e : forL _ _ _ _ _ = r
      have hz := forL_ix e (J := fun k ls F' => F' = F ∧ (∀ j, j < k → ixB (fun _ d => !isRoomN d) ds j = false) ∧ ∃ a b, ls = [some (.d (.tup ds)), a, b]) (Z := fun r => match firstB (ixB (fun _ d => !isRoomN d) ds) ds.length with
          | none => ∃ a b, r = .ok (.nx [some (.d (.tup ds)), a, b]) F
          | some k => r = .exc "BadRooms" (.int k) F) ⟨rfl, by simp, _, _, rfl⟩ ?_ ?_
      · cases q : firstB (ixB (fun _ d => !isRoomN d) ds) ds.length with
        | none =>
          simp only [q] at hz
          obtain ⟨a, b, rfl⟩ := hz
          simp
        | some k =>
          simp only [q] at hz
          subst hz
          simp
      · rintro k x ls F' hx ⟨rfl, hj, a, b, rfl⟩
        obtain ⟨d, hdk, rfl⟩ := enumGet.mp hx
        have hpl := pls_get hd hdk
        by_cases hr : isRoomN d = true
        · obtain ⟨i, rfl, h1, h2⟩ : ∃ i, d = .int i ∧ 0 ≤ i ∧ i ≤ 4 := by
            cases d <;> simp [isRoomN] at hr
            exact ⟨_, rfl, hr⟩
          simp [fbody, bindT, setAll, is_whole_run hP.is_whole hm hpl, hP.MOST_ROOMS, isWhole, h1, h2, ball_succ]
          exact ⟨hj, by simp [ixB, hdk, hr]⟩
        · rw [firstB_some (List.getElem?_eq_some_iff.mp hdk).1 (by simp [ixB, hdk, hr]) hj]
          cases d with
          | int i =>
            have h4 : i < 0 ∨ 4 < i := by simp [isRoomN] at hr; omega
            simp [fbody, bindT, setAll, is_whole_run hP.is_whole hm hpl, hP.MOST_ROOMS, isWhole, h4]
          | _ => simp [fbody, bindT, setAll, is_whole_run hP.is_whole hm hpl, isWhole]
      · rintro ls F' ⟨rfl, hj, a, b, rfl⟩
        rw [firstB_none (by simpa using hj)]
        exact ⟨_, _, rfl⟩
  | _ => simp [fd_made_rooms, roomsFault, D.pl] at hd ⊢
theorem is_rooms_run {P : Pg} {n : Nat} (hP : Has_is_rooms P) (hn : 2 ≤ n) {d : D} (hd : D.pl d = true) (F : FH) : ∃ F', run P n (.fn "is_rooms") [.d d] F = .ok (.bl (roomsFault d).isNone) F' ∧ Fr none F F' := by
  obtain ⟨n, rfl, hm⟩ := suc_of hn
  rw [run_fn hP.self _ _ rfl]
  cases d with
  | tup ds =>
    simp only [D.pl] at hd
    by_cases h24 : (24 : Int) < ds.length
    · exact ⟨F, by simp [fd_is_rooms, hP.MOST_THINGS, roomsFault, h24], .refl _ _⟩
    · have hc : ∀ F, compL [] (cbody (run P n) P [1] (.var 1) (.nm 1) [(.or (.not (.call "is_whole" [(.var 1)])) (.not (.chain .le .le (.int 0) (.var 1) (.glob "MOST_ROOMS"))))] [some (.d (.tup ds)), none]) ds [] F = .ok (ds.filter fun d => !isRoomN d) F := by
        intro F
        refine compL_df ds _ rfl fun d hdm => ?_
        have hpl := pls_iff.mp hd d hdm
        cases d with
        | int i =>
          simp [cbody, wipeL, bindT, is_whole_run hP.is_whole hm hpl, hP.MOST_ROOMS, isWhole, isRoomN]
          by_cases h4 : i < 0 ∨ 4 < i
          · simp [h4]
          · simp [h4]
        | _ => simp [cbody, wipeL, bindT, is_whole_run hP.is_whole hm hpl, isWhole, isRoomN]
      refine ⟨F ++ [.lst (ds.filter fun d => !isRoomN d)] ++ [.lst []], ?_, (Fr.app _ _ _).trans (Fr.app _ _ _)⟩
      have hz : (ds.filter fun d => !isRoomN d).length ≤ 16777216 := by
        have := List.length_filter_le (fun d => !isRoomN d) ds
        omega
      have he : eqd (F ++ [.lst (ds.filter fun d => !isRoomN d)] ++ [.lst []]) (.ref F.length) (.ref (F.length + 1)) = some (ds.filter fun d => !isRoomN d).isEmpty := by
        refine eqd_empty (lis_ref _ (by simp)) (lis_ref _ (by simp)) ?_
        exact pls_iff.mpr fun d hdm => pls_iff.mp hd d (List.mem_filter.mp hdm).1
      have hq : (firstB (ixB (fun _ d => !isRoomN d) ds) ds.length).isNone = (ds.filter fun d => !isRoomN d).isEmpty := by
        rw [Bool.eq_iff_iff]
        simp only [Option.isNone_iff_eq_none, firstB_none_iff, List.isEmpty_iff, List.filter_eq_nil_iff]
        constructor
        · intro h a ha
          obtain ⟨k, hk⟩ := List.mem_iff_getElem?.mp ha
          have := h k (List.getElem?_eq_some_iff.mp hk).1
          simpa [ixB, hk] using this
        · intro h j hj
          have := h ds[j] (List.getElem_mem hj)
          simpa [ixB, List.getElem?_eq_getElem hj] using this
      simp at he
      simp [fd_is_rooms, hP.MOST_THINGS, roomsFault, h24, hc, newL_ok _ hz, he, hq]
  | _ => exact ⟨F, by simp [fd_is_rooms, roomsFault, D.pl] at hd ⊢, .refl _ _⟩
end Fv
set_option Elab.async false
set_option linter.all false
set_option maxRecDepth 100000
/-! M2: places and forests. -/
namespace Fv
open PySem
section
variable {F : FH}
theorem ixN_nat {n k : Nat} (h : k < n) : at_ n (k : Int) = some k := by
  unfold at_ L2.ixN
  simp
  omega
theorem idx_tup {ds : List D} {k : Nat} {d : D} (h : ds[k]? = some d) : idxop (.tup ds) (.int (k : Int)) F = .ok d F := by
  have hk := (List.getElem?_eq_some_iff.mp h).1
  simp [idxop, dicOf, idxL, ixN_nat hk, h]
theorem idx_tupI {ds : List D} {i : Int} {d : D} (h0 : 0 ≤ i) (h : ds[i.toNat]? = some d) : idxop (.tup ds) (.int i) F = .ok d F := by
  have := idx_tup (F := F) h
  rwa [Int.toNat_of_nonneg h0] at this
@[simp] theorem idx_tup0 (a : D) (r : List D) : idxop (.tup (a :: r)) (.int 0) F = .ok a F := idx_tup (k := 0) rfl
@[simp] theorem idx_tup1 (a b : D) (r : List D) : idxop (.tup (a :: b :: r)) (.int 1) F = .ok b F := idx_tup (k := 1) rfl
@[simp] theorem idx_tup2 (a b c : D) (r : List D) : idxop (.tup (a :: b :: c :: r)) (.int 2) F = .ok c F := idx_tup (k := 2) rfl
theorem idx_ref {n : Nat} {ds : List D} {k : Nat} {d : D} (h : F[n]? = some (.lst ds)) (hd : ds[k]? = some d) : idxop (.ref n) (.int (k : Int)) F = .ok d F := by
  have hk := (List.getElem?_eq_some_iff.mp hd).1
  simp [idxop, dicOf, h, idxL, lis_ref _ h, ixN_nat hk, hd]
end
theorem eq_int (i j : Int) : D.eq (.int i) (.int j) = (i == j) := by simp [D.eq]
@[simp] theorem eqd_int (i j : Int) (F : FH) : eqd F (.int i) (.int j) = some (decide (i = j)) := by
  rw [eqd_pl rfl rfl (.inl rfl)]
  simp [D.eq, BEq.beq]
/-! ### places -/
abbrev Pl := Option (Nat × Nat)
def encP : Pl → D
  | none => .non
  | some p => .tup [.int p.1, .int p.2]
@[simp] theorem encP_none : encP none = .non := rfl
@[simp] theorem encP_some (p : Nat × Nat) : encP (some p) = .tup [.int p.1, .int p.2] := rfl
def encR (rs : List Nat) : D := .tup (rs.map fun (r : Nat) => .int r)
def encF (f : List Pl) : D := .tup (f.map encP)
def decN : D → Nat
  | .int i => i.toNat
  | _ => 0
def decP : D → Pl
  | .tup [.int h, .int r] => some (h.toNat, r.toNat)
  | _ => none
def decs : D → List D
  | .tup ds => ds
  | _ => []
def decR (d : D) : List Nat := (decs d).map decN
def decF (d : D) : List Pl := (decs d).map decP
@[simp] theorem decP_encP (p : Pl) : decP (encP p) = p := by cases p <;> rfl
@[simp] theorem decR_encR (rs : List Nat) : decR (encR rs) = rs := by
  simp only [decR, encR, decs, List.map_map]
  conv => rhs; rw [← List.map_id rs]
  exact List.map_congr_left fun a _ => rfl
@[simp] theorem decF_encF (f : List Pl) : decF (encF f) = f := by
  simp only [decF, encF, decs, List.map_map]
  conv => rhs; rw [← List.map_id f]
  exact List.map_congr_left fun a _ => decP_encP a
theorem encP_inj {p q : Pl} (h : encP p = encP q) : p = q := by
  have := congrArg decP h
  simpa using this
@[simp] theorem pl_encP (p : Pl) : D.pl (encP p) = true := by cases p <;> rfl
@[simp] theorem le_encP (p : Pl) (n : Nat) : D.le (encP p) (n + 1) = true := by cases p <;> rfl
@[simp] theorem pl_encR (rs : List Nat) : D.pl (encR rs) = true := by
  simp only [encR, D.pl, pls_iff, List.mem_map]
  rintro d ⟨r, _, rfl⟩
  rfl
@[simp] theorem pls_mapP (f : List Pl) : D.pls (f.map encP) = true := by
  simp only [pls_iff, List.mem_map]
  rintro d ⟨r, _, rfl⟩
  simp
@[simp] theorem les_mapP (f : List Pl) (n : Nat) : D.les (f.map encP) (n + 1) = true := by
  simp only [les_iff, List.mem_map]
  rintro d ⟨r, _, rfl⟩
  simp
@[simp] theorem pl_encF (f : List Pl) : D.pl (encF f) = true := by simp [encF, D.pl]
@[simp] theorem eq_encP (p q : Pl) : D.eq (encP p) (encP q) = decide (p = q) := by
  cases p with
  | none => cases q <;> simp [D.eq]
  | some p => cases q with
    | none => simp [D.eq]
    | some q =>
      obtain ⟨a, b⟩ := p
      obtain ⟨c, d⟩ := q
      simp only [encP_some, D.eq, D.eqs, Bool.and_true]
      rw [Bool.eq_iff_iff]
      simp
      omega
@[simp] theorem eqd_encP (p q : Pl) (F : FH) : eqd F (encP p) (encP q) = some (decide (p = q)) := by
  rw [eqd_pl (by simp) (by simp) (.inl (by simp)), eq_encP]
/-- a right place of x -/
def placeOk (rs : List Nat) (x : Int) : D → Bool
  | .non => true
  | .tup [.int h, .int r] => decide (0 ≤ h ∧ h < rs.length) && (!decide (h = x) && decide (0 ≤ r ∧ r < (rs.getD h.toNat 0 : Nat)))
  | _ => false
theorem is_place_run {P : Pg} {n : Nat} (hP : Has_is_place P) (hn : 2 ≤ n) (rs : List Nat) (x : Int) {d : D} (hd : D.pl d = true) (F : FH) : run P n (.fn "is_place") [.d (encR rs), .d (.int x), .d d] F = .ok (.bl (placeOk rs x d)) F := by
  obtain ⟨n, rfl, hm⟩ := suc_of hn
  rw [run_fn hP.self _ _ rfl]
  have key : ∀ ds : List D, (∀ a b, ds ≠ [a, b]) → run P (n + 1) (.fn "is_place") [.d (encR rs), .d (.int x), .d (.tup ds)] F = .ok (.bl false) F ∧ placeOk rs x (.tup ds) = false := by
    intro ds h
    have h2 : ((ds.length : Int) ≠ 2) := by
      match ds, h with
      | [], _ => simp
      | [_], _ => simp
      | [a, b], h => exact absurd rfl (h a b)
      | _ :: _ :: _ :: _, _ => simp; omega
    refine ⟨?_, ?_⟩
    · rw [run_fn hP.self _ _ rfl]
      simp [fd_is_place, h2]
    · unfold placeOk
      split
      · cases (by assumption : D.tup ds = _)
      · rename_i q; cases q; exact absurd rfl (h _ _)
      · rfl
  cases d with
  | non => simp [fd_is_place, placeOk]
  | tup ds =>
    by_cases hab : ∀ a b, ds ≠ [a, b]
    · obtain ⟨h1, h2⟩ := key ds hab
      rw [run_fn hP.self _ _ rfl] at h1
      rw [h2]
      exact h1
    · have h' : ∃ a b, ds = [a, b] := by
        refine Classical.byContradiction fun z => hab fun a b e => z ⟨a, b, e⟩
      clear hab
      obtain ⟨a, b, rfl⟩ := h'
      simp only [D.pl, D.pls, Bool.and_eq_true] at hd
      cases a with
      | int h =>
        cases b with
        | int r =>
          simp [fd_is_place, is_whole_run hP.is_whole hm hd.1, is_whole_run hP.is_whole hm hd.2.1, isWhole, bindT, setAll, encR, placeOk]
          by_cases h1 : 0 ≤ h
          · by_cases h2 : h < rs.length
            · by_cases h3 : h = x
              · subst h3
                simp [h1, h2]
              · have hl : h.toNat < rs.length := by omega
                have hi : (rs.map fun (r : Nat) => D.int r)[h.toNat]? = some (.int (rs.getD h.toNat 0 : Nat)) := by simp [hl]
                simp [h1, h2, h3, idx_tupI h1 hi]
            · simp [h1, h2]
          · simp [h1]
        | _ => simp [fd_is_place, is_whole_run hP.is_whole hm hd.1, is_whole_run hP.is_whole hm hd.2.1, isWhole, placeOk]
      | _ => simp [fd_is_place, is_whole_run hP.is_whole hm hd.1, is_whole_run hP.is_whole hm hd.2.1, isWhole, placeOk]
  | _ => simp [fd_is_place, placeOk, D.pl] at hd ⊢
theorem first_bad_run {P : Pg} {n : Nat} (hP : Has_first_bad P) (hn : 3 ≤ n) (rs : List Nat) {ds : List D} (hd : D.pls ds = true) (F : FH) :
    run P n (.fn "first_bad") [.d (encR rs), .d (.tup ds)] F = .ok (optN (firstB (ixB (fun k d => !placeOk rs k d) ds) ds.length)) F := by
  obtain ⟨n, rfl, hm⟩ := suc_of hn
  rw [run_fn hP.self _ _ rfl]
  simp [fd_first_bad]
  generalize e : forL _ _ _ _ _ = r
  have hz := forL_ix e (J := fun k ls F' => F' = F ∧ (∀ j, j < k → ixB (fun k d => !placeOk rs k d) ds j = false) ∧ ∃ a b, ls = [some (.d (encR rs)), some (.d (.tup ds)), a, b]) (Z := fun r => match firstB (ixB (fun k d => !placeOk rs k d) ds) ds.length with
    | none => ∃ ls, r = .ok (.nx ls) F
    | some k => r = .ok (.rt (.int k)) F) ⟨rfl, by simp, _, _, rfl⟩ ?_ ?_
  · cases q : firstB (ixB (fun k d => !placeOk rs k d) ds) ds.length with
    | none =>
      simp only [q] at hz
      obtain ⟨ls, rfl⟩ := hz
      simp [optN]
    | some k =>
      simp only [q] at hz
      subst hz
      simp [optN]
  · rintro k x ls F' hx ⟨rfl, hj, a, b, rfl⟩
    obtain ⟨d, hdk, rfl⟩ := enumGet.mp hx
    have hpl := pls_get hd hdk
    simp [fbody, bindT, setAll, is_place_run hP.is_place hm rs k hpl]
    by_cases hr : placeOk rs k d = true
    · simp [hr, ball_succ]
      exact ⟨hj, by simp [ixB, hdk, hr]⟩
    · rw [firstB_some (List.getElem?_eq_some_iff.mp hdk).1 (by simp [ixB, hdk, hr]) hj]
      simp [hr]
  · rintro ls F' ⟨rfl, hj, a, b, rfl⟩
    rw [firstB_none (by simpa using hj)]
    exact ⟨_, rfl⟩
/-! ### climbing -/
def getP (f : List Pl) (x : Nat) : Pl := f.getD x none
theorem get_some {f : List Pl} {x : Nat} (h : x < f.length) : f[x]? = some (getP f x) := by simp [getP, h]
/-- the places around, the own one first -/
def climb (f : List Pl) : Nat → Pl → List (Nat × Nat)
  | 0, _ => []
  | _ + 1, none => []
  | k + 1, some p => p :: climb f k (getP f p.1)
def lies (f : List Pl) (x : Nat) : Bool := ((climb f f.length (getP f x)).map (·.1)).contains x
/-- every holder is a thing -/
def Hold (f : List Pl) : Prop := ∀ (x : Nat) (p : Nat × Nat), f[x]? = some (some p) → p.1 < f.length
theorem lies_run {P : Pg} {n : Nat} (hP : Has_lies_in_itself P) (hn : 1 ≤ n) {f : List Pl} (hf : Hold f) (hl : f.length ≤ 1000) {x : Nat} (hx : x < f.length) (F : FH) :
    run P n (.fn "lies_in_itself") [.d (encF f), .d (.int x)] F = .ok (.bl (lies f x)) F := by
  obtain ⟨n, rfl, hm⟩ := suc_of hn
  rw [run_fn hP.self _ _ rfl]
  simp [fd_lies_in_itself, bindT, encF, walk_range1 F (j := (f.length : Int)) (by omega)]
  generalize e : forL _ _ _ _ _ = r
  have hz := forL_ix e (J := fun k ls F' => F' = F ∧ ∃ (h : Nat) (a : Option SV), ls = [some (.d (.tup (f.map encP))), some (.d (.int x)), some (.d (.int h)), a] ∧ h < f.length ∧ lies f x = ((climb f (f.length - k) (getP f h)).map (·.1)).contains x)
    (Z := fun r => if lies f x then r = .ok (.rt (.bl true)) F else (r = .ok (.rt (.bl false)) F ∨ ∃ ls, r = .ok (.nx ls) F)) ⟨rfl, x, none, rfl, hx, rfl⟩ ?_ ?_
  · cases q : lies f x with
    | true =>
      simp [q] at hz
      subst hz
      rfl
    | false =>
      simp [q] at hz
      rcases hz with rfl | ⟨ls, rfl⟩
      · rfl
      · simp
  · rintro k y ls F' hy ⟨rfl, h, a, rfl, hh, hc⟩
    obtain ⟨hk, rfl⟩ := rngGet.mp hy
    obtain ⟨m, hm⟩ : ∃ m, f.length - k = m + 1 := ⟨f.length - k - 1, by omega⟩
    have hm' : f.length - (k + 1) = m := by omega
    rw [hm] at hc
    cases q : getP f h with
    | none =>
      have hi : (f.map encP)[h]? = some .non := by rw [List.getElem?_map, get_some hh, q]; rfl
      rw [q] at hc
      simp [climb] at hc
      simp [fbody, bindT, idx_tup hi, hc]
    | some p =>
      have hi : (f.map encP)[h]? = some (.tup [.int p.1, .int p.2]) := by rw [List.getElem?_map, get_some hh, q]; rfl
      rw [q] at hc
      have hp : p.1 < f.length := hf h p (by rw [get_some hh, q])
      by_cases e : p.1 = x
      · have : lies f x = true := by rw [hc]; simp [climb, e]
        simp [fbody, bindT, idx_tup hi, e, this]
      · have e' : ¬ ((p.1 : Int) = (x : Int)) := by omega
        simp [fbody, bindT, idx_tup hi, e']
        refine ⟨p.1, rfl, hp, ?_⟩
        rw [hc, hm']
        simp [climb, Ne.symm e]
  · rintro ls F' ⟨rfl, h, a, rfl, hh, hc⟩
    simp at hc
    simp [climb] at hc
    simp [hc]
theorem first_ring_run {P : Pg} {n : Nat} (hP : Has_first_ring P) (hn : 2 ≤ n) {f : List Pl} (hf : Hold f) (hl : f.length ≤ 1000) (F : FH) :
    run P n (.fn "first_ring") [.d (encF f)] F = .ok (optN (firstB (lies f) f.length)) F := by
  obtain ⟨n, rfl, hm⟩ := suc_of hn
  rw [run_fn hP.self _ _ rfl]
  have hw : walk .range [.int f.length] F = some (rng 0 f.length, []) := walk_range1 F (j := (f.length : Int)) (by omega)
  have he : D.tup (f.map encP) = encF f := rfl
  simp [fd_first_ring, encF, hw]
  generalize e : forL _ _ _ _ _ = r
  have hz := forL_ix e (J := fun k ls F' => F' = F ∧ (∀ j, j < k → lies f j = false) ∧ ∃ a, ls = [some (.d (.tup (f.map encP))), a]) (Z := fun r => match firstB (lies f) f.length with
    | none => ∃ ls, r = .ok (.nx ls) F
    | some k => r = .ok (.rt (.int k)) F) ⟨rfl, by simp, _, rfl⟩ ?_ ?_
  · cases q : firstB (lies f) f.length with
    | none =>
      simp only [q] at hz
      obtain ⟨ls, rfl⟩ := hz
      simp [optN]
    | some k =>
      simp only [q] at hz
      subst hz
      simp [optN]
  · rintro k y ls F' hy ⟨rfl, hj, a, rfl⟩
    obtain ⟨hk, rfl⟩ := rngGet.mp hy
    have hk' : k < f.length := by omega
    simp [fbody, bindT, he, lies_run hP.lies_in_itself hm hf hl hk']
    cases hr : lies f k with
    | false => simp [ball_succ]; exact ⟨hj, hr⟩
    | true =>
      rw [firstB_some hk' hr hj]
      simp
  · rintro ls F' ⟨rfl, hj, a, rfl⟩
    rw [firstB_none (by simpa using hj)]
    exact ⟨_, rfl⟩
/-! ### right forests -/
def badAt (rs : List Nat) (ds : List D) : Option Nat := firstB (ixB (fun k d => !placeOk rs k d) ds) ds.length
def forestFault (rs : List Nat) : D → Option (String × D)
  | .tup ds => if (ds.length : Int) ≠ rs.length then some ("BadForest", .int (-1)) else match badAt rs ds with
    | some k => some ("BadForest", .int k)
    | none => (firstB (lies (decF (.tup ds))) ds.length).map fun (k : Nat) => ("Ring", .int k)
  | _ => some ("BadForest", .int (-1))
structure RF (rs : List Nat) (f : List Pl) : Prop where
  len : f.length = rs.length
  at_ : ∀ (x : Nat) (p : Nat × Nat), f[x]? = some (some p) → p.1 < rs.length ∧ p.1 ≠ x ∧ p.2 < rs.getD p.1 0
  ring : ∀ x, x < f.length → lies f x = false
theorem RF.hold {rs : List Nat} {f : List Pl} (h : RF rs f) : Hold f := fun x p e => by rw [h.len]; exact (h.at_ x p e).1
theorem placeOk_dec {rs : List Nat} {x : Int} {d : D} (h : placeOk rs x d = true) : d = encP (decP d) ∧ ∀ p, decP d = some p → p.1 < rs.length ∧ (p.1 : Int) ≠ x ∧ p.2 < rs.getD p.1 0 := by
  unfold placeOk at h
  split at h
  · exact ⟨rfl, fun p q => by cases q⟩
  · rename_i h' r
    simp at h
    refine ⟨?_, fun p q => ?_⟩
    · simp [decP, encP]
      omega
    · simp [decP] at q
      subst q
      simp
      omega
  · cases h
theorem bad_none {rs : List Nat} {ds : List D} (h : badAt rs ds = none) : D.tup ds = encF (decF (.tup ds)) ∧ ∀ (x : Nat) (p : Nat × Nat), (decF (.tup ds))[x]? = some (some p) → p.1 < rs.length ∧ p.1 ≠ x ∧ p.2 < rs.getD p.1 0 := by
  have hk : ∀ (k : Nat) (d : D), ds[k]? = some d → placeOk rs k d = true := fun k d e => by
    have := firstB_none_iff.mp h k (List.getElem?_eq_some_iff.mp e).1
    simpa [ixB, e] using this
  refine ⟨?_, fun x p e => ?_⟩
  · show D.tup ds = .tup ((ds.map decP).map encP)
    rw [List.map_map]
    congr 1
    conv => lhs; rw [← List.map_id ds]
    refine List.map_congr_left fun a ha => ?_
    obtain ⟨k, e⟩ := List.mem_iff_getElem?.mp ha
    exact (placeOk_dec (hk k a e)).1
  · have e' : (ds.map decP)[x]? = some (some p) := e
    rw [List.getElem?_map] at e'
    cases q : ds[x]? with
    | none => rw [q] at e'; cases e'
    | some d =>
      rw [q] at e'
      have := (placeOk_dec (hk x d q)).2 p (Option.some.inj e')
      exact ⟨this.1, by omega, this.2.2⟩
theorem forest_right {rs : List Nat} {d : D} (h : forestFault rs d = none) : d = encF (decF d) ∧ RF rs (decF d) := by
  unfold forestFault at h
  split at h
  · rename_i ds
    split at h
    · cases h
    · rename_i hl
      split at h
      · cases h
      · rename_i hb
        obtain ⟨h1, h2⟩ := bad_none hb
        have hlen : (decF (.tup ds)).length = ds.length := by simp [decF, decs]
        refine ⟨h1, by rw [hlen]; omega, h2, fun x hx => ?_⟩
        rw [Option.map_eq_none_iff] at h
        exact firstB_none_iff.mp h x (by rwa [hlen] at hx)
  · cases h
theorem hold_of_bad {rs : List Nat} {ds : List D} (h : badAt rs ds = none) (hl : ds.length = rs.length) : Hold (decF (.tup ds)) := fun x p e => by
  have : (decF (.tup ds)).length = ds.length := by simp [decF, decs]
  rw [this, hl]
  exact ((bad_none h).2 x p e).1
theorem made_forest_run {P : Pg} {n : Nat} (hP : Has_made_forest P) (hn : 4 ≤ n) {rs : List Nat} (hr : roomsFault (encR rs) = none) (hl : rs.length ≤ 1000) {d : D} (hd : D.pl d = true) (F : FH) :
    ∃ F', run P n (.fn "made_forest") [.d (encR rs), .d d] F = orExc d F' (forestFault rs d) ∧ Fr none F F' := by
  obtain ⟨n, rfl, hm⟩ := suc_of hn
  rw [run_fn hP.self _ _ rfl]
  have hr' : ∀ F, run P n (.fn "made_rooms") [.d (encR rs)] F = .ok (encR rs) F := fun F => by rw [made_rooms_run hP.made_rooms (by omega) (by simp), hr]; rfl
  have hlr : ∀ F, biop .len [encR rs] F = .ok (.int rs.length) F := fun F => by simp [encR]
  cases d with
  | tup ds =>
    simp only [D.pl] at hd
    by_cases h1 : (ds.length : Int) = rs.length
    · have hfb : ∀ F, run P n (.fn "first_bad") [.d (encR rs), .d (.tup ds)] F = .ok (optN (badAt rs ds)) F := fun F => first_bad_run hP.first_bad hm rs hd F
      cases hb : badAt rs ds with
      | some k => exact ⟨F, by simp [fd_made_forest, hr', bindT, hlr, h1, hfb, hb, optN, forestFault], .refl _ _⟩
      | none =>
        obtain ⟨e1, e2⟩ := bad_none hb
        have hlen : (decF (.tup ds)).length = ds.length := by simp [decF, decs]
        have hfr : ∀ F, run P n (.fn "first_ring") [.d (.tup ds)] F = .ok (optN (firstB (lies (decF (.tup ds))) ds.length)) F := fun F => by
          have := first_ring_run hP.first_ring (n := n) (by omega) (hold_of_bad hb (by omega)) (by omega) F
          rw [← e1, hlen] at this
          exact this
        cases hg : firstB (lies (decF (.tup ds))) ds.length with
        | some k => exact ⟨F, by simp [fd_made_forest, hr', bindT, hlr, h1, hfb, hb, hfr, hg, optN, forestFault], .refl _ _⟩
        | none =>
          have hc : ∀ a b c d F, compL [] (cbody (run P n) P [4] (.ite (.cmp .is (.var 4) .non) .non (.tup [(.idx (.var 4) (.int 0)), (.idx (.var 4) (.int 1))])) (.nm 4) [] [a, b, c, d, none]) ds [] F = .ok ds F := by
            intro a b c d F
            have := compL_ty (g := []) (F := F) (body := cbody (run P n) P [4] (.ite (.cmp .is (.var 4) .non) .non (.tup [(.idx (.var 4) (.int 0)), (.idx (.var 4) (.int 1))])) (.nm 4) [] [a, b, c, d, none]) encP (decF (.tup ds)) (fun _ => true) encP rfl fun p _ => by
              cases p <;> simp [cbody, wipeL, bindT]
            have e3 : (decF (.tup ds)).map encP = ds := by
              have := e1
              simp only [encF, D.tup.injEq] at this
              exact this.symm
            simpa [e3, List.filter_eq_self.mpr] using this
          have hz : ds.length ≤ 16777216 := by omega
          exact ⟨F ++ [.lst ds], by simp [fd_made_forest, hr', bindT, hlr, h1, hfb, hb, hfr, hg, optN, forestFault, hc, newL_ok _ hz, tuple_lis], Fr.app _ _ _⟩
    · exact ⟨F, by simp [fd_made_forest, hr', bindT, hlr, h1, forestFault], .refl _ _⟩
  | _ => exact ⟨F, by simp [fd_made_forest, hr', bindT, forestFault, D.pl] at hd ⊢, .refl _ _⟩
end Fv
set_option Elab.async false
set_option linter.all false
set_option maxRecDepth 100000
/-! M3: ways upward in right forests; standings. -/
namespace Fv
open PySem
theorem nodup_lt : ∀ (n : Nat) (l : List Nat), l.Nodup → (∀ x ∈ l, x < n) → l.length ≤ n
  | 0, l, _, h => by
    cases l with
    | nil => simp
    | cons a r => exact absurd (h a (by simp)) (by omega)
  | n + 1, l, hn, h => by
    by_cases hm : n ∈ l
    · have := nodup_lt n (l.erase n) (hn.erase n) fun x hx => by
        have q := (List.Nodup.mem_erase_iff hn).mp hx
        have := h x q.2
        have := q.1
        omega
      rw [List.length_erase_of_mem hm] at this
      omega
    · have := nodup_lt n l hn fun x hx => by
        have := h x hx
        have : x ≠ n := fun e => hm (e ▸ hx)
        omega
      omega
theorem climb_len (f : List Pl) : ∀ (k : Nat) (p : Pl), (climb f k p).length ≤ k
  | 0, _ => by simp [climb]
  | k + 1, none => by simp [climb]
  | k + 1, some p => by simp [climb, climb_len f k]
theorem climb_take (f : List Pl) : ∀ (j k : Nat) (p : Pl), j ≤ k → climb f j p = (climb f k p).take j
  | 0, k, p, _ => by simp [climb]
  | j + 1, 0, p, h => by omega
  | j + 1, k + 1, none, h => by simp [climb]
  | j + 1, k + 1, some p, h => by simp [climb, climb_take f j k _ (by omega)]
/-- the places around, from p on -/
def way (f : List Pl) (p : Pl) : List (Nat × Nat) := climb f f.length p
section
variable {rs : List Nat} {f : List Pl}
theorem RF.ne (h : RF rs f) {x : Nat} (hx : x < f.length) {k : Nat} (hk : k ≤ f.length) : x ∉ (climb f k (getP f x)).map (·.1) := fun z => by
  have := h.ring x hx
  unfold lies at this
  rw [climb_take f k f.length _ hk, List.map_take] at z
  have z2 := List.mem_of_mem_take z
  simp at this z2
  obtain ⟨a, ha⟩ := z2
  exact this a ha
theorem RF.pl (h : RF rs f) {x : Nat} {p : Nat × Nat} (e : getP f x = some p) : p.1 < f.length := by
  unfold getP at e
  rw [List.getD_eq_getElem?_getD] at e
  cases q : f[x]? with
  | none => rw [q] at e; cases e
  | some o =>
    rw [q] at e
    cases e
    exact h.hold x p q
theorem RF.nodup (h : RF rs f) : ∀ (k : Nat), k ≤ f.length → ∀ x, x < f.length → (x :: (climb f k (getP f x)).map (·.1)).Nodup ∧ ∀ y ∈ (climb f k (getP f x)).map (·.1), y < f.length
  | 0, _, x, hx => by simp [climb]
  | k + 1, hk, x, hx => by
    have hne := h.ne hx hk
    cases e : getP f x with
    | none => simp [climb]
    | some p =>
      rw [e] at hne
      have hp := h.pl e
      obtain ⟨h1, h2⟩ := RF.nodup h k (by omega) p.1 hp
      simp only [climb, List.map_cons] at hne ⊢
      refine ⟨List.nodup_cons.mpr ⟨hne, h1⟩, fun y hy => ?_⟩
      rcases List.mem_cons.mp hy with rfl | hy
      · exact hp
      · exact h2 y hy
theorem RF.short (h : RF rs f) {x : Nat} (hx : x < f.length) : (way f (getP f x)).length < f.length := by
  obtain ⟨h1, h2⟩ := h.nodup f.length (Nat.le_refl _) x hx
  have := nodup_lt f.length _ h1 fun y hy => by
    rcases List.mem_cons.mp hy with rfl | hy
    · exact hx
    · exact h2 y hy
  simp at this
  exact this
@[simp] theorem way_none : way f none = [] := by
  unfold way
  cases f.length <;> rfl
theorem RF.way_some (h : RF rs f) {p : Nat × Nat} (hp : p.1 < f.length) : way f (some p) = p :: way f (getP f p.1) := by
  unfold way
  obtain ⟨m, hm⟩ : ∃ m, f.length = m + 1 := ⟨f.length - 1, by omega⟩
  have hs := h.short hp
  unfold way at hs
  rw [hm] at hs ⊢
  show p :: climb f m (getP f p.1) = _
  rw [climb_take f m (m + 1) _ (by omega), List.take_of_length_le (by omega)]
/-- in which room of y x lies -/
def roomWay (f : List Pl) (x y : Nat) : Option Nat := ((way f (getP f x)).find? fun p => p.1 == y).map (·.2)
theorem decP_two (a b : Nat) : decP (.tup [.int a, .int b]) = some (a, b) := rfl
theorem room_way_run {P : Pg} {n : Nat} (hP : Has_room_way P) (hn : 1 ≤ n) (h : RF rs f) (hl : f.length ≤ 1000) {x y : Nat} (hx : x < f.length) (F : FH) :
    run P n (.fn "room_way") [.d (encF f), .d (.int x), .d (.int y)] F = .ok (optN (roomWay f x y)) F := by
  obtain ⟨n, rfl, hm⟩ := suc_of hn
  rw [run_fn hP.self _ _ rfl]
  have hi : ∀ k, k < f.length → ∀ F, idxop (encF f) (.int (k : Int)) F = .ok (encP (getP f k)) F := fun k hk F => idx_tup (by rw [List.getElem?_map, get_some hk]; rfl)
  simp [fd_room_way, bindT, hi x hx]
  generalize e : whlL _ _ _ _ _ = r
  have hz := whlL_ind (m := fun ls _ => match ls[3]? with
      | some (some (SV.d d)) => (way f (decP d)).length
      | _ => 0) e (J := fun ls F' => F' = F ∧ ∃ p : Pl, ls = [some (.d (encF f)), some (.d (.int x)), some (.d (.int y)), some (.d (encP p))] ∧ (∀ q, p = some q → q.1 < f.length) ∧ roomWay f x y = ((way f p).find? fun p => p.1 == y).map (·.2))
    (Z := fun r => match roomWay f x y with
      | some k => r = .ok (.rt (.int k)) F
      | none => ∃ ls, r = .ok (.nx ls) F) ⟨rfl, getP f x, rfl, fun q e => h.pl e, rfl⟩ ?_ ?_
  · cases q : roomWay f x y with
    | none =>
      simp only [q] at hz
      obtain ⟨ls, rfl⟩ := hz
      simp [optN]
    | some k =>
      simp only [q] at hz
      subst hz
      simp [optN]
  · have := h.short hx
    simp
    omega
  · rintro ls F' ⟨rfl, p, rfl, hp, hr⟩
    cases p with
    | none =>
      refine ⟨false, F', by simp [wtest], fun _ => ?_, fun z => (by cases z)⟩
      rw [hr]
      simp
    | some q =>
      have hq := hp q rfl
      refine ⟨true, F', by simp [wtest], fun z => (by cases z), fun _ => ?_⟩
      rw [h.way_some hq] at hr
      by_cases hy : q.1 = y
      · simp [hy] at hr
        simp [hy, hr]
      · have hy' : ¬ (q.1 : Int) = y := by omega
        simp [hy] at hr
        simp [hy', bindT, hi q.1 hq, decP_two, h.way_some hq]
        exact ⟨_, rfl, fun a b e => h.pl e, hr⟩
end
/-! ### standings -/
inductive St where
  | apart | inn (r : Nat) | ar (r : Nat)
  deriving DecidableEq
def encS : St → D
  | .apart => .tup [.str (so "apart"), .int 0]
  | .inn r => .tup [.str (so "in"), .int r]
  | .ar r => .tup [.str (so "around"), .int r]
def stand (f : List Pl) (x y : Nat) : St := match roomWay f x y with
  | some r => .inn r
  | none => match roomWay f y x with
    | some r => .ar r
    | none => .apart
theorem standing_in_run {P : Pg} {n : Nat} (hP : Has_standing_in P) (hn : 2 ≤ n) {rs : List Nat} {f : List Pl} (h : RF rs f) (hl : f.length ≤ 1000) {x y : Nat} (hx : x < f.length) (hy : y < f.length) (F : FH) :
    run P n (.fn "standing_in") [.d (encF f), .d (.int x), .d (.int y)] F = .ok (encS (stand f x y)) F := by
  obtain ⟨n, rfl, hm⟩ := suc_of hn
  rw [run_fn hP.self _ _ rfl]
  have h1 : ∀ F, run P n (.fn "room_way") [.d (encF f), .d (.int x), .d (.int y)] F = .ok (optN (roomWay f x y)) F := fun F => room_way_run hP.room_way hm h hl hx F
  have h2 : ∀ F, run P n (.fn "room_way") [.d (encF f), .d (.int y), .d (.int x)] F = .ok (optN (roomWay f y x)) F := fun F => room_way_run hP.room_way hm h hl hy F
  cases q : roomWay f x y with
  | some r => simp [fd_standing_in, h1, q, optN, bindT, stand, encS]
  | none =>
    cases q2 : roomWay f y x with
    | some r => simp [fd_standing_in, h1, h2, q, q2, optN, bindT, stand, encS]
    | none => simp [fd_standing_in, h1, h2, q, q2, optN, bindT, stand, encS, hP.APART]
end Fv
set_option Elab.async false
set_option linter.all false
set_option maxRecDepth 100000
/-! M4: how many things lie in a place; commons. -/
namespace Fv
open PySem
/-! ### tables of places -/
abbrev Tab := List (Pl × Nat)
def encT (t : Tab) : List (D × D) := t.map fun q => (encP q.1, .int q.2)
def tget (t : Tab) (p : Pl) : Option Nat := (t.find? fun q => decide (q.1 = p)).map (·.2)
def tput (t : Tab) (p : Pl) (c : Nat) : Tab := if (tget t p).isSome then t.map fun q => if q.1 = p then (q.1, c) else q else t ++ [(p, c)]
theorem dget_encT (t : Tab) (p : Pl) : dget (encT t) (encP p) = (tget t p).map fun (c : Nat) => D.int c := by
  induction t with
  | nil => rfl
  | cons a r ih =>
    simp only [dget, tget, encT, List.map_cons, List.find?_cons, eq_encP] at ih ⊢
    by_cases h : a.1 = p
    · simp [h]
    · simp [h]
      simpa using ih
theorem dput_encT (t : Tab) (p : Pl) (c : Nat) : dput (encT t) (encP p) (.int c) = encT (tput t p c) := by
  unfold dput tput
  rw [dget_encT]
  cases h : (tget t p).isSome with
  | true =>
    have h' : ((tget t p).map fun (c : Nat) => D.int c).isSome = true := by simpa using h
    rw [if_pos h', if_pos rfl]
    simp only [encT, List.map_map]
    refine List.map_congr_left fun a _ => ?_
    simp only [Function.comp, eq_encP]
    by_cases e : a.1 = p
    · simp [e]
    · simp [e]
  | false =>
    have h' : ¬ ((tget t p).map fun (c : Nat) => D.int c).isSome = true := by simpa using h
    rw [if_neg h', if_neg (by simp)]
    simp [encT]
/-- the table of a row -/
structure IsTab (l : List Pl) (t : Tab) : Prop where
  nd : (t.map (·.1)).Nodup
  mem : ∀ p, p ∈ l ↔ p ∈ t.map (·.1)
  cnt : ∀ q ∈ t, q.2 = l.count q.1
theorem tget_some {t : Tab} (hn : (t.map (·.1)).Nodup) {q : Pl × Nat} (h : q ∈ t) : tget t q.1 = some q.2 := by
  induction t with
  | nil => cases h
  | cons a r ih =>
    simp only [List.map_cons, List.nodup_cons] at hn
    unfold tget
    rw [List.find?_cons]
    rcases List.mem_cons.mp h with rfl | h
    · simp
    · have hne : a.1 ≠ q.1 := fun e => hn.1 (e ▸ List.mem_map_of_mem h)
      simp [hne]
      have := ih hn.2 h
      simpa [tget] using this
theorem tget_none {t : Tab} {p : Pl} (h : p ∉ t.map (·.1)) : tget t p = none := by
  unfold tget
  rw [Option.map_eq_none_iff, List.find?_eq_none]
  intro q hq
  simp
  exact fun e => h (e ▸ List.mem_map_of_mem hq)
theorem IsTab.get {l : List Pl} {t : Tab} (h : IsTab l t) (p : Pl) : tget t p = if p ∈ l then some (l.count p) else none := by
  by_cases hp : p ∈ l
  · rw [if_pos hp]
    obtain ⟨q, hq, rfl⟩ := List.mem_map.mp ((h.mem p).mp hp)
    rw [tget_some h.nd hq, h.cnt q hq]
  · rw [if_neg hp]
    exact tget_none fun z => hp ((h.mem p).mpr z)
theorem IsTab.step {l : List Pl} {t : Tab} (h : IsTab l t) (p : Pl) : IsTab (l ++ [p]) (tput t p ((tget t p).getD 0 + 1)) := by
  rw [h.get]
  unfold tput
  rw [h.get]
  by_cases hp : p ∈ l
  · simp only [hp, if_true, Option.isSome_some, Option.getD_some]
    have e : (t.map fun q => if q.1 = p then (q.1, l.count p + 1) else q).map (·.1) = t.map (·.1) := by
      rw [List.map_map]
      refine List.map_congr_left fun a _ => ?_
      simp only [Function.comp]
      split <;> rfl
    refine ⟨by rw [e]; exact h.nd, fun q => ?_, fun q hq => ?_⟩
    · rw [e, ← h.mem]
      simp
      exact fun e => e ▸ hp
    · obtain ⟨a, ha, rfl⟩ := List.mem_map.mp hq
      by_cases ea : a.1 = p
      · simp [ea, List.count_append]
      · simp [ea, List.count_append, h.cnt a ha, List.count_cons, Ne.symm ea]
  · simp only [hp, if_false, Option.isSome_none, Option.getD_none, Bool.false_eq_true]
    refine ⟨?_, fun q => ?_, fun q hq => ?_⟩
    · rw [List.map_append, List.nodup_append]
      refine ⟨h.nd, by simp, fun a ha b hb => ?_⟩
      simp at hb
      subst hb
      exact fun e => hp ((h.mem _).mpr (e ▸ ha))
    · simp [h.mem]
    · rcases List.mem_append.mp hq with hq | hq
      · have hne : ¬ q.1 = p := fun e => hp ((h.mem p).mpr (e ▸ List.mem_map_of_mem hq))
        simp [List.count_append, h.cnt q hq, List.count_cons, Ne.symm hne]
      · simp at hq
        subst hq
        simp [List.count_append, List.count_eq_zero_of_not_mem hp]
theorem IsTab.len {l : List Pl} {t : Tab} (h : IsTab l t) : t.length ≤ l.length := by
  have h2 : ∀ (a b : List Pl), a.Nodup → (∀ x ∈ a, x ∈ b) → a.length ≤ b.length := by
    intro a
    induction a with
    | nil => simp
    | cons x r ih =>
      intro b hn hs
      have hb := hs x (by simp)
      have hn' := List.nodup_cons.mp hn
      have := ih (b.erase x) hn'.2 fun y hy => by
        have : y ≠ x := fun e => hn'.1 (e ▸ hy)
        rw [List.mem_erase_of_ne this]
        exact hs y (List.mem_cons_of_mem _ hy)
      rw [List.length_erase_of_mem hb] at this
      have := List.length_pos_of_mem hb
      simp
      omega
  have := h2 _ l h.nd fun x hx => (h.mem x).mpr hx
  simpa using this
/-! ### order -/
def plKey : Pl → Int × Int
  | none => (-1, -1)
  | some p => (p.1, p.2)
def lePl (x y : Pl) : Bool := leKey (encP x) (encP y)
theorem keyOf_encP (p : Pl) : keyOf (encP p) = plKey p := by cases p <;> rfl
theorem lePl_iff {x y : Pl} : lePl x y = true ↔ ((plKey x).1 < (plKey y).1 ∨ ((plKey x).1 = (plKey y).1 ∧ (plKey x).2 ≤ (plKey y).2)) := by
  unfold lePl leKey
  rw [keyOf_encP, keyOf_encP]
  simp
  omega
theorem plKey_inj {x y : Pl} (h : plKey x = plKey y) : x = y := by
  cases x with
  | none =>
    cases y with
    | none => rfl
    | some q => simp [plKey] at h
  | some p =>
    cases y with
    | none => simp [plKey] at h
    | some q =>
      simp [plKey] at h
      congr 1
      exact Prod.ext (by omega) (by omega)
theorem lePl_trans (x y z : Pl) (h : lePl x y = true) (h' : lePl y z = true) : lePl x z = true := by
  rw [lePl_iff] at h h' ⊢
  omega
theorem lePl_total (x y : Pl) : (lePl x y || lePl y x) = true := by
  rw [Bool.or_eq_true, lePl_iff, lePl_iff]
  omega
theorem lePl_antisymm {x y : Pl} (h : lePl x y = true) (h' : lePl y x = true) : x = y := by
  rw [lePl_iff] at h h'
  exact plKey_inj (Prod.ext (by omega) (by omega))
/-- rows in order, with the same members, without doubles, are one -/
theorem sorted_eq : ∀ (a b : List Pl), a.Pairwise (fun x y => lePl x y = true) → b.Pairwise (fun x y => lePl x y = true) → a.Nodup → b.Nodup → (∀ p, p ∈ a ↔ p ∈ b) → a = b
  | [], [], _, _, _, _, _ => rfl
  | [], y :: b, _, _, _, _, h => absurd ((h y).mpr (by simp)) (by simp)
  | x :: a, [], _, _, _, _, h => absurd ((h x).mp (by simp)) (by simp)
  | x :: a, y :: b, ha, hb, na, nb, h => by
    rw [List.pairwise_cons] at ha hb
    rw [List.nodup_cons] at na nb
    have e : x = y := by
      rcases List.mem_cons.mp ((h x).mp (by simp)) with e | hx
      · exact e
      · rcases List.mem_cons.mp ((h y).mpr (by simp)) with e | hy
        · exact e.symm
        · exact lePl_antisymm (ha.1 y hy) (hb.1 x hx)
    subst e
    rw [sorted_eq a b ha.2 hb.2 na.2 nb.2 fun p => by
      constructor
      · intro hp
        rcases List.mem_cons.mp ((h p).mp (List.mem_cons_of_mem _ hp)) with rfl | q
        · exact absurd hp na.1
        · exact q
      · intro hp
        rcases List.mem_cons.mp ((h p).mpr (List.mem_cons_of_mem _ hp)) with rfl | q
        · exact absurd hp nb.1
        · exact q]
/-- all places of rooms, in order -/
def placesOf (rs : List Nat) : List Pl := none :: (List.range rs.length).flatMap fun x => (List.range (rs.getD x 0)).map fun i => some (x, i)
theorem mem_placesOf {rs : List Nat} {p : Pl} : p ∈ placesOf rs ↔ ∀ q, p = some q → q.1 < rs.length ∧ q.2 < rs.getD q.1 0 := by
  unfold placesOf
  cases p with
  | none => simp
  | some q =>
    obtain ⟨a, b⟩ := q
    simp only [List.mem_cons, List.mem_flatMap, List.mem_range, List.mem_map, Option.some.injEq, Prod.mk.injEq, reduceCtorEq, false_or]
    constructor
    · rintro ⟨x, hx, i, hi, rfl, rfl⟩ q rfl
      exact ⟨hx, hi⟩
    · intro h
      exact ⟨a, (h _ rfl).1, b, (h _ rfl).2, rfl, rfl⟩
theorem placesOf_sorted (rs : List Nat) : (placesOf rs).Pairwise (fun x y => lePl x y = true ∧ x ≠ y) := by
  unfold placesOf
  rw [List.pairwise_cons]
  constructor
  · intro p hp
    simp only [List.mem_flatMap, List.mem_range, List.mem_map] at hp
    obtain ⟨x, _, i, _, rfl⟩ := hp
    refine ⟨lePl_iff.mpr ?_, by simp⟩
    simp [plKey]
    omega
  · rw [List.pairwise_flatMap]
    refine ⟨fun x _ => ?_, ?_⟩
    · rw [List.pairwise_map]
      refine List.Pairwise.imp ?_ List.pairwise_lt_range
      intro i j hij
      refine ⟨lePl_iff.mpr ?_, by simp; omega⟩
      simp [plKey]
      omega
    · refine List.Pairwise.imp ?_ List.pairwise_lt_range
      intro x y hxy p hp q hq
      simp only [List.mem_map] at hp hq
      obtain ⟨i, _, rfl⟩ := hp
      obtain ⟨j, _, rfl⟩ := hq
      refine ⟨lePl_iff.mpr ?_, by simp; omega⟩
      simp [plKey]
      omega
/-- the places in which so many things or more lie -/
def plW (rs : List Nat) (f : List Pl) (least : Nat) : List Pl := (placesOf rs).filter fun p => decide (least ≤ f.count p)
theorem plW_eq {rs : List Nat} {f : List Pl} {t : Tab} {least : Nat} (h : RF rs f) (ht : IsTab f t) (h1 : 1 ≤ least) : ((t.map (·.1)).filter fun p => decide (least ≤ f.count p)).mergeSort lePl = plW rs f least := by
  refine sorted_eq _ _ (List.pairwise_mergeSort (fun x y z => lePl_trans x y z) lePl_total _) ?_ ?_ ?_ fun p => ?_
  · exact List.Pairwise.filter _ ((placesOf_sorted rs).imp fun h => h.1)
  · exact ((List.mergeSort_perm _ lePl).nodup_iff).mpr (List.Pairwise.filter _ ht.nd)
  · exact List.Pairwise.filter _ ((placesOf_sorted rs).imp fun h => h.2)
  · rw [(List.mergeSort_perm _ lePl).mem_iff]
    unfold plW
    rw [List.mem_filter, List.mem_filter, ← ht.mem, mem_placesOf]
    simp only [decide_eq_true_eq]
    constructor
    · rintro ⟨hp, hc⟩
      refine ⟨fun q e => ?_, hc⟩
      subst e
      obtain ⟨k, hk⟩ := List.mem_iff_getElem?.mp hp
      have := h.at_ k q hk
      exact ⟨this.1, this.2.2⟩
    · rintro ⟨_, hc⟩
      exact ⟨List.count_pos_iff.mp (by omega), hc⟩
/-! ### the runs -/
mutual
theorem D.beq_refl : ∀ d : D, D.beq d d = true
  | .non => rfl
  | .bl b => by simp [D.beq]
  | .int i => by simp [D.beq]
  | .str x => by simp [D.beq]
  | .tup ds => by simp [D.beq, D.beqs_refl ds]
  | .ref n => by simp [D.beq]
  | .fn x => by simp [D.beq]
  | .frl ds => by simp [D.beq, D.beqs_refl ds]
theorem D.beqs_refl : ∀ ds : List D, D.beqs ds ds = true
  | [] => rfl
  | d :: r => by simp [D.beqs, D.beq_refl d, D.beqs_refl r]
end
theorem gok_lst {F : FH} {n : Nat} {ds : List D} (h : F[n]? = some (.lst ds)) : gok [(n, .lst ds)] F = true := by simp [gok, gok1, lstIs, h, D.beqs_refl]
theorem gok_dic {F : FH} {n ep : Nat} {kvs : List (D × D)} {ks : List D} (h : F[n]? = some (.dic ep kvs)) (hk : kvs.map (·.1) = ks) : gok [(n, .dic ep ks)] F = true := by simp [gok, gok1, dicIs, h, hk, D.beqs_refl]
@[simp] theorem kOk_encP (p : Pl) : kOk (encP p) = true := by cases p <;> rfl
theorem dicOf_ref {F : FH} {n ep : Nat} {kvs : List (D × D)} (h : F[n]? = some (.dic ep kvs)) : dicOf F (.ref n) = some (ep, kvs) := by simp [dicOf, h]
theorem walk_dic {F : FH} {n ep : Nat} {kvs : List (D × D)} (h : F[n]? = some (.dic ep kvs)) : walk .plain [.ref n] F = some (kvs.map (·.1), [(n, .dic ep (kvs.map (·.1)))]) := by simp [walk, seqG, dicG, h]
theorem keys_encT (t : Tab) : (encT t).map (·.1) = (t.map (·.1)).map encP := by simp [encT, List.map_map, Function.comp_def]
theorem places_with_run {P : Pg} {n : Nat} (hP : Has_places_with P) (hn : 1 ≤ n) {rs : List Nat} {f : List Pl} (h : RF rs f) (hl : f.length ≤ 1000) {least : Nat} (h1 : 1 ≤ least) (F : FH) :
    ∃ k F', run P n (.fn "places_with") [.d (encF f), .d (.int least)] F = .ok (.ref k) F' ∧ F'[k]? = some (.lst ((plW rs f least).map encP)) ∧ Fr none F F' ∧ F.length ≤ k := by
  obtain ⟨n, rfl, hm⟩ := suc_of hn
  rw [run_fn hP.self _ _ rfl]
  simp [fd_places_with, bindT, encF]
  generalize e : forL _ _ _ _ _ = r
  have hz := forL_ix e (J := fun k ls F' => ∃ t ep a, IsTab (f.take k) t ∧ F' = F ++ [.dic ep (encT t)] ∧ ls = [some (.d (.tup (f.map encP))), some (.d (.int least)), some (.d (.ref F.length)), a])
    (Z := fun r => ∃ t ep a, IsTab f t ∧ r = .ok (.nx [some (.d (.tup (f.map encP))), some (.d (.int least)), some (.d (.ref F.length)), a]) (F ++ [.dic ep (encT t)])) ⟨[], 0, none, ⟨by simp, by simp, by simp⟩, rfl, rfl⟩ ?_ ?_
  · obtain ⟨t, ep, a, ht, rfl⟩ := hz
    have hd : (F ++ [FO.dic ep (encT t)])[F.length]? = some (.dic ep (encT t)) := by simp
    have hc : compL [(F.length, .dic ep ((encT t).map (·.1)))] (cbody (run P n) P [3] (.var 3) (.nm 3) [(.cmp .ge (.idx (.var 2) (.var 3)) (.var 1))] [some (.d (.tup (f.map encP))), some (.d (.int least)), some (.d (.ref F.length)), a]) ((encT t).map (·.1)) [] (F ++ [FO.dic ep (encT t)])
        = .ok (((t.map (·.1)).filter fun p => decide (least ≤ f.count p)).map encP) (F ++ [FO.dic ep (encT t)]) := by
      rw [keys_encT]
      refine compL_ty encP _ _ encP (gok_dic hd (keys_encT t)) fun p hp => ?_
      have hg : idxop (.ref F.length) (encP p) (F ++ [FO.dic ep (encT t)]) = .ok (.int (f.count p)) (F ++ [FO.dic ep (encT t)]) := by
        simp [idxop, dicOf_ref hd, dget_encT, ht.get, (ht.mem p).mpr hp]
      simp [cbody, wipeL, bindT, hg]
      split <;> rfl
    have hz1 : ((t.map (·.1)).filter fun p => decide (least ≤ f.count p)).length ≤ 16777216 := by
      have a1 := List.length_filter_le (fun p => decide (least ≤ f.count p)) (t.map (·.1))
      have a2 := ht.len
      simp at a1
      omega
    have e3 : ((((t.map (·.1)).filter fun p => decide (least ≤ f.count p)).map encP).mergeSort leKey) = (plW rs f least).map encP := by
      rw [← plW_eq h ht h1]
      exact (List.map_mergeSort (r := lePl) (s := leKey) (f := encP) fun a _ b _ => rfl).symm
    have hz2 : ((plW rs f least).map encP).length ≤ 16777216 := by
      rw [← e3, List.length_mergeSort, List.length_map]
      exact hz1
    have hok : ((((t.map (·.1)).filter fun p => decide (least ≤ f.count p)).map encP).all keyOkD) = true := by
      rw [List.all_eq_true]
      intro d hd
      obtain ⟨p, _, rfl⟩ := List.mem_map.mp hd
      cases p <;> rfl
    have hs : ∀ F', lis F' (.ref (F.length + 1)) = some (((t.map (·.1)).filter fun p => decide (least ≤ f.count p)).map encP) → biop (.sortedK "place_key") [.ref (F.length + 1)] F' = newL ((plW rs f least).map encP) F' := fun F' hl => by
      simp only [biop, hl, hok, if_true, e3]
    have hl2 : lis (F ++ [FO.dic ep (encT t)] ++ [FO.lst (((t.map (·.1)).filter fun p => decide (least ≤ f.count p)).map encP)]) (.ref (F.length + 1)) = some (((t.map (·.1)).filter fun p => decide (least ≤ f.count p)).map encP) := lis_ref _ (by simp)
    refine ⟨F.length + 2, F ++ [FO.dic ep (encT t)] ++ [FO.lst (((t.map (·.1)).filter fun p => decide (least ≤ f.count p)).map encP)] ++ [FO.lst ((plW rs f least).map encP)], ?_, by simp, by simpa using Fr.app none F _, by omega⟩
    have n1 := newL_ok (F ++ [FO.dic ep (encT t)]) (ds := ((t.map (·.1)).filter fun p => decide (least ≤ f.count p)).map encP) (by simpa using hz1)
    have n2 := newL_ok (F ++ [FO.dic ep (encT t)] ++ [FO.lst (((t.map (·.1)).filter fun p => decide (least ≤ f.count p)).map encP)]) (ds := (plW rs f least).map encP) hz2
    simp only [List.length_append, List.length_cons, List.length_nil] at n1 n2
    have hs' := hs _ hl2
    simp only [seq_nx, exs_cons, ex_ret, ev_bi, evs_cons, ev_comp, ev_var, slot_s, slot_z, ↓bind_bnd, bindOk, evs_nil, walk_dic hd, lift_some, hc, n1, hs', n2, seq_rt, fin_rt]
  · rintro k x ls F' hx ⟨t, ep, a, ht, rfl, rfl⟩
    rw [List.getElem?_map] at hx
    cases q : f[k]? with
    | none => rw [q] at hx; cases hx
    | some p =>
      rw [q] at hx
      have hx' : encP p = x := Option.some.inj hx
      subst hx'
      have hd : (F ++ [FO.dic ep (encT t)])[F.length]? = some (.dic ep (encT t)) := by simp
      have hst := ht.step p
      have hbig : big (encT t).length = true := by
        have := ht.len
        simp [big, encT]
        have := List.length_take_le k f
        have : (f.take k).length ≤ f.length := by simp; omega
        omega
      have hset : ∀ c : Nat, setIop (.ref F.length) (encP p) (.int c) (F ++ [FO.dic ep (encT t)]) = some (F ++ [FO.dic (if (dget (encT t) (encP p)).isSome then ep else ep + 1) (encT (tput t p c))]) := fun c => by
        simp [setIop, hbig, dput_encT]
      have hr : rcv .get (F ++ [FO.dic ep (encT t)]) (.ref F.length) = true := by simp [rcv, dicOf_ref hd]
      have hg : methop .get (.ref F.length) [encP p, .int 0] (F ++ [FO.dic ep (encT t)]) = .ok (.int ((tget t p).getD 0 : Nat)) (F ++ [FO.dic ep (encT t)]) := by
        simp only [methop, dicOf_ref hd, kOk_encP, if_true, dget_encT]
        cases tget t p <;> rfl
      have hset' := hset ((tget t p).getD 0 + 1)
      rw [show ((((tget t p).getD 0 + 1 : Nat) : Int)) = ((((tget t p).getD 0 : Nat) : Int) + 1) by omega] at hset'
      generalize ((((tget t p).getD 0 : Nat) : Int)) = c0 at hset' hg
      simp [fbody, bindT, hr, hg, hset']
      have ht' : f.take (k + 1) = f.take k ++ [p] := by simp [List.take_add_one, q]
      rw [ht']
      exact ⟨_, hst, rfl⟩
  · rintro ls F' ⟨t, ep, a, ht, rfl, rfl⟩
    refine ⟨t, ep, a, ?_, rfl⟩
    simpa using ht
end Fv
set_option Elab.async false
set_option linter.all false
set_option maxRecDepth 100000
/-! M5: commons, squares, what settles them. -/
namespace Fv
open PySem
/-! ### more on comprehensions -/
theorem compL_flat {α : Type} {g : Gd} {body : D → FH → R (List D)} {F : FH} (enc : α → D) (l : List α) (v : α → List D) (hg : gok g F = true) (h : ∀ a ∈ l, body (enc a) F = .ok (v a) F) : compL g body (l.map enc) [] F = .ok (l.flatMap v) F := by
  have key : ∀ (l : List α) (acc : List D), (∀ a ∈ l, body (enc a) F = .ok (v a) F) → compL g body (l.map enc) acc F = .ok (acc ++ l.flatMap v) F := by
    intro l
    induction l with
    | nil => intro acc _; rw [List.map_nil, compL, if_pos hg]; simp
    | cons a r ih =>
      intro acc h
      rw [List.map_cons, compL, if_pos hg, h a (by simp)]
      show compL g body (r.map enc) (acc ++ v a) F = _
      rw [ih _ fun b hb => h b (List.mem_cons_of_mem _ hb)]
      simp
  simpa using key l [] h
theorem enumL_map {α : Type} (enc : α → D) (l : List α) (d0 : α) : enumL (l.map enc) = (List.range l.length).map fun (k : Nat) => .tup [.int k, enc (l.getD k d0)] := by
  apply List.ext_getElem?
  intro k
  rw [List.getElem?_map]
  by_cases h : k < l.length
  · rw [List.getElem?_range h]
    refine enumGet.mpr ⟨_, ?_, rfl⟩
    rw [List.getElem?_map, List.getElem?_eq_getElem h]
    simp [h]
  · rw [List.getElem?_eq_none (by simpa using h), List.getElem?_eq_none (by simpa using h)]
    rfl
/-- what lies directly in a place -/
def crowd (f : List Pl) (p : Pl) : List Nat := (List.range f.length).filter fun x => decide (getP f x = p)
theorem range_map_getP (f : List Pl) : (List.range f.length).map (getP f) = f := by
  apply List.ext_getElem?
  intro k
  rw [List.getElem?_map]
  by_cases h : k < f.length
  · rw [List.getElem?_range h, get_some h]; rfl
  · rw [List.getElem?_eq_none (by simpa using h), List.getElem?_eq_none (by simpa using h)]; rfl
theorem crowd_len (f : List Pl) (p : Pl) : (crowd f p).length = f.count p := by
  unfold crowd
  conv => rhs; rw [← range_map_getP f]
  rw [List.count_eq_countP, List.countP_map, List.countP_eq_length_filter]
  congr 1
  refine List.filter_congr fun x _ => ?_
  rw [Bool.eq_iff_iff]
  simp [Function.comp]
def dInts (l : List Nat) : List D := l.map fun (x : Nat) => .int x
theorem mem_pl {F : FH} {a b : D} {ds : List D} (hb : items F b = some ds) (ha : D.pl a = true) (hd : D.pls ds = true) (hl : D.le a 50 = true ∨ D.les ds 50 = true) : memD F a b = some (ds.any fun x => D.eq x a) := by
  unfold memD
  rw [hb]
  simp [ha, hd, hl]
/-! ### commons -/
theorem rooms_right {d : D} (h : roomsFault d = none) : d = encR (decR d) ∧ (∀ r ∈ decR d, r ≤ 4) ∧ (decR d).length ≤ 24 := by
  unfold roomsFault at h
  split at h
  · rename_i ds
    split at h
    · cases h
    · rename_i hl
      rw [Option.map_eq_none_iff] at h
      have hk : ∀ d ∈ ds, isRoomN d = true := fun d hd => by
        obtain ⟨k, hk⟩ := List.mem_iff_getElem?.mp hd
        have := firstB_none_iff.mp h k (List.getElem?_eq_some_iff.mp hk).1
        simpa [ixB, hk] using this
      have hn : ∀ d ∈ ds, d = .int (decN d) ∧ decN d ≤ 4 := fun d hd => by
        have := hk d hd
        cases d <;> simp [isRoomN] at this
        simp [decN]
        omega
      refine ⟨?_, fun r hr => ?_, ?_⟩
      · show D.tup ds = .tup ((ds.map decN).map _)
        rw [List.map_map]
        congr 1
        conv => lhs; rw [← List.map_id ds]
        exact List.map_congr_left fun a ha => (hn a ha).1
      · obtain ⟨d, hd, rfl⟩ := List.mem_map.mp hr
        exact (hn d hd).2
      · show (ds.map decN).length ≤ 24
        simp
        omega
  · cases h
theorem rooms_ok {rs : List Nat} (h : ∀ r ∈ rs, r ≤ 4) (hl : rs.length ≤ 24) : roomsFault (encR rs) = none := by
  unfold roomsFault encR
  have : ¬ (24 : Int) < ((rs.map fun (r : Nat) => D.int r).length : Int) := by simp; omega
  simp only [this, if_false]
  rw [Option.map_eq_none_iff, firstB_none_iff]
  intro j hj
  simp at hj
  have := h rs[j] (List.getElem_mem hj)
  simp [ixB, hj, isRoomN]
  omega
theorem placeOk_enc {rs : List Nat} {x : Nat} {p : Pl} (h : ∀ q, p = some q → q.1 < rs.length ∧ q.1 ≠ x ∧ q.2 < rs.getD q.1 0) : placeOk rs x (encP p) = true := by
  cases p with
  | none => rfl
  | some q =>
    have := h q rfl
    simp only [encP_some, placeOk]
    simp
    simp at this
    omega
theorem forest_ok {rs : List Nat} {f : List Pl} (h : RF rs f) : forestFault rs (encF f) = none := by
  have hb : badAt rs (f.map encP) = none := firstB_none fun j hj => by
    simp at hj
    have hp := placeOk_enc (x := j) (p := getP f j) fun q e => h.at_ j q (by rw [get_some hj, e])
    simp [ixB, get_some hj, hp]
  have hl : ¬ ((f.map encP).length : Int) ≠ rs.length := by simp [h.len]
  unfold forestFault encF
  simp only [hl, if_false, hb]
  have e : decF (.tup (f.map encP)) = f := decF_encF f
  rw [e, Option.map_eq_none_iff, firstB_none_iff]
  intro j hj
  exact h.ring j (by simpa using hj)
def crowdFault (rs : List Nat) (f : List Pl) : Option (String × D) := (plW rs f 5).head?.map fun p => ("Crowd", encP p)
def commonsFault : D → Option (String × D)
  | .tup [a, b] => match roomsFault a with
    | some e => some e
    | none => if (8 : Int) < (decR a).length then some ("TooMany", .int (decR a).length) else match forestFault (decR a) b with
      | some e => some e
      | none => crowdFault (decR a) (decF b)
  | _ => some ("BadCommons", .int (-1))
def encC (rs : List Nat) (f : List Pl) : D := .tup [encR rs, encF f]
structure CM (rs : List Nat) (f : List Pl) : Prop where
  rok : ∀ r ∈ rs, r ≤ 4
  rlen : rs.length ≤ 8
  rf : RF rs f
  few : plW rs f 5 = []
theorem commons_right {d : D} (h : commonsFault d = none) : ∃ rs f, d = encC rs f ∧ CM rs f := by
  unfold commonsFault at h
  split at h
  · rename_i a b
    split at h
    · cases h
    · rename_i hr
      split at h
      · cases h
      · rename_i h8
        split at h
        · cases h
        · rename_i hf
          obtain ⟨e1, h1, _⟩ := rooms_right hr
          obtain ⟨e2, h2⟩ := forest_right hf
          refine ⟨decR a, decF b, by rw [encC, ← e1, ← e2], h1, by omega, h2, ?_⟩
          unfold crowdFault at h
          simpa using h
  · cases h
theorem commons_ok {rs : List Nat} {f : List Pl} (h : CM rs f) : commonsFault (encC rs f) = none := by
  have h8 : ¬ (8 : Int) < rs.length := by have := h.rlen; omega
  simp [commonsFault, encC, rooms_ok h.rok (by have := h.rlen; omega), h8, forest_ok h.rf, crowdFault, h.few]
theorem CM.flen {rs : List Nat} {f : List Pl} (h : CM rs f) : f.length ≤ 8 := by
  have := h.rf.len
  have := h.rlen
  omega
def isPairD : D → Bool
  | .tup ds => decide ((ds.length : Int) = 2)
  | _ => false
theorem is_pair_run {P : Pg} {n : Nat} (hP : Has_is_pair P) (hn : 1 ≤ n) {d : D} (hd : D.pl d = true) (F : FH) : run P n (.fn "is_pair") [.d d] F = .ok (.bl (isPairD d)) F := by
  obtain ⟨n, rfl, _⟩ := suc_of hn
  rw [run_fn hP.self _ _ rfl]
  cases d <;> simp [fd_is_pair, isPairD, D.pl] at hd ⊢
theorem two_of {ds : List D} (h : (ds.length : Int) = 2) : ∃ a b, ds = [a, b] := by
  match ds, h with
  | [a, b], _ => exact ⟨a, b, rfl⟩
  | [], h => simp at h
  | [_], h => simp at h
  | _ :: _ :: _ :: _, h => simp at h; omega
theorem want_uncrowded_run {P : Pg} {n : Nat} (hP : Has_want_uncrowded P) (hn : 2 ≤ n) {rs : List Nat} {f : List Pl} (h : RF rs f) (hl : f.length ≤ 1000) (F : FH) :
    ∃ F', run P n (.fn "want_uncrowded") [.d (encF f)] F = orExc .non F' (crowdFault rs f) ∧ Fr none F F' := by
  obtain ⟨n, rfl, hm⟩ := suc_of hn
  rw [run_fn hP.self _ _ rfl]
  obtain ⟨k, F', e, hk, fr, hkl⟩ := places_with_run hP.places_with hm h hl (least := 5) (by omega) F
  have e' : run P n (.fn "places_with") [.d (encF f), .d (.int 5)] F = .ok (.ref k) F' := e
  have hkl' : k < F'.length := (List.getElem?_eq_some_iff.mp hk).1
  have hq : eqd (F' ++ [.lst []]) (.ref k) (.ref F'.length) = some ((plW rs f 5).map encP).isEmpty := eqd_empty (lis_ref _ (by rw [List.getElem?_append_left hkl']; exact hk)) (lis_ref _ (by simp)) (by simp)
  refine ⟨F' ++ [.lst []], ?_, fr.trans (Fr.app _ _ _)⟩
  cases q : plW rs f 5 with
  | nil => simp [fd_want_uncrowded, hP.MOST_STALLS, e', bindT, hq, q, crowdFault]
  | cons p r =>
    have hi : idxop (.ref k) (.int ((0 : Nat) : Int)) (F' ++ [.lst []]) = .ok (encP p) (F' ++ [.lst []]) := idx_ref (ds := (plW rs f 5).map encP) (by rw [List.getElem?_append_left hkl']; exact hk) (by rw [q]; rfl)
    have hi' : idxop (.ref k) (.int 0) (F' ++ [.lst []]) = .ok (encP p) (F' ++ [.lst []]) := hi
    simp [fd_want_uncrowded, hP.MOST_STALLS, e', bindT, hq, q, crowdFault, hi']
theorem made_commons_run {P : Pg} {n : Nat} (hP : Has_made_commons P) (hn : 5 ≤ n) {d : D} (hd : D.pl d = true) (F : FH) :
    ∃ F', run P n (.fn "made_commons") [.d d] F = orExc d F' (commonsFault d) ∧ Fr none F F' := by
  obtain ⟨n, rfl, hm⟩ := suc_of hn
  rw [run_fn hP.self _ _ rfl]
  have hp : ∀ F, run P n (.fn "is_pair") [.d d] F = .ok (.bl (isPairD d)) F := fun F => is_pair_run hP.is_pair (by omega) hd F
  by_cases h2 : ∃ a b, d = .tup [a, b]
  · obtain ⟨a, b, rfl⟩ := h2
    simp only [D.pl, D.pls, Bool.and_eq_true] at hd
    have hr : ∀ F, run P n (.fn "made_rooms") [.d a] F = orExc a F (roomsFault a) := fun F => made_rooms_run hP.made_rooms (by omega) hd.1 F
    cases q1 : roomsFault a with
    | some e => exact ⟨F, by simp [fd_made_commons, hp, isPairD, hr, q1, commonsFault], .refl _ _⟩
    | none =>
      obtain ⟨e1, h1, h24⟩ := rooms_right q1
      generalize decR a = rs at e1 h1 h24
      subst e1
      have hlr : ∀ F, biop .len [encR rs] F = .ok (.int rs.length) F := fun F => by simp [encR]
      by_cases h8 : (8 : Int) < rs.length
      · exact ⟨F, by simp [fd_made_commons, hp, isPairD, hr, q1, commonsFault, bindT, hlr, hP.MOST_SHARED, h8], .refl _ _⟩
      · obtain ⟨F1, ef, fr1⟩ := made_forest_run hP.made_forest (by omega) q1 (by omega) hd.2.1 F
        cases q2 : forestFault rs b with
        | some e =>
          rw [q2] at ef
          exact ⟨F1, by simp [fd_made_commons, hp, isPairD, hr, q1, commonsFault, bindT, hlr, hP.MOST_SHARED, h8, ef, q2], fr1⟩
        | none =>
          rw [q2] at ef
          obtain ⟨e2, h2⟩ := forest_right q2
          generalize decF b = f at e2 h2
          subst e2
          obtain ⟨F2, ew, fr2⟩ := want_uncrowded_run hP.want_uncrowded (n := n) (by omega) h2 (by have := h2.len; omega) F1
          refine ⟨F2, ?_, fr1.trans fr2⟩
          cases q3 : crowdFault rs f with
          | some e =>
            rw [q3] at ew
            simp [fd_made_commons, hp, isPairD, hr, q1, commonsFault, bindT, hlr, hP.MOST_SHARED, h8, ef, q2, ew, q3]
          | none =>
            rw [q3] at ew
            simp [fd_made_commons, hp, isPairD, hr, q1, commonsFault, bindT, hlr, hP.MOST_SHARED, h8, ef, q2, ew, q3]
  · have hf : isPairD d = false := by
      cases d <;> first | rfl | skip
      rename_i ds
      simp only [isPairD, decide_eq_false_iff_not]
      intro z
      obtain ⟨a, b, rfl⟩ := two_of z
      exact h2 ⟨a, b, rfl⟩
    have hc : commonsFault d = some ("BadCommons", .int (-1)) := by
      unfold commonsFault
      split
      · exact absurd ⟨_, _, rfl⟩ h2
      · rfl
    exact ⟨F, by simp [fd_made_commons, hp, hf, hc], .refl _ _⟩
theorem made_commons_ok {P : Pg} {n : Nat} (hP : Has_made_commons P) (hn : 5 ≤ n) {rs : List Nat} {f : List Pl} (h : CM rs f) (F : FH) :
    ∃ F', run P n (.fn "made_commons") [.d (encC rs f)] F = .ok (encC rs f) F' ∧ Fr none F F' := by
  obtain ⟨F', e, fr⟩ := made_commons_run hP hn (d := encC rs f) (by simp [encC, D.pl, D.pls]) F
  rw [commons_ok h] at e
  exact ⟨F', e, fr⟩
theorem is_forest_run {P : Pg} {n : Nat} (hP : Has_is_forest P) (hn : 4 ≤ n) {rs : List Nat} (hr : roomsFault (encR rs) = none) (hl : rs.length ≤ 1000) {d : D} (hd : D.pl d = true) (F : FH) :
    ∃ F', run P n (.fn "is_forest") [.d (encR rs), .d d] F = .ok (.bl (forestFault rs d).isNone) F' ∧ Fr none F F' := by
  obtain ⟨n, rfl, hm⟩ := suc_of hn
  rw [run_fn hP.self _ _ rfl]
  have hlr : ∀ F, biop .len [encR rs] F = .ok (.int rs.length) F := fun F => by simp [encR]
  obtain ⟨F1, er, fr1⟩ := is_rooms_run hP.is_rooms (n := n) (by omega) (d := encR rs) (by simp) F
  rw [hr] at er
  cases d with
  | tup ds =>
    simp only [D.pl] at hd
    by_cases h1 : (ds.length : Int) = rs.length
    · have hfb : ∀ F, run P n (.fn "first_bad") [.d (encR rs), .d (.tup ds)] F = .ok (optN (badAt rs ds)) F := fun F => first_bad_run hP.first_bad hm rs hd F
      cases hb : badAt rs ds with
      | some k => exact ⟨F1, by simp [fd_is_forest, er, hlr, h1, hfb, hb, optN, forestFault], fr1⟩
      | none =>
        obtain ⟨e1, e2⟩ := bad_none hb
        have hlen : (decF (.tup ds)).length = ds.length := by simp [decF, decs]
        have hfr : ∀ F, run P n (.fn "first_ring") [.d (.tup ds)] F = .ok (optN (firstB (lies (decF (.tup ds))) ds.length)) F := fun F => by
          have := first_ring_run hP.first_ring (n := n) (by omega) (hold_of_bad hb (by omega)) (by omega) F
          rw [← e1, hlen] at this
          exact this
        cases hg : firstB (lies (decF (.tup ds))) ds.length with
        | some k => exact ⟨F1, by simp [fd_is_forest, er, hlr, h1, hfb, hb, hfr, hg, optN, forestFault], fr1⟩
        | none => exact ⟨F1, by simp [fd_is_forest, er, hlr, h1, hfb, hb, hfr, hg, optN, forestFault], fr1⟩
    · exact ⟨F1, by simp [fd_is_forest, er, hlr, h1, forestFault], fr1⟩
  | _ => exact ⟨F1, by simp [fd_is_forest, er, forestFault, D.pl] at hd ⊢, fr1⟩
end Fv
set_option Elab.async false
set_option linter.all false
set_option maxRecDepth 100000
/-! M6: squares, stalls, settling. -/
namespace Fv
open PySem
theorem is_commons_run {P : Pg} {n : Nat} (hP : Has_is_commons P) (hn : 5 ≤ n) {d : D} (hd : D.pl d = true) (F : FH) :
    ∃ F', run P n (.fn "is_commons") [.d d] F = .ok (.bl (commonsFault d).isNone) F' ∧ Fr none F F' := by
  obtain ⟨n, rfl, hm⟩ := suc_of hn
  rw [run_fn hP.self _ _ rfl]
  have hp : ∀ F, run P n (.fn "is_pair") [.d d] F = .ok (.bl (isPairD d)) F := fun F => is_pair_run hP.is_pair (by omega) hd F
  by_cases h2 : ∃ a b, d = .tup [a, b]
  · obtain ⟨a, b, rfl⟩ := h2
    simp only [D.pl, D.pls, Bool.and_eq_true] at hd
    obtain ⟨F1, er, fr1⟩ := is_rooms_run hP.is_rooms (n := n) (by omega) hd.1 F
    cases q1 : roomsFault a with
    | some e =>
      rw [q1] at er
      exact ⟨F1, by simp [fd_is_commons, hp, isPairD, er, q1, commonsFault], fr1⟩
    | none =>
      rw [q1] at er
      obtain ⟨e1, h1, h24⟩ := rooms_right q1
      generalize decR a = rs at e1 h1 h24
      subst e1
      have hlr : ∀ F, biop .len [encR rs] F = .ok (.int rs.length) F := fun F => by simp [encR]
      by_cases h8 : (8 : Int) < rs.length
      · exact ⟨F1, by simp [fd_is_commons, hp, isPairD, er, q1, commonsFault, hlr, hP.MOST_SHARED, h8], fr1⟩
      · obtain ⟨F2, ef, fr2⟩ := is_forest_run hP.is_forest (n := n) (by omega) q1 (by omega) hd.2.1 F1
        cases q2 : forestFault rs b with
        | some e =>
          rw [q2] at ef
          exact ⟨F2, by simp [fd_is_commons, hp, isPairD, er, q1, commonsFault, hlr, hP.MOST_SHARED, h8, ef, q2], fr1.trans fr2⟩
        | none =>
          rw [q2] at ef
          obtain ⟨e2, h2⟩ := forest_right q2
          generalize decF b = f at e2 h2
          subst e2
          obtain ⟨k, F3, ew, hk, fr3, hkl⟩ := places_with_run hP.places_with (n := n) (by omega) h2 (by have := h2.len; omega) (least := 5) (by omega) F2
          have ew' : run P n (.fn "places_with") [.d (encF f), .d (.int 5)] F2 = .ok (.ref k) F3 := ew
          have hkl' : k < F3.length := (List.getElem?_eq_some_iff.mp hk).1
          have hq : eqd (F3 ++ [.lst []]) (.ref k) (.ref F3.length) = some ((plW rs f 5).map encP).isEmpty := eqd_empty (lis_ref _ (by rw [List.getElem?_append_left hkl']; exact hk)) (lis_ref _ (by simp)) (by simp)
          refine ⟨F3 ++ [.lst []], ?_, ((fr1.trans fr2).trans fr3).trans (Fr.app _ _ _)⟩
          cases q3 : plW rs f 5 with
          | nil => simp [fd_is_commons, hp, isPairD, er, q1, commonsFault, hlr, hP.MOST_SHARED, h8, ef, q2, hP.MOST_STALLS, ew', hq, q3, crowdFault]
          | cons p r => simp [fd_is_commons, hp, isPairD, er, q1, commonsFault, hlr, hP.MOST_SHARED, h8, ef, q2, hP.MOST_STALLS, ew', hq, q3, crowdFault]
  · have hf : isPairD d = false := by
      cases d <;> first | rfl | skip
      rename_i ds
      simp only [isPairD, decide_eq_false_iff_not]
      intro z
      obtain ⟨a, b, rfl⟩ := two_of z
      exact h2 ⟨a, b, rfl⟩
    have hc : commonsFault d = some ("BadCommons", .int (-1)) := by
      unfold commonsFault
      split
      · exact absurd ⟨_, _, rfl⟩ h2
      · rfl
    exact ⟨F, by simp [fd_is_commons, hp, hf, hc], .refl _ _⟩
/-- the squares -/
def sq (rs : List Nat) (f : List Pl) : List Pl := plW rs f 2
section
variable {P : Pg} {n : Nat} {rs : List Nat} {f : List Pl}
theorem square_row_run (hP : Has_square_row P) (hn : 2 ≤ n) (h : RF rs f) (hl : f.length ≤ 1000) (F : FH) :
    ∃ F', run P n (.fn "square_row") [.d (encC rs f)] F = .ok (.tup ((sq rs f).map encP)) F' ∧ Fr none F F' := by
  obtain ⟨n, rfl, hm⟩ := suc_of hn
  rw [run_fn hP.self _ _ rfl]
  obtain ⟨k, F1, ew, hk, fr, hkl⟩ := places_with_run hP.places_with hm h hl (least := 2) (by omega) F
  have ew' : run P n (.fn "places_with") [.d (encF f), .d (.int 2)] F = .ok (.ref k) F1 := ew
  exact ⟨F1, by simp [fd_square_row, encC, hP.LEAST_STALLS, ew', tuple_ref hk, sq], fr⟩
theorem stalls_in_run (hP : Has_stalls_in P) (hn : 1 ≤ n) (hl : f.length ≤ 1000) (a : D) (p : Pl) (F : FH) :
    ∃ F', run P n (.fn "stalls_in") [.d (.tup [a, encF f]), .d (encP p)] F = .ok (.tup (dInts (crowd f p))) F' ∧ Fr none F F' := by
  obtain ⟨n, rfl, hm⟩ := suc_of hn
  rw [run_fn hP.self _ _ rfl]
  have hc : ∀ F, compL [] (cbody (run P n) P [2, 3] (.var 2) (.tup [2, 3]) [(.cmp .eq (.var 3) (.var 1))] [some (.d (.tup [a, encF f])), some (.d (encP p)), none, none]) (enumL (f.map encP)) [] F = .ok (dInts (crowd f p)) F := fun F => by
    rw [enumL_map encP f none]
    refine compL_ty _ _ (fun x => decide (getP f x = p)) (fun (x : Nat) => .int x) rfl fun x _ => ?_
    simp [cbody, wipeL, bindT, setAll, getP]
    split <;> rfl
  have hz : (dInts (crowd f p)).length ≤ 16777216 := by
    have := List.length_filter_le (fun x => decide (getP f x = p)) (List.range f.length)
    simp [dInts, crowd] at this ⊢
    omega
  refine ⟨F ++ [.lst (dInts (crowd f p))], ?_, Fr.app _ _ _⟩
  simp [fd_stalls_in]
  rw [show encF f = .tup (f.map encP) from rfl] at hc ⊢
  simp [hc, newL_ok _ hz, tuple_lis]
/-- whether something is a square -/
def isSqD (rs : List Nat) (f : List Pl) : D → Bool
  | .non => decide (none ∈ sq rs f)
  | .tup [.int h, .int r] => ((sq rs f).map encP).any fun x => D.eq x (.tup [.int h, .int r])
  | _ => false
theorem isSqD_enc (p : Pl) : isSqD rs f (encP p) = decide (p ∈ sq rs f) := by
  cases p with
  | none => rfl
  | some q =>
    have e : isSqD rs f (encP (some q)) = ((sq rs f).map encP).any fun x => D.eq x (encP (some q)) := rfl
    rw [e, List.any_map, Bool.eq_iff_iff]
    simp only [List.any_eq_true, Function.comp, eq_encP, decide_eq_true_eq]
    exact ⟨fun ⟨x, hx, e⟩ => e ▸ hx, fun h => ⟨_, h, rfl⟩⟩
theorem isSqD_right {d : D} (h : isSqD rs f d = true) : ∃ p, d = encP p ∧ p ∈ sq rs f := by
  unfold isSqD at h
  split at h
  · exact ⟨none, rfl, by simpa using h⟩
  · rename_i a b
    rw [List.any_map, List.any_eq_true] at h
    obtain ⟨x, hx, e⟩ := h
    simp only [Function.comp] at e
    refine ⟨x, ?_, hx⟩
    cases x with
    | none => simp [D.eq] at e
    | some q =>
      simp [D.eq, D.eqs] at e
      simp [e]
  · cases h
theorem is_square_run (hP : Has_is_square P) (hn : 3 ≤ n) (h : RF rs f) (hl : f.length ≤ 1000) {d : D} (hd : D.pl d = true) (F : FH) :
    ∃ F', run P n (.fn "is_square") [.d (encC rs f), .d d] F = .ok (.bl (isSqD rs f d)) F' ∧ Fr none F F' := by
  obtain ⟨n, rfl, hm⟩ := suc_of hn
  rw [run_fn hP.self _ _ rfl]
  have hp : ∀ F, run P n (.fn "is_pair") [.d d] F = .ok (.bl (isPairD d)) F := fun F => is_pair_run hP.is_pair (by omega) hd F
  obtain ⟨F1, e, fr⟩ := square_row_run hP.square_row hm h hl F
  have hmem : ∀ a, D.pl a = true → memD F1 a (.tup ((sq rs f).map encP)) = some (((sq rs f).map encP).any fun x => D.eq x a) := fun a ha => mem_pl (by simp) ha (by simp) (.inr (by simp))
  cases d with
  | non =>
    have := hmem .non rfl
    have e2 : (((sq rs f).map encP).any fun x => D.eq x .non) = decide (none ∈ sq rs f) := by
      have := isSqD_enc (rs := rs) (f := f) none
      rw [List.any_map, Bool.eq_iff_iff]
      simp only [List.any_eq_true, Function.comp, decide_eq_true_eq]
      constructor
      · rintro ⟨x, hx, q⟩
        cases x with
        | none => exact hx
        | some q' => simp [D.eq] at q
      · exact fun z => ⟨none, z, rfl⟩
    rw [e2] at this
    exact ⟨F1, by simp [fd_is_square, e, this, isSqD], fr⟩
  | tup ds =>
    by_cases h2 : (ds.length : Int) = 2
    · obtain ⟨a, b, rfl⟩ := two_of h2
      simp only [D.pl, D.pls, Bool.and_eq_true] at hd
      have ha : ∀ F, run P n (.fn "is_whole") [.d a] F = .ok (.bl (isWhole a)) F := fun F => is_whole_run hP.is_whole (by omega) hd.1 F
      have hb : ∀ F, run P n (.fn "is_whole") [.d b] F = .ok (.bl (isWhole b)) F := fun F => is_whole_run hP.is_whole (by omega) hd.2.1 F
      cases a with
      | int i =>
        cases b with
        | int j =>
          have := hmem (.tup [.int i, .int j]) rfl
          exact ⟨F1, by simp [fd_is_square, hp, isPairD, ha, hb, isWhole, e, this, isSqD], fr⟩
        | _ => exact ⟨F, by simp [fd_is_square, hp, isPairD, ha, hb, isWhole, isSqD], .refl _ _⟩
      | _ => exact ⟨F, by simp [fd_is_square, hp, isPairD, ha, isWhole, isSqD], .refl _ _⟩
    · have hs : isSqD rs f (.tup ds) = false := by
        unfold isSqD
        split
        · cases (by assumption : D.tup ds = _)
        · rename_i q; cases q; simp at h2
        · rfl
      exact ⟨F, by simp [fd_is_square, hp, isPairD, h2, hs], .refl _ _⟩
  | _ => exact ⟨F, by simp [fd_is_square, hp, isPairD, isSqD, D.pl] at hd ⊢, .refl _ _⟩
theorem want_square_run (hP : Has_want_square P) (hn : 4 ≤ n) (h : RF rs f) (hl : f.length ≤ 1000) {d : D} (hd : D.pl d = true) (F : FH) :
    ∃ F', run P n (.fn "want_square") [.d (encC rs f), .d d] F = (if isSqD rs f d then .ok .non F' else .exc "NoSquare" d F') ∧ Fr none F F' := by
  obtain ⟨n, rfl, hm⟩ := suc_of hn
  rw [run_fn hP.self _ _ rfl]
  obtain ⟨F1, e, fr⟩ := is_square_run hP.is_square hm h hl hd F
  refine ⟨F1, ?_, fr⟩
  cases q : isSqD rs f d with
  | true => rw [q] at e; simp [fd_want_square, e]
  | false => rw [q] at e; simp [fd_want_square, e]
theorem squares_run (hP : Has_squares P) (hn : 6 ≤ n) (h : CM rs f) (F : FH) : ∃ F', run P n (.fn "squares") [.d (encC rs f)] F = .ok (.tup ((sq rs f).map encP)) F' ∧ Fr none F F' := by
  obtain ⟨n, rfl, hm⟩ := suc_of hn
  rw [run_fn hP.self _ _ rfl]
  obtain ⟨F1, e1, fr1⟩ := made_commons_ok hP.made_commons hm h F
  obtain ⟨F2, e2, fr2⟩ := square_row_run hP.square_row (n := n) (by omega) h.rf (by have := h.flen; omega) F1
  exact ⟨F2, by simp [fd_squares, e1, e2], fr1.trans fr2⟩
theorem squares_fault (hP : Has_squares P) (hn : 6 ≤ n) {d : D} (hd : D.pl d = true) {e : String × D} (h : commonsFault d = some e) (F : FH) : ∃ F', run P n (.fn "squares") [.d d] F = .exc e.1 e.2 F' ∧ Fr none F F' := by
  obtain ⟨n, rfl, hm⟩ := suc_of hn
  rw [run_fn hP.self _ _ rfl]
  obtain ⟨F1, e1, fr1⟩ := made_commons_run hP.made_commons hm hd F
  rw [h] at e1
  exact ⟨F1, by simp [fd_squares, e1], fr1⟩
theorem stalls_run (hP : Has_stalls P) (hn : 6 ≤ n) (h : CM rs f) {p : Pl} (hp : p ∈ sq rs f) (F : FH) : ∃ F', run P n (.fn "stalls") [.d (encC rs f), .d (encP p)] F = .ok (.tup (dInts (crowd f p))) F' ∧ Fr none F F' := by
  obtain ⟨n, rfl, hm⟩ := suc_of hn
  rw [run_fn hP.self _ _ rfl]
  obtain ⟨F1, e1, fr1⟩ := made_commons_ok hP.made_commons hm h F
  obtain ⟨F2, e2, fr2⟩ := want_square_run hP.want_square (n := n) (by omega) h.rf (by have := h.flen; omega) (d := encP p) (by simp) F1
  rw [isSqD_enc] at e2
  obtain ⟨F3, e3, fr3⟩ := stalls_in_run hP.stalls_in (n := n) (by omega) (f := f) (by have := h.flen; omega) (encR rs) p F2
  have e3' : run P n (.fn "stalls_in") [.d (encC rs f), .d (encP p)] F2 = _ := e3
  exact ⟨F3, by simp [fd_stalls, e1, bindT, e2, hp, e3'], (fr1.trans fr2).trans fr3⟩
theorem stalls_no (hP : Has_stalls P) (hn : 6 ≤ n) (h : CM rs f) {d : D} (hd : D.pl d = true) (hp : isSqD rs f d = false) (F : FH) : ∃ F', run P n (.fn "stalls") [.d (encC rs f), .d d] F = .exc "NoSquare" d F' ∧ Fr none F F' := by
  obtain ⟨n, rfl, hm⟩ := suc_of hn
  rw [run_fn hP.self _ _ rfl]
  obtain ⟨F1, e1, fr1⟩ := made_commons_ok hP.made_commons hm h F
  obtain ⟨F2, e2, fr2⟩ := want_square_run hP.want_square (n := n) (by omega) h.rf (by have := h.flen; omega) hd F1
  exact ⟨F2, by simp [fd_stalls, e1, bindT, e2, hp], fr1.trans fr2⟩
theorem stalls_fault (hP : Has_stalls P) (hn : 6 ≤ n) {d : D} (hd : D.pl d = true) {e : String × D} (h : commonsFault d = some e) (q : D) (F : FH) : ∃ F', run P n (.fn "stalls") [.d d, .d q] F = .exc e.1 e.2 F' ∧ Fr none F F' := by
  obtain ⟨n, rfl, hm⟩ := suc_of hn
  rw [run_fn hP.self _ _ rfl]
  obtain ⟨F1, e1, fr1⟩ := made_commons_run hP.made_commons hm hd F
  rw [h] at e1
  exact ⟨F1, by simp [fd_stalls, e1], fr1⟩
/-! ### what settles it -/
/-- the numbers behind x -/
def behind (n x : Nat) : List Nat := (List.range (n - (x + 1))).map fun k => x + 1 + k
theorem rng_behind (n x : Nat) : rng ((x : Int) + 1) (n : Int) = dInts (behind n x) := by
  unfold rng dInts behind
  rw [List.map_map, show ((n : Int) - (x + 1)).toNat = n - (x + 1) by omega]
  refine List.map_congr_left fun k _ => ?_
  simp
theorem mem_behind {n x y : Nat} : y ∈ behind n x ↔ x < y ∧ y < n := by
  unfold behind
  simp only [List.mem_map, List.mem_range]
  constructor
  · rintro ⟨k, hk, rfl⟩
    omega
  · intro h
    exact ⟨y - (x + 1), by omega, by omega⟩
def pairsOf (n : Nat) : List (Nat × Nat) := (List.range n).flatMap fun x => (behind n x).map fun y => (x, y)
theorem mem_pairsOf {n : Nat} {p : Nat × Nat} : p ∈ pairsOf n ↔ p.1 < p.2 ∧ p.2 < n := by
  unfold pairsOf
  simp only [List.mem_flatMap, List.mem_range, List.mem_map, mem_behind]
  constructor
  · rintro ⟨x, hx, y, hy, rfl⟩
    exact hy
  · intro h
    exact ⟨p.1, by omega, p.2, h, rfl⟩
theorem pairsOf_len (n : Nat) : (pairsOf n).length ≤ n * n := by
  unfold pairsOf
  have : ∀ l : List Nat, (l.flatMap fun x => (behind n x).map fun y => (x, y)).length ≤ l.length * n := by
    intro l
    induction l with
    | nil => simp
    | cons a r ih =>
      rw [List.flatMap_cons, List.length_append, List.length_cons, Nat.succ_mul]
      have : ((behind n a).map fun y => (a, y)).length ≤ n := by simp [behind]
      omega
  simpa using this (List.range n)
/-- a saying of two things: their standing -/
def settleD (f : List Pl) (p : Nat × Nat) : D := .tup [.int p.1, .int p.2, .tup [encS (stand f p.1 p.2)]]
def settles (f : List Pl) : List D := (pairsOf f.length).map (settleD f)
theorem settling_of_run (hP : Has_settling_of P) (hn : 3 ≤ n) (h : RF rs f) (hl : f.length ≤ 1000) (F : FH) :
    ∃ F', run P n (.fn "settling_of") [.d (encC rs f)] F = .ok (.tup (settles f)) F' ∧ Fr none F F' := by
  obtain ⟨n, rfl, hm⟩ := suc_of hn
  rw [run_fn hP.self _ _ rfl]
  have hlr : ∀ F, biop .len [encR rs] F = .ok (.int f.length) F := fun F => by simp [encR, h.len]
  have hw : ∀ F, walk .range [.int f.length] F = some (rng 0 f.length, []) := fun F => walk_range1 F (j := (f.length : Int)) (by omega)
  have hc1 : ∀ F, compL [] (cbody2 (run P n) P [3, 4] (.tup [(.var 3), (.var 4)]) (.nm 3) [] (.nm 4) .range [(.bin .add (.var 3) (.int 1)), (.var 1)] [] [some (.d (encC rs f)), some (.d (.int f.length)), none, none, none]) (rng 0 f.length) [] F = .ok ((pairsOf f.length).map fun p => .tup [.int p.1, .int p.2]) F := fun F => by
    rw [rng_nat]
    rw [compL_flat _ _ (fun x => (behind f.length x).map fun (y : Nat) => .tup [.int x, .int y]) rfl fun x hx => ?_]
    · unfold pairsOf
      rw [List.map_flatMap]
      congr 1
      refine flatMap_cg ?_
      intro x _
      rw [List.map_map]
      rfl
    · have hx' : x < f.length := by simpa using hx
      have hw2 : walk .range [.int ((x : Int) + 1), .int f.length] F = some (rng ((x : Int) + 1) f.length, []) := walk_range2 F (i := (x : Int) + 1) (j := (f.length : Int)) (by omega) (by omega)
      have hi : ∀ a b c, compL [] (cbody (run P n) P [4] (.tup [(.var 3), (.var 4)]) (.nm 4) [] [a, b, c, some (.d (.int x)), none]) (rng ((x : Int) + 1) f.length) [] F = .ok ((behind f.length x).map fun (y : Nat) => .tup [.int x, .int y]) F := fun a b c => by
        rw [rng_behind, dInts]
        have := compL_ty (g := []) (F := F) (body := cbody (run P n) P [4] (.tup [(.var 3), (.var 4)]) (.nm 4) [] [a, b, c, some (.d (.int x)), none]) (fun (y : Nat) => D.int y) (behind f.length x) (fun _ => true) (fun (y : Nat) => .tup [.int x, .int y]) rfl fun y _ => by
          simp [cbody, wipeL, bindT]
        rw [List.filter_eq_self.mpr (by simp)] at this
        exact this
      simp [cbody2, wipeL, bindT, hw2, hi, tgS]
  have hp2 : ((pairsOf f.length).map fun p => D.tup [.int p.1, .int p.2]).length ≤ 16777216 := by
    have := pairsOf_len f.length
    have h2 : f.length * f.length ≤ 1000 * 1000 := Nat.mul_le_mul hl hl
    simp
    omega
  have hp3 : (settles f).length ≤ 16777216 := by
    simp [settles] at hp2 ⊢
    exact hp2
  have hst : ∀ x y, x < f.length → y < f.length → ∀ F, run P n (.fn "standing_in") [.d (encF f), .d (.int (x : Nat)), .d (.int (y : Nat))] F = .ok (encS (stand f x y)) F := fun x y hx hy F => standing_in_run hP.standing_in hm h hl hx hy F
  refine ⟨F ++ [.lst ((pairsOf f.length).map fun p => .tup [.int p.1, .int p.2])] ++ [.lst (settles f)], ?_, (Fr.app _ _ _).trans (Fr.app _ _ _)⟩
  have hd : (F ++ [FO.lst ((pairsOf f.length).map fun p => .tup [.int p.1, .int p.2])])[F.length]? = some (.lst ((pairsOf f.length).map fun p => .tup [.int p.1, .int p.2])) := by simp
  have hc2 : compL [(F.length, .lst ((pairsOf f.length).map fun p => .tup [.int p.1, .int p.2]))] (cbody (run P n) P [3, 4] (.tup [(.var 3), (.var 4), (.tup [(.call "standing_in" [(.idx (.var 0) (.int 1)), (.var 3), (.var 4)])])]) (.tup [3, 4]) [] [some (.d (encC rs f)), some (.d (.int f.length)), some (.d (.ref F.length)), none, none]) ((pairsOf f.length).map fun p => .tup [.int p.1, .int p.2]) [] (F ++ [FO.lst ((pairsOf f.length).map fun p => .tup [.int p.1, .int p.2])])
      = .ok (settles f) (F ++ [FO.lst ((pairsOf f.length).map fun p => .tup [.int p.1, .int p.2])]) := by
    have := compL_ty (g := [(F.length, .lst ((pairsOf f.length).map fun p => .tup [.int p.1, .int p.2]))]) (F := F ++ [FO.lst ((pairsOf f.length).map fun p => .tup [.int p.1, .int p.2])]) (body := cbody (run P n) P [3, 4] (.tup [(.var 3), (.var 4), (.tup [(.call "standing_in" [(.idx (.var 0) (.int 1)), (.var 3), (.var 4)])])]) (.tup [3, 4]) [] [some (.d (encC rs f)), some (.d (.int f.length)), some (.d (.ref F.length)), none, none])
      (fun (p : Nat × Nat) => .tup [.int p.1, .int p.2]) (pairsOf f.length) (fun _ => true) (settleD f) (gok_lst hd) fun p hp => by
        have hp' := mem_pairsOf.mp hp
        simp [cbody, wipeL, bindT, setAll, encC, hst p.1 p.2 (by omega) (by omega), settleD]
    rw [List.filter_eq_self.mpr (by simp)] at this
    exact this
  have n1 := newL_ok F hp2
  have n2 := newL_ok (F ++ [FO.lst ((pairsOf f.length).map fun p => .tup [.int p.1, .int p.2])]) hp3
  have e0 : ∀ F, idxop (encC rs f) (.int 0) F = .ok (encR rs) F := fun F => by simp [encC]
  simp [fd_settling_of, e0, hlr, bindT, hw, hc1, n1, walk_plain_ref _ hd, hc2, n2]
  rw [tuple_ref (ds := settles f) (by simp)]
  simp
theorem settling_run (hP : Has_settling P) (hn : 6 ≤ n) (h : CM rs f) (F : FH) : ∃ F', run P n (.fn "settling") [.d (encC rs f)] F = .ok (.tup (settles f)) F' ∧ Fr none F F' := by
  obtain ⟨n, rfl, hm⟩ := suc_of hn
  rw [run_fn hP.self _ _ rfl]
  obtain ⟨F1, e1, fr1⟩ := made_commons_ok hP.made_commons hm h F
  obtain ⟨F2, e2, fr2⟩ := settling_of_run hP.settling_of (n := n) (by omega) h.rf (by have := h.flen; omega) F1
  exact ⟨F2, by simp [fd_settling, e1, e2], fr1.trans fr2⟩
theorem settling_fault (hP : Has_settling P) (hn : 6 ≤ n) {d : D} (hd : D.pl d = true) {e : String × D} (h : commonsFault d = some e) (F : FH) : ∃ F', run P n (.fn "settling") [.d d] F = .exc e.1 e.2 F' ∧ Fr none F F' := by
  obtain ⟨n, rfl, hm⟩ := suc_of hn
  rw [run_fn hP.self _ _ rfl]
  obtain ⟨F1, e1, fr1⟩ := made_commons_run hP.made_commons hm hd F
  rw [h] at e1
  exact ⟨F1, by simp [fd_settling, e1], fr1⟩
end
end Fv
set_option Elab.async false
set_option linter.all false
set_option maxRecDepth 100000
/-! M7: what a law draws. -/
namespace Fv
open PySem
section
variable {F : FH}
theorem items_ref' {n : Nat} {ds : List D} (h : F[n]? = some (.lst ds)) : items F (.ref n) = some ds := by rw [items_ref]; exact lis_ref F h
theorem items_of_lis {d : D} {ds : List D} (h : lis F d = some ds) : items F d = some ds := by
  cases d <;> first | exact h | cases h
theorem dic_none {d : D} {ds : List D} (h : items F d = some ds) : dicOf F d = none := by
  cases d with
  | ref n =>
    rw [items_ref] at h
    unfold lis at h
    unfold dicOf
    simp only at h ⊢
    split at h
    · rename_i q; rw [q]
    · cases h
  | _ => rfl
theorem idx_items {d : D} {ds : List D} {k : Nat} {x : D} (h : items F d = some ds) (hk : ds[k]? = some x) : idxop d (.int (k : Int)) F = .ok x F := by
  have hl := (List.getElem?_eq_some_iff.mp hk).1
  simp [idxop, dic_none h, idxL, h, ixN_nat hl, hk]
theorem len_items {d : D} {ds : List D} (h : items F d = some ds) : biop .len [d] F = .ok (.int ds.length) F := by
  cases d with
  | tup es => cases h; rfl
  | ref n => exact len_lis F (by rwa [items_ref] at h)
  | frl es => exact len_lis F h
  | _ => cases h
theorem mul_int {i j : Int} (h : small i = true ∨ small j = true) : binop .mul (.int i) (.int j) F = .ok (.int (i * j)) F := by
  simp only [binop]
  rw [if_pos (by simpa using h)]
theorem mod_int {i j : Int} (h : 0 < j) : binop .mod (.int i) (.int j) F = .ok (.int (i % j)) F := by simp [binop, h]
theorem fdiv_int {i j : Int} (h : 0 < j) (h' : j < 1073741824) : binop .fdiv (.int i) (.int j) F = .ok (.int (i / j)) F := by simp [binop, h, h']
theorem small_of {i : Int} (h : -18446744073709551616 < i) (h' : i < 18446744073709551616) : small i = true := by
  unfold small
  rw [Bool.and_eq_true, decide_eq_true_eq, decide_eq_true_eq]
  exact ⟨h, h'⟩
theorem mul_intL {i j : Int} (h : -18446744073709551616 < i) (h' : i < 18446744073709551616) : binop .mul (.int i) (.int j) F = .ok (.int (i * j)) F := mul_int (.inl (small_of h h'))
theorem mul_intR {i j : Int} (h : -18446744073709551616 < j) (h' : j < 18446744073709551616) : binop .mul (.int i) (.int j) F = .ok (.int (i * j)) F := mul_int (.inr (small_of h h'))
end
/-- a source of draws -/
def Src (F : FH) (s : Nat) : Prop := ∃ a b : Int, F[s]? = some (.lst [.int a, .int b]) ∧ 0 ≤ a ∧ 0 ≤ b ∧ b < 2147483647
theorem Src.lt {F : FH} {s : Nat} (h : Src F s) : s < F.length := by
  obtain ⟨a, b, h, _⟩ := h
  exact (List.getElem?_eq_some_iff.mp h).1
theorem Src.mono {F F' : FH} {s : Nat} (h : Src F s) (fr : Fr none F F') : Src F' s := by
  obtain ⟨a, b, h, k⟩ := h
  exact ⟨a, b, fr.get h, k⟩
theorem Fr.set {F : FH} (s : Nat) (o : FO) : Fr (some s) F (F.set s o) := ⟨by simp, fun k o' e hk => by
  rw [List.getElem?_set_ne]
  · exact e
  · rintro rfl
    exact hk rfl⟩
theorem set_src {F : FH} {s : Nat} {a b : Int} (h : F[s]? = some (.lst [.int a, .int b])) (v : Int) :
    setIop (.ref s) (.int 0) (.int v) F = some (F.set s (.lst [.int v, .int b])) ∧ setIop (.ref s) (.int 1) (.int v) F = some (F.set s (.lst [.int a, .int v])) := by
  have h0 : at_ 2 (0 : Int) = some 0 := by decide
  have h1 : at_ 2 (1 : Int) = some 1 := by decide
  constructor <;> simp [setIop, h, setL, h0, h1]
theorem law_take_run {P : Pg} {n : Nat} (hP : Has_law_take P) (hn : 1 ≤ n) {F : FH} {s : Nat} (hs : Src F s) {top : Nat} (h0 : 0 < top) (h1 : top < 1073741824) :
    ∃ (v : Nat) (F' : FH), run P n (.fn "_law_take") [.d (.ref s), .d (.int top)] F = .ok (.int v) F' ∧ v < top ∧ Src F' s ∧ Fr (some s) F F' := by
  obtain ⟨n, rfl, _⟩ := suc_of hn
  rw [run_fn hP.self _ _ rfl]
  obtain ⟨a, b, hF, ha, hb, hb2⟩ := hs
  have hlen := (List.getElem?_eq_some_iff.mp hF).1
  have i0 : idxop (.ref s) (.int 0) F = .ok (.int a) F := idx_items (k := 0) (items_ref' hF) rfl
  have i1 : idxop (.ref s) (.int 1) F = .ok (.int b) F := idx_items (k := 1) (items_ref' hF) rfl
  have hT : (0 : Int) < top := by omega
  by_cases hpos : 0 < a
  · obtain ⟨v, hv⟩ : ∃ v : Nat, a % top = v := ⟨(a % top).toNat, by rw [Int.toNat_of_nonneg (Int.emod_nonneg _ (by omega))]⟩
    refine ⟨v, F.set s (.lst [.int (a / top), .int b]), ?_, ?_, ⟨a / top, b, by simp [hlen], Int.ediv_nonneg ha (by omega), hb, hb2⟩, Fr.set s _⟩
    · simp [fd_law_take, i0, hpos, bindT, mod_int hT, fdiv_int hT (by omega : (top : Int) < 1073741824), (set_src hF (a / top)).1, hv]
    · have := Int.emod_lt_of_pos a hT
      omega
  · generalize hc : (b * 39373 + 7) % 2147483647 = c
    have hc0 : 0 ≤ c := by rw [← hc]; exact Int.emod_nonneg _ (by decide)
    have hc1 : c < 2147483647 := by rw [← hc]; exact Int.emod_lt_of_pos _ (by decide)
    have hF' : (F.set s (.lst [.int a, .int c]))[s]? = some (.lst [.int a, .int c]) := by simp [hlen]
    have i1' : idxop (.ref s) (.int 1) (F.set s (.lst [.int a, .int c])) = .ok (.int c) (F.set s (.lst [.int a, .int c])) := idx_items (k := 1) (items_ref' hF') rfl
    obtain ⟨v, hv⟩ : ∃ v : Nat, c * c % 2147483629 / 32 % top = v := ⟨(c * c % 2147483629 / 32 % top).toNat, by rw [Int.toNat_of_nonneg (Int.emod_nonneg _ (by omega))]⟩
    refine ⟨v, F.set s (.lst [.int a, .int c]), ?_, ?_, ⟨a, c, hF', ha, hc0, hc1⟩, Fr.set s _⟩
    · simp [fd_law_take, i0, i1, hpos, bindT, mul_intR (F := F) (i := b) (j := 39373) (by decide) (by decide), mod_int (F := F) (i := b * 39373 + 7) (j := 2147483647) (by decide), hc, (set_src hF c).2, i1',
        mul_intL (F := F.set s (.lst [.int a, .int c])) (i := c) (j := c) (by omega) (by omega), mod_int (F := F.set s (.lst [.int a, .int c])) (i := c * c) (j := 2147483629) (by decide),
        fdiv_int (F := F.set s (.lst [.int a, .int c])) (i := c * c % 2147483629) (j := 32) (by decide) (by decide), mod_int (F := F.set s (.lst [.int a, .int c])) (i := c * c % 2147483629 / 32) hT, hv]
    · have := Int.emod_lt_of_pos (c * c % 2147483629 / 32) hT
      omega
theorem fr_itemsS {F F' : FH} {s : Nat} (h : Fr (some s) F F') {d : D} {ds : List D} (hd : d ≠ .ref s) (e : items F d = some ds) : items F' d = some ds := by
  cases d with
  | tup es => exact e
  | frl es => exact e
  | ref n =>
    rw [items_ref] at e ⊢
    unfold lis at e ⊢
    simp only at e ⊢
    split at e
    · rename_i q
      rw [h.at_ n _ q (by intro z; exact hd (by rw [Option.some.inj z]))]
      exact e
    · cases e
  | _ => cases e
theorem law_one_run {P : Pg} {n : Nat} (hP : Has_law_one P) (hn : 2 ≤ n) {F : FH} {s : Nat} (hs : Src F s) {d : D} {ds : List D} (hd : items F d = some ds) (hne : d ≠ .ref s) (h0 : ds ≠ []) (h1 : ds.length < 1073741824) :
    ∃ (x : D) (F' : FH), run P n (.fn "_law_one") [.d (.ref s), .d d] F = .ok x F' ∧ x ∈ ds ∧ Src F' s ∧ Fr (some s) F F' := by
  obtain ⟨n, rfl, hm⟩ := suc_of hn
  rw [run_fn hP.self _ _ rfl]
  obtain ⟨v, F', e, hv, hs', fr⟩ := law_take_run hP.law_take hm hs (List.length_pos_iff.mpr h0) h1
  refine ⟨ds[v], F', ?_, List.getElem_mem hv, hs', fr⟩
  have hi := idx_items (fr_itemsS fr hne hd) (List.getElem?_eq_getElem hv)
  simp [fd_law_one, len_items hd, e, hi]
/-- behind the choice of the cell -/
def poolRest : List FS := [.asg (.nm 3) (.bi .max [(.bi .int [(.var 2)]), (.bi .int [(.bin .sub (.neg (.int 1)) (.var 2))])]),
   .asg (.nm 4) (.bin .mod (.bi .int [(.bin .mul (.bin .add (.bin .add (.bin .add (.bin .mod (.bi .int [(.var 3)]) (.int 2147483629)) (.bin .mul (.bin .mul (.int 7919) (.var 1)) (.var 1))) (.bin .mul (.int 31) (.var 1))) (.int 17)) (.int 48271))]) (.int 2147483647)),
   .ret (.lst [(.bin .mul (.var 3) (.bi .int [(.and (.cmp .ge (.var 3) (.bin .pow (.int 10) (.int 18))) (.cmp .lt (.var 1) (.bi .len [(.var 0)])))])), (.var 4)])]
theorem pool_eq : fd_law_pool = ⟨["script", "k"], 5,
  .asg (.nm 2) (.int 0) ::
   .ite (.cmp .lt (.var 1) (.bi .len [(.var 0)])) [.asg (.nm 2) (.idx (.var 0) (.var 1))] [.ite (.cmp .ne (.var 0) (.lst [])) [.asg (.nm 2) (.idx (.var 0) (.int 0))] []] :: poolRest⟩ := rfl
theorem law_pool_run {P : Pg} {n : Nat} (hP : Has_law_pool P) (hn : 1 ≤ n) {F : FH} {d : D} {ns : List Int} (hd : lis F d = some (ns.map .int)) (k : Nat) (hk : k ≤ 1000) :
    ∃ (s : Nat) (F' : FH), run P n (.fn "_law_pool") [.d d, .d (.int k)] F = .ok (.ref s) F' ∧ Src F' s ∧ Fr none F F' ∧ F.length ≤ s := by
  obtain ⟨n, rfl, _⟩ := suc_of hn
  rw [run_fn hP.self _ _ rfl]
  have hl : ∀ G, biop .len [d] (F ++ G) = .ok (.int ns.length) (F ++ G) := fun G => by
    have := len_lis (F ++ G) ((Fr.app none F G).lis hd)
    simpa using this
  have hl0 : biop .len [d] F = .ok (.int ns.length) F := by simpa using hl []
  -- what is behind the choice of the cell
  have fin : ∀ (G : FH) (cell : Int) (a b : Option SV), ∃ s F', (exs (run P n) P poolRest [some (.d d), some (.d (.int k)), some (.d (.int cell)), a, b] (F ++ G)).fin = .ok (.ref s) F' ∧ Src F' s ∧ Fr none F F' ∧ F.length ≤ s := by
    intro G cell a b
    generalize hbg : (if -1 - cell > cell then -1 - cell else cell) = big
    have hb0 : 0 ≤ big := by
      rw [← hbg]
      split <;> omega
    generalize hmx : ((big % 2147483629 + 7919 * (k : Int) * k + 31 * k + 17) * 48271) % 2147483647 = mx
    have hm0 : 0 ≤ mx := by rw [← hmx]; exact Int.emod_nonneg _ (by decide)
    have hm1 : mx < 2147483647 := by rw [← hmx]; exact Int.emod_lt_of_pos _ (by decide)
    generalize hq : (if 1000000000000000000 ≤ big ∧ k < ns.length then (1 : Int) else 0) = q
    have hq0 : 0 ≤ q ∧ q ≤ 1 := by
      rw [← hq]
      split <;> decide
    have hpow : ∀ F, binop .pow (.int 10) (.int 18) F = .ok (.int 1000000000000000000) F := fun F => by
      simp [binop, small]
    refine ⟨(F ++ G).length, (F ++ G) ++ [.lst [.int (big * q), .int mx]], ?_, ⟨big * q, mx, by simp, Int.mul_nonneg hb0 hq0.1, hm0, hm1⟩, (Fr.app _ _ _).trans (Fr.app _ _ _), by simp⟩
    have e1 : ∀ F, binop .mul (.int 7919) (.int (k : Int)) F = .ok (.int (7919 * k)) F := fun F => mul_intL (by decide) (by decide)
    have e2 : ∀ F, binop .mul (.int (7919 * (k : Int))) (.int (k : Int)) F = .ok (.int (7919 * k * k)) F := fun F => mul_intR (by omega) (by omega)
    have e3 : ∀ F, binop .mul (.int 31) (.int (k : Int)) F = .ok (.int (31 * k)) F := fun F => mul_intL (by decide) (by decide)
    have e4 : ∀ i F, binop .mul (.int i) (.int 48271) F = .ok (.int (i * 48271)) F := fun i F => mul_intR (by decide) (by decide)
    have e5 : ∀ i F, binop .mod (.int i) (.int 2147483629) F = .ok (.int (i % 2147483629)) F := fun i F => mod_int (by decide)
    have e6 : ∀ i F, binop .mod (.int i) (.int 2147483647) F = .ok (.int (i % 2147483647)) F := fun i F => mod_int (by decide)
    have e7 : ∀ F, binop .mul (.int big) (.int q) F = .ok (.int (big * q)) F := fun F => mul_intR (by omega) (by omega)
    have e8 : ∀ F, newL [D.int (big * q), .int mx] F = .ok (.ref F.length) (F ++ [.lst [.int (big * q), .int mx]]) := fun F => newL_ok F (by simp)
    have hbg' : (if cell < -1 - cell then -1 - cell else cell) = big := hbg
    simp [poolRest, bindT, hbg', e1, e2, e3, e4, e5, e6, hmx, hpow, hl, hq, e7, e8]
  by_cases h1 : (k : Int) < ns.length
  · have hi : idxop d (.int (k : Int)) F = .ok (.int (ns[k]'(by omega))) F := by
      have hit : items F d = some (ns.map .int) := items_of_lis hd
      exact idx_items hit (by rw [List.getElem?_map, List.getElem?_eq_getElem (by omega)]; rfl)
    obtain ⟨s, F', e, h⟩ := fin [] (ns[k]'(by omega)) none none
    refine ⟨s, F', ?_, h⟩
    rw [← e]
    simp only [List.append_nil]
    simp [pool_eq, bindT, hl0, h1, hi]
  · have hcmp : ∀ G, eqd (F ++ [.lst []] ++ G) d (.ref F.length) = some (ns.map D.int).isEmpty := fun G =>
      eqd_empty (((Fr.app none F _).trans (Fr.app none _ G)).lis hd) (lis_ref _ (by simp)) (by rw [pls_iff]; simp [D.pl])
    have hcmp0 := hcmp []
    rw [List.append_nil] at hcmp0
    cases ns with
    | nil =>
      obtain ⟨s, F', e, h⟩ := fin [.lst []] 0 none none
      refine ⟨s, F', ?_, h⟩
      rw [← e]
      simp at hl0 hcmp0
      have h0 : ¬ ((k : Int) < 0) := by omega
      simp [pool_eq, bindT, hl0, hcmp0, h0]
    | cons z r =>
      have hit : items (F ++ [.lst []]) d = some ((z :: r).map .int) := items_of_lis ((Fr.app none F _).lis hd)
      have hi : idxop d (.int 0) (F ++ [.lst []]) = .ok (.int z) (F ++ [.lst []]) := idx_items (k := 0) hit rfl
      obtain ⟨s, F', e, h⟩ := fin [.lst []] z none none
      refine ⟨s, F', ?_, h⟩
      rw [← e]
      have h1' : ¬ ((k : Int) < (r.length : Int) + 1) := by simpa using h1
      simp at hl0 hcmp0
      simp [pool_eq, bindT, hl0, h1', hcmp0, hi]
end Fv
set_option Elab.async false
set_option linter.all false
set_option maxRecDepth 100000
/-! M8: a law's own looks. -/
namespace Fv
open PySem
/-! ### more on loops -/
/-- a search -/
theorem forL_find {α : Type} {g : Gd} {body : D → Ls → FH → R O} (enc : α → D) (l : List α) (q : α → Bool) (ret : α → D) (I : Ls → Prop) {ls : Ls} {F : FH} {r : R O} (e : forL g body (l.map enc) ls F = r) (hg : gok g F = true) (h0 : I ls)
    (hs : ∀ a ∈ l, ∀ ls, I ls → (q a = true → body (enc a) ls F = .ok (.rt (ret a)) F) ∧ (q a = false → ∃ ls', body (enc a) ls F = .ok (.nx ls') F ∧ I ls')) :
    match l.find? q with
    | some a => r = .ok (.rt (ret a)) F
    | none => ∃ ls', r = .ok (.nx ls') F ∧ I ls' := by
  induction l generalizing ls with
  | nil =>
    rw [List.map_nil, forL, if_pos hg] at e
    exact ⟨ls, e.symm, h0⟩
  | cons a t ih =>
    rw [List.map_cons, forL, if_pos hg] at e
    obtain ⟨h1, h2⟩ := hs a (by simp) ls h0
    cases hq : q a with
    | true =>
      rw [h1 hq] at e
      simp [List.find?_cons, hq, e.symm]
    | false =>
      obtain ⟨ls', e', hI⟩ := h2 hq
      rw [e'] at e
      have := ih e hI fun b hb => hs b (List.mem_cons_of_mem _ hb)
      simpa [List.find?_cons, hq] using this
@[simp] theorem set_new (F : FH) (a b : FO) : (F ++ [a]).set F.length b = F ++ [b] := by simp
theorem append_run {F : FH} {n : Nat} {ds : List D} (h : F[n]? = some (.lst ds)) (hz : ds.length + 1 ≤ 16777216) (x : D) : methop .append (.ref n) [x] F = .ok .non (F.set n (.lst (ds ++ [x]))) := by
  simp [methop, h, big, hz]
theorem extend_run {F : FH} {n m : Nat} {ds xs : List D} (h : F[n]? = some (.lst ds)) (h' : F[m]? = some (.lst xs)) (hz : ds.length + xs.length ≤ 16777216) : methop .extend (.ref n) [.ref m] F = .ok .non (F.set n (.lst (ds ++ xs))) := by
  simp [methop, h, h', big, hz]
theorem rcv_lst {F : FH} {n : Nat} {ds : List D} (h : F[n]? = some (.lst ds)) {m : Mt} (hm : m ≠ .get) : rcv m F (.ref n) = true := by
  cases m <;> first | exact absurd rfl hm | simp [rcv, lis, h]
section
variable {P : Pg} {n : Nat}
theorem law_is_whole_run (hP : Has_law_is_whole P) (hn : 1 ≤ n) {d : D} (hd : D.pl d = true) (F : FH) : run P n (.fn "_law_is_whole") [.d d] F = .ok (.bl (isWhole d)) F := by
  obtain ⟨n, rfl, _⟩ := suc_of hn
  rw [run_fn hP.self _ _ rfl]
  cases d <;> simp [fd_law_is_whole, isWhole, D.pl] at hd ⊢
def numB (d : D) (most : Int) : Bool := match d with
  | .int i => decide (0 ≤ i) && decide (i < most)
  | _ => false
theorem law_number_run (hP : Has_law_number P) (hn : 1 ≤ n) {d : D} (hd : D.pl d = true) (most : Int) (F : FH) : run P n (.fn "_law_number") [.d d, .d (.int most)] F = .ok (.bl (numB d most)) F := by
  obtain ⟨n, rfl, _⟩ := suc_of hn
  rw [run_fn hP.self _ _ rfl]
  cases d <;> simp [fd_law_number, numB, D.pl] at hd ⊢
theorem law_climb_run (hP : Has_law_climb P) (hn : 1 ≤ n) {f : List Pl} (hf : Hold f) (hl : f.length ≤ 1000) {x : Nat} (hx : x < f.length) (F : FH) :
    run P n (.fn "_law_climb") [.d (encF f), .d (.int x)] F = .ok (.ref F.length) (F ++ [.lst ((climb f f.length (getP f x)).map fun (p : Nat × Nat) => D.tup [.int p.1, .int p.2])]) := by
  obtain ⟨n, rfl, hm⟩ := suc_of hn
  rw [run_fn hP.self _ _ rfl]
  have hi : ∀ k, k < f.length → ∀ F, idxop (encF f) (.int (k : Int)) F = .ok (encP (getP f k)) F := fun k hk F => idx_tup (by rw [List.getElem?_map, get_some hk]; rfl)
  have hlen : ∀ F, biop .len [encF f] F = .ok (.int f.length) F := fun F => by simp [encF]
  have hw : ∀ F, walk .range [.int f.length] F = some (rng 0 f.length, []) := fun F => walk_range1 F (j := (f.length : Int)) (by omega)
  simp [fd_law_climb, hi x hx, hlen, hw]
  generalize e : forL _ _ _ _ _ = r
  have hz := forL_ix e (J := fun k ls F' => ∃ (pre : List (Nat × Nat)) (p : Pl) (a : Option SV), ls = [some (.d (encF f)), some (.d (.int x)), a, some (.d (.ref F.length)), some (.d (encP p))] ∧ F' = F ++ [.lst (pre.map fun (p : Nat × Nat) => D.tup [.int p.1, .int p.2])] ∧ pre.length = k ∧ (∀ q, p = some q → q.1 < f.length) ∧ climb f f.length (getP f x) = pre ++ climb f (f.length - k) p)
    (Z := fun r => ∃ ls, r = .ok (.nx ls) (F ++ [.lst ((climb f f.length (getP f x)).map fun (p : Nat × Nat) => D.tup [.int p.1, .int p.2])]) ∧ slot ls 3 = slot [none, none, none, some (.d (.ref F.length))] 3) ⟨[], getP f x, none, rfl, rfl, rfl, fun q e => by
      unfold getP at e
      rw [List.getD_eq_getElem?_getD] at e
      cases hq : f[x]? with
      | none => rw [hq] at e; cases e
      | some o => rw [hq] at e; cases e; exact hf x q hq, by simp⟩ ?_ ?_
  · obtain ⟨ls, rfl, hs⟩ := hz
    simp
    rw [hs]
    simp
  · rintro k y ls F' hy ⟨pre, p, a, rfl, rfl, hpl, hp, hc⟩
    obtain ⟨hk, rfl⟩ := rngGet.mp hy
    have hF : (F ++ [FO.lst (pre.map fun (p : Nat × Nat) => D.tup [.int p.1, .int p.2])])[F.length]? = some (.lst (pre.map fun (p : Nat × Nat) => D.tup [.int p.1, .int p.2])) := by simp
    obtain ⟨m, hm⟩ : ∃ m, f.length - k = m + 1 := ⟨f.length - k - 1, by omega⟩
    have hm' : f.length - (k + 1) = m := by omega
    rw [hm] at hc
    cases p with
    | none =>
      simp [climb] at hc
      simp [fbody, bindT, hc]
      funext F'
      simp [slot]
    | some q =>
      have hq := hp q rfl
      have ha := append_run hF (x := .tup [.int q.1, .int q.2]) (by simp; omega)
      have hr := rcv_lst hF (m := .append) (by simp)
      simp [climb] at hc
      refine turn_to ⟨pre ++ [q], getP f q.1, some (.d (.int k)), rfl, rfl, by simp [hpl], fun q2 e => ?_, by rw [hm', hc]; simp⟩ ?_
      · unfold getP at e
        rw [List.getD_eq_getElem?_getD] at e
        cases hq2 : f[q.1]? with
        | none => rw [hq2] at e; cases e
        | some o => rw [hq2] at e; cases e; exact hf q.1 q2 hq2
      · simp [fbody, bindT, hr, ha, hi q.1 hq]
  · rintro ls F' ⟨pre, p, a, rfl, rfl, hpl, hp, hc⟩
    simp [climb] at hc
    refine ⟨_, by rw [hc], ?_⟩
    funext F'
    simp [slot]
theorem find_pairs {F : FH} {c : Nat} {l : List (Nat × Nat)} (h : F[c]? = some (.lst (l.map fun (p : Nat × Nat) => D.tup [.int p.1, .int p.2]))) : walk .plain [.ref c] F = some (l.map (fun (p : Nat × Nat) => D.tup [.int p.1, .int p.2]), [(c, .lst (l.map fun (p : Nat × Nat) => D.tup [.int p.1, .int p.2]))]) := walk_plain_ref F h
theorem law_standing_run (hP : Has_law_standing P) (hn : 2 ≤ n) {rs : List Nat} {f : List Pl} (h : RF rs f) (hl : f.length ≤ 1000) {x y : Nat} (hx : x < f.length) (hy : y < f.length) (F : FH) :
    ∃ F', run P n (.fn "_law_standing") [.d (encF f), .d (.int x), .d (.int y)] F = .ok (encS (stand f x y)) F' ∧ Fr none F F' := by
  obtain ⟨n, rfl, hm⟩ := suc_of hn
  rw [run_fn hP.self _ _ rfl]
  have hcl : ∀ z, z < f.length → ∀ F, run P n (.fn "_law_climb") [.d (encF f), .d (.int (z : Nat))] F = .ok (.ref F.length) (F ++ [.lst ((way f (getP f z)).map fun (p : Nat × Nat) => D.tup [.int p.1, .int p.2])]) := fun z hz F => law_climb_run hP.law_climb hm h.hold hl hz F
  obtain ⟨F1, hF1⟩ : ∃ F1, F1 = F ++ [FO.lst ((way f (getP f x)).map fun (p : Nat × Nat) => D.tup [.int p.1, .int p.2])] := ⟨_, rfl⟩
  obtain ⟨F2, hF2⟩ : ∃ F2, F2 = F1 ++ [FO.lst ((way f (getP f y)).map fun (p : Nat × Nat) => D.tup [.int p.1, .int p.2])] := ⟨_, rfl⟩
  have g1 : F1[F.length]? = some (.lst ((way f (getP f x)).map fun (p : Nat × Nat) => D.tup [.int p.1, .int p.2])) := by simp [hF1]
  have g2 : F2[F1.length]? = some (.lst ((way f (getP f y)).map fun (p : Nat × Nat) => D.tup [.int p.1, .int p.2])) := by simp [hF2]
  have c1 : run P n (.fn "_law_climb") [.d (encF f), .d (.int x)] F = .ok (.ref F.length) F1 := by rw [hF1]; exact hcl x hx F
  have c2 : run P n (.fn "_law_climb") [.d (encF f), .d (.int y)] F1 = .ok (.ref F1.length) F2 := by rw [hF2]; exact hcl y hy F1
  simp [fd_law_standing, c1, find_pairs g1]
  generalize e1 : forL _ _ _ _ _ = r1
  have hz1 := forL_find (fun (p : Nat × Nat) => D.tup [.int p.1, .int p.2]) (way f (getP f x)) (fun p => p.1 == y) (fun p => encS (.inn p.2)) (fun ls => ∃ a b, ls = [some (.d (encF f)), some (.d (.int x)), some (.d (.int y)), a, b]) e1 (gok_lst g1) ⟨_, _, rfl⟩ (fun p _ ls ⟨a, b, e⟩ => by
    subst e
    refine ⟨fun q => ?_, fun q => ⟨_, ?_, some (.d (.int p.1)), some (.d (.int p.2)), rfl⟩⟩
    · simp at q
      simp [fbody, bindT, setAll, q, encS]
    · have q' : ¬ ((p.1 : Int) = y) := by simp at q; omega
      simp [fbody, bindT, setAll, q'])
  unfold stand roomWay
  cases q1 : (way f (getP f x)).find? fun p => p.1 == y with
  | some p =>
    simp only [q1] at hz1
    subst hz1
    exact ⟨F1, by simp, by rw [hF1]; exact Fr.app _ _ _⟩
  | none =>
    simp only [q1] at hz1
    obtain ⟨ls, rfl, a, b, rfl⟩ := hz1
    simp [c2, find_pairs g2]
    generalize e2 : forL _ _ _ _ _ = r2
    have hz2 := forL_find (fun (p : Nat × Nat) => D.tup [.int p.1, .int p.2]) (way f (getP f y)) (fun p => p.1 == x) (fun p => encS (.ar p.2)) (fun ls => ∃ a b, ls = [some (.d (encF f)), some (.d (.int x)), some (.d (.int y)), a, b]) e2 (gok_lst g2) ⟨_, _, rfl⟩ (fun p _ ls ⟨a, b, e⟩ => by
      subst e
      refine ⟨fun q => ?_, fun q => ⟨_, ?_, some (.d (.int p.1)), some (.d (.int p.2)), rfl⟩⟩
      · simp at q
        simp [fbody, bindT, setAll, q, encS]
      · have q' : ¬ ((p.1 : Int) = x) := by simp at q; omega
        simp [fbody, bindT, setAll, q'])
    have fr : Fr none F F2 := by rw [hF2, hF1]; exact (Fr.app _ _ _).trans (Fr.app _ _ _)
    cases q2 : (way f (getP f y)).find? fun p => p.1 == x with
    | some p =>
      simp only [q2] at hz2
      subst hz2
      exact ⟨F2, by simp, fr⟩
    | none =>
      simp only [q2] at hz2
      obtain ⟨ls, rfl, a, b, rfl⟩ := hz2
      exact ⟨F2, by simp [encS], fr⟩
/-- the things in a place -/
theorem law_crowd_run (hP : Has_law_crowd_of P) (hn : 1 ≤ n) {f : List Pl} (hl : f.length ≤ 1000) (p : Pl) (F : FH) :
    run P n (.fn "_law_crowd_of") [.d (encF f), .d (encP p)] F = .ok (.ref F.length) (F ++ [.lst (dInts (crowd f p))]) := by
  obtain ⟨n, rfl, hm⟩ := suc_of hn
  rw [run_fn hP.self _ _ rfl]
  have hi : ∀ k, k < f.length → ∀ F, idxop (encF f) (.int (k : Int)) F = .ok (encP (getP f k)) F := fun k hk F => idx_tup (by rw [List.getElem?_map, get_some hk]; rfl)
  have hlen : ∀ F, biop .len [encF f] F = .ok (.int f.length) F := fun F => by simp [encF]
  have hw : ∀ F, walk .range [.int f.length] F = some (rng 0 f.length, []) := fun F => walk_range1 F (j := (f.length : Int)) (by omega)
  have hc : ∀ F, compL [] (cbody (run P n) P [2] (.var 2) (.nm 2) [(.cmp .eq (.idx (.var 0) (.var 2)) (.var 1))] [some (.d (encF f)), some (.d (encP p)), none]) (rng 0 f.length) [] F = .ok (dInts (crowd f p)) F := fun F => by
    rw [rng_nat]
    refine compL_ty _ _ (fun x => decide (getP f x = p)) (fun (x : Nat) => .int x) rfl fun x hx => ?_
    have hx' : x < f.length := by simpa using hx
    simp [cbody, wipeL, bindT, hi x hx']
    split <;> rfl
  have hz : (dInts (crowd f p)).length ≤ 16777216 := by
    have := List.length_filter_le (fun x => decide (getP f x = p)) (List.range f.length)
    simp [dInts, crowd] at this ⊢
    omega
  simp [fd_law_crowd_of, hlen, hw, hc, newL_ok _ hz]
theorem law_stalls_run (hP : Has_law_stalls_of P) (hn : 2 ≤ n) {rs : List Nat} {f : List Pl} (hl : f.length ≤ 1000) (p : Pl) (F : FH) :
    ∃ F', run P n (.fn "_law_stalls_of") [.d (encC rs f), .d (encP p)] F = .ok (.tup (dInts (crowd f p))) F' ∧ Fr none F F' := by
  obtain ⟨n, rfl, hm⟩ := suc_of hn
  rw [run_fn hP.self _ _ rfl]
  refine ⟨F ++ [.lst (dInts (crowd f p))], ?_, Fr.app _ _ _⟩
  simp [fd_law_stalls_of, encC, law_crowd_run hP.law_crowd_of hm hl]
  rw [tuple_ref (ds := dInts (crowd f p)) (by simp)]
  simp
theorem Fr.set_new {F F' : FH} {c : Nat} (h : Fr none F F') (hc : F.length ≤ c) (o : FO) : Fr none F (F'.set c o) := ⟨by simpa using h.len, fun k o' e _ => by
  rw [List.getElem?_set_ne]
  · exact h.get e
  · have := (List.getElem?_eq_some_iff.mp e).1
    omega⟩
theorem set_at {F : FH} {c : Nat} {o : FO} (h : F[c]? = some o) (o' : FO) : (F.set c o')[c]? = some o' := by
  rw [List.getElem?_set_self]
  exact (List.getElem?_eq_some_iff.mp h).1
theorem fr_new {F F' : FH} (h : Fr none F F') (o : FO) : Fr none F (F' ++ [o]) := h.trans (Fr.app _ _ _)
theorem law_places_run (hP : Has_law_places_of P) (hn : 1 ≤ n) {rs : List Nat} (hr : ∀ r ∈ rs, r ≤ 1000) (hl : rs.length ≤ 1000) (b : D) (F : FH) :
    ∃ c F', run P n (.fn "_law_places_of") [.d (.tup [encR rs, b])] F = .ok (.ref c) F' ∧ F'[c]? = some (.lst ((placesOf rs).map encP)) ∧ Fr none F F' ∧ F.length ≤ c := by
  obtain ⟨n, rfl, hm⟩ := suc_of hn
  rw [run_fn hP.self _ _ rfl]
  have hlen : ∀ F, biop .len [encR rs] F = .ok (.int rs.length) F := fun F => by simp [encR]
  have hw : ∀ F, walk .range [.int rs.length] F = some (rng 0 rs.length, []) := fun F => walk_range1 F (j := (rs.length : Int)) (by omega)
  simp [fd_law_places_of, bindT, newL_ok, hlen, hw]
  generalize e : forL _ _ _ _ _ = r
  have hz := forL_ix e (J := fun k ls F' => ∃ (pre : List Pl) (a i : Option SV), ls = [some (.d (.tup [encR rs, b])), some (.d (.ref F.length)), a, i] ∧ F'[F.length]? = some (.lst (pre.map encP)) ∧ Fr none F F' ∧ pre = none :: (List.range k).flatMap fun x => (List.range (rs.getD x 0)).map fun i => some (x, i))
    (Z := fun r => ∃ a i F', r = .ok (.nx [some (.d (.tup [encR rs, b])), some (.d (.ref F.length)), a, i]) F' ∧ F'[F.length]? = some (.lst ((placesOf rs).map encP)) ∧ Fr none F F') ⟨[none], none, none, rfl, by simp, Fr.app _ _ _, rfl⟩ ?_ ?_
  · obtain ⟨a, i, F', rfl, h1, h2⟩ := hz
    exact ⟨F.length, F', by simp, h1, h2, Nat.le_refl _⟩
  · rintro k y ls F' hy ⟨pre, a, i, rfl, h1, h2, hpre⟩
    obtain ⟨hk, rfl⟩ := rngGet.mp hy
    have hk' : k < rs.length := by omega
    have hrk : rs.getD k 0 ≤ 1000 := by
      rw [List.getD_eq_getElem?_getD, List.getElem?_eq_getElem hk']
      exact hr _ (List.getElem_mem hk')
    have hi : ∀ F, idxop (encR rs) (.int (k : Int)) F = .ok (.int (rs.getD k 0 : Nat)) F := fun F => idx_tup (by rw [List.getElem?_map, List.getElem?_eq_getElem hk']; simp [hk'])
    have hnext : ∀ g : Nat → List Pl, (List.range (k + 1)).flatMap g = (List.range k).flatMap g ++ g k := fun g => by
      rw [List.range_succ, List.flatMap_append]
      simp
    have hgoal : none :: (List.range (k + 1)).flatMap (fun x => (List.range (rs.getD x 0)).map fun i => (some (x, i) : Pl)) = pre ++ (List.range (rs.getD k 0)).map fun i => (some (k, i) : Pl) := by
      rw [hnext, hpre]
      rfl
    have hpl : pre.length ≤ 1 + k * 1000 := by
      rw [hpre]
      have : ∀ l : List Nat, (∀ x ∈ l, rs.getD x 0 ≤ 1000) → (l.flatMap fun x => (List.range (rs.getD x 0)).map fun i => (some (x, i) : Pl)).length ≤ l.length * 1000 := by
        intro l
        induction l with
        | nil => simp
        | cons a t ih =>
          intro h
          have h1 := ih fun x hx => h x (List.mem_cons_of_mem _ hx)
          have h2 := h a (by simp)
          rw [List.flatMap_cons, List.length_append, List.length_cons, Nat.succ_mul]
          simp only [List.length_map, List.length_range] at h1 ⊢
          omega
      have h3 := this (List.range k) fun x hx => by
        have hx' : x < rs.length := by simp at hx; omega
        rw [List.getD_eq_getElem?_getD, List.getElem?_eq_getElem hx']
        exact hr _ (List.getElem_mem hx')
      simp only [List.length_range] at h3
      rw [List.length_cons]
      omega
    generalize hmk : rs.getD k 0 = m at hrk hi hgoal
    generalize hps : ((List.range m).map fun i => (some (k, i) : Pl)) = ps at hgoal
    have hpsl : ps.length = m := by rw [← hps]; simp
    have hc : ∀ F a b c, compL [] (cbody (run P n) P [3] (.tup [(.var 2), (.var 3)]) (.nm 3) [] [a, b, some (.d (.int k)), c]) (rng 0 (m : Nat)) [] F = .ok (ps.map encP) F := fun F a b c => by
      rw [rng_nat]
      have := compL_ty (g := []) (F := F) (body := cbody (run P n) P [3] (.tup [(.var 2), (.var 3)]) (.nm 3) [] [a, b, some (.d (.int k)), c]) (fun (i : Nat) => D.int i) (List.range m) (fun _ => true) (fun i => encP (some (k, i))) rfl fun i _ => by
        simp [cbody, wipeL, bindT]
      rw [List.filter_eq_self.mpr (by simp)] at this
      rw [← hps, List.map_map]
      exact this
    have hw2 : ∀ F, walk .range [.int (m : Nat)] F = some (rng 0 (m : Nat), []) := fun F => walk_range1 F (j := ((m : Nat) : Int)) (by omega)
    have hfl : F.length < F'.length := (List.getElem?_eq_some_iff.mp h1).1
    have h1' : ∀ o, (F' ++ [o])[F.length]? = some (.lst (pre.map encP)) := fun o => by rw [List.getElem?_append_left hfl]; exact h1
    have hz1 : (ps.map encP).length ≤ 16777216 := by simp; omega
    have hx := extend_run (h1' (.lst (ps.map encP))) (m := F'.length) (xs := ps.map encP) (by simp) (by simp; omega)
    have hrv := rcv_lst (h1) (m := .extend) (by simp)
    refine turn_to ⟨pre ++ ps, some (.d (.int k)), i, rfl, (set_at (h1' (.lst (ps.map encP))) _).trans (by rw [List.map_append]), (h2.trans (Fr.app _ _ _)).set_new (Nat.le_refl _) _, hgoal.symm⟩ ?_
    simp [fbody, bindT, hrv, hi, hw2, hc, newL_ok _ hz1, hx]
  · rintro ls F' ⟨pre, a, i, rfl, h1, h2, hpre⟩
    simp at hpre
    exact ⟨a, i, F', rfl, by rw [hpre] at h1; exact h1, h2⟩
end
end Fv
set_option Elab.async false
set_option linter.all false
set_option maxRecDepth 100000
/-! M9: a law's own squares, sayings; what is told. -/
namespace Fv
open PySem
section
variable {P : Pg} {n : Nat} {rs : List Nat} {f : List Pl}
theorem Fr.lst {F F' : FH} (h : Fr none F F') {c : Nat} {ds : List D} (e : F[c]? = some (.lst ds)) : gok [(c, .lst ds)] F' = true := gok_lst (h.get e)
theorem placesOf_len {rs : List Nat} (hr : ∀ r ∈ rs, r ≤ 1000) : (placesOf rs).length ≤ 1 + rs.length * 1000 := by
  have : ∀ l : List Nat, (∀ x ∈ l, rs.getD x 0 ≤ 1000) → (l.flatMap fun x => (List.range (rs.getD x 0)).map fun i => (some (x, i) : Pl)).length ≤ l.length * 1000 := by
    intro l
    induction l with
    | nil => simp
    | cons a t ih =>
      intro h
      have h1 := ih fun x hx => h x (List.mem_cons_of_mem _ hx)
      have h2 := h a (by simp)
      rw [List.flatMap_cons, List.length_append, List.length_cons, Nat.succ_mul]
      simp only [List.length_map, List.length_range] at h1 ⊢
      omega
  have h3 := this (List.range rs.length) fun x hx => by
    have hx' : x < rs.length := by simpa using hx
    rw [List.getD_eq_getElem?_getD, List.getElem?_eq_getElem hx']
    exact hr _ (List.getElem_mem hx')
  unfold placesOf
  rw [List.length_cons]
  simp only [List.length_range] at h3
  omega
theorem law_squares_run (hP : Has_law_squares_of P) (hn : 2 ≤ n) (hr : ∀ r ∈ rs, r ≤ 1000) (hl : rs.length ≤ 1000) (hf : f.length ≤ 1000) (F : FH) :
    ∃ F', run P n (.fn "_law_squares_of") [.d (encC rs f)] F = .ok (.tup ((sq rs f).map encP)) F' ∧ Fr none F F' := by
  obtain ⟨n, rfl, hm⟩ := suc_of hn
  rw [run_fn hP.self _ _ rfl]
  obtain ⟨c, F1, e1, h1, fr1, hc1⟩ := law_places_run hP.law_places_of hm hr hl (encF f) F
  have e1' : run P n (.fn "_law_places_of") [.d (encC rs f)] F = .ok (.ref c) F1 := e1
  obtain ⟨F2, e2, fr2⟩ := compL_tyF (g := [(c, .lst ((placesOf rs).map encP))]) (F := F1) (body := cbody (run P n) P [1] (.var 1) (.nm 1) [(.cmp .gt (.bi .len [(.call "_law_crowd_of" [(.idx (.var 0) (.int 1)), (.var 1)])]) (.int 1))] [some (.d (encC rs f)), none]) encP (placesOf rs) (fun p => decide (2 ≤ f.count p)) encP (fun F' h => h.lst h1) fun p _ F' hF => by
    refine ⟨F' ++ [.lst (dInts (crowd f p))], ?_, Fr.app _ _ _⟩
    have hlen := len_ref (F := F' ++ [.lst (dInts (crowd f p))]) (k := F'.length) (ds := dInts (crowd f p)) (by simp)
    have hcl : ((dInts (crowd f p)).length : Int) = (f.count p : Int) := by simp [dInts, crowd_len]
    rw [hcl] at hlen
    simp [cbody, wipeL, bindT, encC, law_crowd_run hP.law_crowd_of hm hf, hlen]
    by_cases h2 : 2 ≤ f.count p
    · have : (1 : Int) < (f.count p : Nat) := by omega
      simp [h2, this]
    · have : ¬ (1 : Int) < (f.count p : Nat) := by omega
      simp [h2, this]
  have hz : (((placesOf rs).filter fun p => decide (2 ≤ f.count p)).map encP).length ≤ 16777216 := by
    have h1 := List.length_filter_le (fun p => decide (2 ≤ f.count p)) (placesOf rs)
    have h2 := placesOf_len hr
    rw [List.length_map]
    omega
  refine ⟨F2 ++ [.lst ((sq rs f).map encP)], ?_, fr_new (fr1.trans fr2) _⟩
  have n1 := newL_ok F2 hz
  simp [fd_law_squares_of, e1', walk_plain_ref _ h1, e2, n1]
  rw [tuple_ref (ds := (sq rs f).map encP) (by simp [sq, plW])]
  simp [sq, plW]
theorem law_settling_run (hP : Has_law_settling_of P) (hn : 3 ≤ n) (h : RF rs f) (hl : f.length ≤ 1000) (F : FH) :
    ∃ F', run P n (.fn "_law_settling_of") [.d (encC rs f)] F = .ok (.tup (settles f)) F' ∧ Fr none F F' := by
  obtain ⟨n, rfl, hm⟩ := suc_of hn
  rw [run_fn hP.self _ _ rfl]
  have hlen : ∀ F, biop .len [encR rs] F = .ok (.int f.length) F := fun F => by simp [encR, h.len]
  have e0 : ∀ F, idxop (encC rs f) (.int 0) F = .ok (encR rs) F := fun F => by simp [encC]
  have e1 : ∀ F, idxop (encC rs f) (.int 1) F = .ok (encF f) F := fun F => by simp [encC]
  have hw : ∀ F, walk .range [.int f.length] F = some (rng 0 f.length, []) := fun F => walk_range1 F (j := (f.length : Int)) (by omega)
  simp [fd_law_settling_of, bindT, newL_ok, e0, hlen, hw]
  generalize e : forL _ _ _ _ _ = r
  have hz := forL_ix e (J := fun k ls F' => ∃ (pre : List (Nat × Nat)) (a i : Option SV), ls = [some (.d (encC rs f)), some (.d (.ref F.length)), a, i] ∧ F'[F.length]? = some (.lst (pre.map (settleD f))) ∧ Fr none F F' ∧ pre = (List.range k).flatMap fun x => (behind f.length x).map fun y => (x, y))
    (Z := fun r => ∃ a i F', r = .ok (.nx [some (.d (encC rs f)), some (.d (.ref F.length)), a, i]) F' ∧ F'[F.length]? = some (.lst (settles f)) ∧ Fr none F F') ⟨[], none, none, rfl, by simp, Fr.app _ _ _, rfl⟩ ?_ ?_
  · obtain ⟨a, i, F', rfl, h1, h2⟩ := hz
    exact ⟨F', by simp [tuple_ref h1], h2⟩
  · rintro k y ls F' hy ⟨pre, a, i, rfl, h1, h2, hpre⟩
    obtain ⟨hk, rfl⟩ := rngGet.mp hy
    have hk' : k < f.length := by omega
    have hnext : ∀ g : Nat → List (Nat × Nat), (List.range (k + 1)).flatMap g = (List.range k).flatMap g ++ g k := fun g => by
      rw [List.range_succ, List.flatMap_append]
      simp
    have hw2 : ∀ F, walk .range [.int ((k : Int) + 1), .int f.length] F = some (rng ((k : Int) + 1) f.length, []) := fun F => walk_range2 F (i := (k : Int) + 1) (j := (f.length : Int)) (by omega) (by omega)
    have hpl : pre.length ≤ f.length * f.length := by
      have := pairsOf_len f.length
      unfold pairsOf at this
      have hs : ∃ m, f.length = k + m := ⟨f.length - k, by omega⟩
      obtain ⟨m, hm⟩ := hs
      have h3 : (List.range f.length).flatMap (fun x => (behind f.length x).map fun y => (x, y)) = pre ++ ((List.range m).map (k + ·)).flatMap (fun x => (behind f.length x).map fun y => (x, y)) := by
        conv => lhs; rw [show List.range f.length = List.range k ++ (List.range m).map (k + ·) by rw [hm, List.range_add]]
        rw [List.flatMap_append, hpre]
      rw [h3, List.length_append] at this
      omega
    -- the inner loop
    generalize e3 : fbody (run P n) P (.nm 2) _ _ _ _ = r3
    simp [fbody, bindT, e0, hlen, hw2] at e3
    rw [rng_behind] at e3
    generalize e4 : forL _ _ _ _ _ = r4 at e3
    have hz4 := forL_ix e4 (J := fun j ls F'' => ∃ (i : Option SV), ls = [some (.d (encC rs f)), some (.d (.ref F.length)), some (.d (.int k)), i] ∧ F''[F.length]? = some (.lst ((pre ++ ((behind f.length k).take j).map fun y => (k, y)).map (settleD f))) ∧ Fr none F F'')
      (Z := fun r => ∃ i F'', r = .ok (.nx [some (.d (encC rs f)), some (.d (.ref F.length)), some (.d (.int k)), i]) F'' ∧ F''[F.length]? = some (.lst ((pre ++ (behind f.length k).map fun y => (k, y)).map (settleD f))) ∧ Fr none F F'') ⟨i, rfl, by simpa using h1, h2⟩ ?_ ?_
    · obtain ⟨i', F'', rfl, h5, h6⟩ := hz4
      exact turn_to ⟨pre ++ (behind f.length k).map fun y => (k, y), some (.d (.int k)), i', rfl, h5, h6, by rw [hnext, hpre]⟩ (by rw [← e3]; simp)
    · rintro j y ls F'' hj ⟨i, rfl, h5, h6⟩
      unfold dInts at hj
      rw [List.getElem?_map] at hj
      cases hb : (behind f.length k)[j]? with
      | none => rw [hb] at hj; cases hj
      | some y' =>
        rw [hb] at hj
        cases Option.some.inj hj
        have hy' := mem_behind.mp (List.mem_of_getElem? hb)
        obtain ⟨F3, e5, fr5⟩ := law_standing_run hP.law_standing hm h hl hk' hy'.2 F''
        have h5' := fr5.get h5
        have hsz : ((pre ++ ((behind f.length k).take j).map fun y => (k, y)).map (settleD f)).length + 1 ≤ 16777216 := by
          have h2 : f.length * f.length ≤ 1000 * 1000 := Nat.mul_le_mul hl hl
          have h3 : (behind f.length k).length ≤ 1000 := by simp [behind]; omega
          simp
          omega
        have ha := append_run h5' hsz (settleD f (k, y'))
        have hrv := rcv_lst h5 (m := .append) (by simp)
        have ht : (behind f.length k).take (j + 1) = (behind f.length k).take j ++ [y'] := by simp [List.take_add_one, hb]
        refine turn_to ⟨some (.d (.int y')), rfl, (set_at h5' _).trans (by rw [ht]), (h6.trans fr5).set_new (Nat.le_refl _) _⟩ ?_
        have e5' : run P n (.fn "_law_standing") [.d (encF f), .d (.int k), .d (.int y')] F'' = _ := e5
        unfold settleD at ha
        simp [fbody, bindT, hrv, e1, e5', ha]
        rfl
    · rintro ls F'' ⟨i, rfl, h5, h6⟩
      refine ⟨i, F'', rfl, ?_, h6⟩
      simpa [dInts] using h5
  · rintro ls F' ⟨pre, a, i, rfl, h1, h2, hpre⟩
    simp at hpre
    exact ⟨a, i, F', rfl, by rw [hpre] at h1; exact h1, h2⟩
/-! ### what is told -/
def faultD : Option (String × D) → D
  | none => .non
  | some e => .tup [.str (so e.1), e.2]
@[simp] theorem faultD_none : faultD none = .non := rfl
@[simp] theorem faultD_some (e : String × D) : faultD (some e) = .tup [.str (so e.1), e.2] := rfl
mutual
theorem D.eq_refl : ∀ d : D, D.pl d = true → D.eq d d = true
  | .non, _ => by simp [D.eq]
  | .bl b, _ => by simp [D.eq]
  | .int i, _ => by simp [D.eq]
  | .str x, _ => by simp [D.eq]
  | .tup ds, h => by
    simp only [D.eq]
    exact D.eqs_refl ds (by simpa [D.pl] using h)
  | .ref _, h => by cases h
  | .fn _, h => by cases h
  | .frl _, h => by cases h
theorem D.eqs_refl : ∀ ds : List D, D.pls ds = true → D.eqs ds ds = true
  | [], _ => by simp [D.eqs]
  | d :: r, h => by
    simp only [D.pls, Bool.and_eq_true] at h
    simp only [D.eqs, Bool.and_eq_true]
    exact ⟨D.eq_refl d h.1, D.eqs_refl r h.2⟩
end
theorem les_get {ds : List D} {k : Nat} (h : D.les ds k = true) {i : Nat} {d : D} (e : ds[i]? = some d) : D.le d k = true := les_iff.mp h d (List.mem_of_getElem? e)
/-! plain, nested at most k deep, no row too long -/
mutual
def D.nk : D → Nat → Bool
  | .tup ds, k => (match k with
    | 0 => false
    | k + 1 => decide (ds.length ≤ 100000) && D.nks ds k)
  | .ref _, _ => false
  | .fn _, _ => false
  | .frl _, _ => false
  | _, _ => true
def D.nks : List D → Nat → Bool
  | [], _ => true
  | d :: r, k => D.nk d k && D.nks r k
end
theorem nks_iff {ds : List D} {k : Nat} : D.nks ds k = true ↔ ∀ d ∈ ds, D.nk d k = true := by
  induction ds with
  | nil => simp [D.nks]
  | cons x r ih => simp [D.nks, ih]
mutual
theorem D.nk_pl : ∀ (d : D) (k : Nat), D.nk d k = true → D.pl d = true ∧ D.le d k = true
  | .non, _, _ => by simp [D.pl, D.le]
  | .bl b, _, _ => by simp [D.pl, D.le]
  | .int i, _, _ => by simp [D.pl, D.le]
  | .str x, _, _ => by simp [D.pl, D.le]
  | .tup ds, 0, h => by simp [D.nk] at h
  | .tup ds, k + 1, h => by
    simp only [D.nk, Bool.and_eq_true] at h
    have := D.nks_pl ds k h.2
    simp [D.pl, D.le, this]
  | .ref _, _, h => by simp [D.nk] at h
  | .fn _, _, h => by simp [D.nk] at h
  | .frl _, _, h => by simp [D.nk] at h
theorem D.nks_pl : ∀ (ds : List D) (k : Nat), D.nks ds k = true → D.pls ds = true ∧ D.les ds k = true
  | [], _, _ => by simp [D.pls, D.les]
  | d :: r, k, h => by
    simp only [D.nks, Bool.and_eq_true] at h
    have h1 := D.nk_pl d k h.1
    have h2 := D.nks_pl r k h.2
    simp [D.pls, D.les, h1, h2]
end
/-- the same is the same -/
theorem law_same_run (hP : Has_law_same P) : ∀ (k n : Nat), k + 2 ≤ n → ∀ (d : D), D.nk d k = true → ∀ F, ∃ F', run P n (.fn "_law_same") [.d d, .d d] F = .ok (.bl true) F' ∧ Fr none F F' := by
  intro k
  induction k with
  | zero =>
    intro n hn d hd F
    obtain ⟨n, rfl, hm⟩ := suc_of hn
    rw [run_fn hP.self _ _ rfl]
    have hw : ∀ i F, run P n (.fn "_law_is_whole") [.d (.int i)] F = .ok (.bl true) F := fun i F => law_is_whole_run hP.law_is_whole (by omega) rfl F
    have hs : ∀ x F, eqd F (.str x) (.str x) = some true := fun x F => by rw [eqd_pl rfl rfl (.inl rfl)]; simp [D.eq]
    cases d with
    | tup ds => simp [D.nk] at hd
    | ref _ => simp [D.nk] at hd
    | fn _ => simp [D.nk] at hd
    | frl _ => simp [D.nk] at hd
    | bl b => exact ⟨F, by cases b <;> simp [fd_law_same], .refl _ _⟩
    | int i => exact ⟨F, by simp [fd_law_same, hw], .refl _ _⟩
    | str x => exact ⟨F, by simp [fd_law_same, hs], .refl _ _⟩
    | non => exact ⟨F, by simp [fd_law_same], .refl _ _⟩
  | succ k ih =>
    intro n hn d hd F
    obtain ⟨n, rfl, hm⟩ := suc_of hn
    rw [run_fn hP.self _ _ rfl]
    have hw : ∀ i F, run P n (.fn "_law_is_whole") [.d (.int i)] F = .ok (.bl true) F := fun i F => law_is_whole_run hP.law_is_whole (by omega) rfl F
    have hs : ∀ x F, eqd F (.str x) (.str x) = some true := fun x F => by rw [eqd_pl rfl rfl (.inl rfl)]; simp [D.eq]
    cases d with
    | tup ds =>
      simp only [D.nk, Bool.and_eq_true, decide_eq_true_eq] at hd
      have hw : ∀ F, walk .range [.int ds.length] F = some (rng 0 ds.length, []) := fun F => walk_range1 F (j := (ds.length : Int)) (by omega)
      obtain ⟨F1, e1, fr1⟩ := compL_tyF (g := []) (F := F) (body := cbody (run P n) P [2] (.var 2) (.nm 2) [(.not (.call "_law_same" [(.idx (.var 0) (.var 2)), (.idx (.var 1) (.var 2))]))] [some (.d (.tup ds)), some (.d (.tup ds)), none]) (fun (i : Nat) => D.int i) (List.range ds.length) (fun _ => false) (fun (i : Nat) => D.int i) (fun _ _ => rfl) fun i hi F' hF => by
        have hi' : i < ds.length := by simpa using hi
        have hx := List.getElem?_eq_getElem hi'
        obtain ⟨F'', e, fr⟩ := ih n (by omega) ds[i] (nks_iff.mp hd.2 _ (List.getElem_mem hi')) F'
        exact ⟨F'', by simp [cbody, wipeL, bindT, idx_tup hx, e], fr⟩
      rw [← rng_nat] at e1
      have n1 : ((List.range ds.length).filter fun _ => false).map (fun (i : Nat) => D.int i) = [] := by simp
      rw [n1] at e1
      have he : eqd (F1 ++ [.lst []] ++ [.lst []]) (.ref F1.length) (.ref (F1.length + 1)) = some true := by
        have := eqd_empty (F := F1 ++ [.lst []] ++ [.lst []]) (a := .ref F1.length) (b := .ref (F1.length + 1)) (xs := []) (lis_ref _ (by simp)) (lis_ref _ (by simp)) rfl
        simpa using this
      simp at he
      exact ⟨F1 ++ [.lst []] ++ [.lst []], by simp [fd_law_same, hw, e1, he], (fr1.trans (Fr.app _ _ _)).trans (Fr.app _ _ _)⟩
    | ref _ => simp [D.nk] at hd
    | fn _ => simp [D.nk] at hd
    | frl _ => simp [D.nk] at hd
    | bl b => exact ⟨F, by cases b <;> simp [fd_law_same], .refl _ _⟩
    | int i => exact ⟨F, by simp [fd_law_same, hw], .refl _ _⟩
    | str x => exact ⟨F, by simp [fd_law_same, hs], .refl _ _⟩
    | non => exact ⟨F, by simp [fd_law_same], .refl _ _⟩
end
end Fv
set_option Elab.async false
set_option linter.all false
set_option maxRecDepth 100000
/-! M10: deeds told or refused; a law's own faults. -/
namespace Fv
open PySem
/-! ### what a function made in place has captured -/
def datum : Option SV → Option D
  | some (.d x) => some x
  | _ => none
@[simp] theorem datum_d (x : D) : datum (some (.d x)) = some x := rfl
@[simp] theorem datum_none : datum none = none := rfl
@[simp] theorem datum_clo (b : FE) (cap : List (Option D)) : datum (some (.clo b cap)) = none := rfl
def capFrom (cs : List Nat) : Nat → Ls → List (Option D)
  | _, [] => []
  | i, o :: r => (if cs.contains i then datum o else none) :: capFrom cs (i + 1) r
theorem capL_eq (cs : List Nat) (ls : Ls) : capL cs ls = capFrom cs 0 ls := by
  have key : ∀ (ls : Ls) (i : Nat), capFrom cs i ls = (List.range ls.length).map fun j => if cs.contains (i + j) then (ls[j]?).bind datum else none := by
    intro ls
    induction ls with
    | nil => intro i; rfl
    | cons o r ih =>
      intro i
      rw [List.length_cons, List.range_succ_eq_map, List.map_cons, List.map_map, capFrom, ih]
      congr 1
      refine List.map_congr_left fun j _ => ?_
      simp only [Function.comp, Nat.succ_eq_add_one, List.getElem?_cons_succ]
      rw [show i + 1 + j = i + (j + 1) by omega]
  rw [key]
  unfold capL
  refine List.map_congr_left fun j _ => ?_
  rw [Nat.zero_add]
  split
  · cases ls[j]? with
    | none => rfl
    | some o =>
      cases o with
      | none => rfl
      | some v => cases v <;> rfl
  · rfl
theorem run_clo {P : Pg} {n : Nat} {b : FE} {cap : List (Option D)} {F : FH} : run P (n + 1) (.clo b cap) [] F = ev (run P n) P b (cap.map fun o => o.map SV.d) F := rfl
section
variable {P : Pg} {n : Nat}
/-- told, or the class's word -/
def toldFD (cs : List String) : FD := ⟨["deed_now"], 2, [.try_ [.ret (.tup [(.str "told"), (.callV 0 [])])] (cs.map fun c => .hnd c 1 [.ret (.tup [(.str c), (.what 1)])])]⟩
theorem hds_told {C : CT} {c : String} {w : D} {v : SV} {F : FH} : ∀ {cs : List String}, c ∈ cs → (∀ x ∈ cs, x ≠ "Refused") → hds C P (cs.map fun c => FS.hnd c 1 [.ret (.tup [(.str c), (.what 1)])]) c w [some v, none] F = .ok (.rt (.tup [.str (so c), w])) F
  | [], h, _ => by cases h
  | x :: cs, h, hr => by
    rw [List.map_cons, hds_cons]
    by_cases e : c = x
    · subst e
      simp
    · have hx := hr x (by simp)
      rw [if_neg (by simp [e, hx])]
      exact hds_told ((List.mem_cons.mp h).resolve_left e) fun y hy => hr y (List.mem_cons_of_mem _ hy)
theorem told_run {cs : List String} (hP : P.fn "_law_told_by" = some (toldFD cs)) {b : FE} {cap : List (Option D)} {F F' : FH} {x : D} (h : ev (run P n) P b (cap.map fun o => o.map SV.d) F = .ok x F') :
    run P (n + 2) (.fn "_law_told_by") [.clo b cap] F = .ok (.tup [.str (so "told"), x]) F' := by
  rw [run_fn hP _ _ rfl]
  simp [toldFD, calb, callVal, run_clo, h]
theorem told_exc {cs : List String} (hP : P.fn "_law_told_by" = some (toldFD cs)) (hr : ∀ x ∈ cs, x ≠ "Refused") {b : FE} {cap : List (Option D)} {F F' : FH} {c : String} {w : D} (hc : c ∈ cs) (h : ev (run P n) P b (cap.map fun o => o.map SV.d) F = .exc c w F') :
    run P (n + 2) (.fn "_law_told_by") [.clo b cap] F = .ok (.tup [.str (so c), w]) F' := by
  rw [run_fn hP _ _ rfl]
  simp [toldFD, calb, callVal, run_clo, h, hds_told hc hr]
/-- what is told is owed -/
theorem gives_run {cs : List String} (hG : P.fn "_law_gives" = some fd_law_gives) (hT : P.fn "_law_told_by" = some (toldFD cs)) (hS : Has_law_same P) {b : FE} {cap : List (Option D)} {F F' : FH} {x : D} {k : Nat} (hx : D.nk x k = true) (hk : k + 3 ≤ n + 2)
    (h : ev (run P n) P b (cap.map fun o => o.map SV.d) F = .ok x F') (fr : Fr none F F') : ∃ F'', run P (n + 3) (.fn "_law_gives") [.clo b cap, .d x] F = .ok (.bl true) F'' ∧ Fr none F F'' := by
  rw [run_fn hG _ _ rfl]
  have ht := told_run hT h
  have hn : D.nk (.tup [.str (so "told"), x]) (k + 1) = true := by simp [D.nk, D.nks, hx]
  obtain ⟨F'', e, fr2⟩ := law_same_run hS (k + 1) (n + 2) (by omega) _ hn F'
  exact ⟨F'', by simp [fd_law_gives, ht, e], fr.trans fr2⟩
theorem refused_run {cs : List String} (hR : P.fn "_law_refused_so" = some fd_law_refused_so) (hT : P.fn "_law_told_by" = some (toldFD cs)) (hr : ∀ x ∈ cs, x ≠ "Refused") {b : FE} {cap : List (Option D)} {F F' : FH} {c : String} {w : D} (hc : c ∈ cs)
    (hw : D.pl w = true) (hl : D.le w 50 = true) (hs : strOk w = true ∨ ∃ x, w = .str x) (h : ev (run P n) P b (cap.map fun o => o.map SV.d) F = .exc c w F') : run P (n + 3) (.fn "_law_refused_so") [.clo b cap, .d (.tup [.str (so c), w])] F = .ok (.bl true) F' := by
  rw [run_fn hR _ _ rfl]
  have ht := told_exc hT hr hc h
  have h1 : ∀ F, eqd F (.str (so c)) (.str (so c)) = some true := fun F => by rw [eqd_pl rfl rfl (.inl rfl)]; simp [D.eq]
  have h2 : ∀ F, eqd F w w = some true := fun F => by rw [eqd_pl hw hw (.inl hl), D.eq_refl w hw]
  obtain ⟨t, h3⟩ : ∃ t, ∀ F, biop .str [w] F = .ok (.str t) F := by
    rcases hs with hs | ⟨x, rfl⟩
    · cases w with
      | str x => exact ⟨x, fun F => rfl⟩
      | non => exact ⟨(toP .non).shown, fun F => by simp [biop, hs]⟩
      | bl b => exact ⟨(toP (.bl b)).shown, fun F => by simp [biop, hs]⟩
      | int i => exact ⟨(toP (.int i)).shown, fun F => by simp [biop, hs]⟩
      | tup ds => exact ⟨(toP (.tup ds)).shown, fun F => by simp [biop, hs]⟩
      | _ => cases hw
    · exact ⟨x, fun F => rfl⟩
  have h4 : ∀ F, eqd F (.str t) (.str t) = some true := fun F => by rw [eqd_pl rfl rfl (.inl rfl)]; simp [D.eq]
  simp [fd_law_refused_so, ht, bindT, h1, h2, h3, h4]
/-! ### faults -/
theorem filter_firstB (p : Nat → Bool) (n : Nat) : ((List.range n).filter p).head? = firstB p n := by
  unfold firstB
  rw [List.head?_filter]
theorem isRoomN_num (d : D) : isRoomN d = numB d 5 := by
  cases d with
  | int i =>
    rw [Bool.eq_iff_iff]
    simp [isRoomN, numB]
    omega
  | _ => rfl
theorem law_rooms_fault_run (hP : Has_law_rooms_fault P) (hn : 2 ≤ n) {d : D} (hd : D.pl d = true) (F : FH) : ∃ F', run P n (.fn "_law_rooms_fault") [.d d] F = .ok (faultD (roomsFault d)) F' ∧ Fr none F F' := by
  obtain ⟨n, rfl, hm⟩ := suc_of hn
  rw [run_fn hP.self _ _ rfl]
  cases d with
  | tup ds =>
    simp only [D.pl] at hd
    by_cases h24 : (24 : Int) < ds.length
    · exact ⟨F, by simp [fd_law_rooms_fault, roomsFault, h24], .refl _ _⟩
    · have hw : ∀ F, walk .range [.int ds.length] F = some (rng 0 ds.length, []) := fun F => walk_range1 F (j := (ds.length : Int)) (by omega)
      generalize hls : ((List.range ds.length).filter (ixB (fun _ d => !isRoomN d) ds)) = l
      have hz : (dInts l).length ≤ 16777216 := by
        have := List.length_filter_le (ixB (fun _ d => !isRoomN d) ds) (List.range ds.length)
        rw [hls] at this
        simp [dInts] at this ⊢
        omega
      have hc : ∀ F, compL [] (cbody (run P n) P [2] (.var 2) (.nm 2) [(.not (.call "_law_number" [(.idx (.var 0) (.var 2)), (.int 5)]))] [some (.d (.tup ds)), none, none]) (rng 0 ds.length) [] F = .ok (dInts l) F := fun F => by
        rw [rng_nat, ← hls]
        refine compL_ty _ _ (ixB (fun _ d => !isRoomN d) ds) (fun (x : Nat) => .int x) rfl fun x hx => ?_
        have hx' : x < ds.length := by simpa using hx
        have hg := List.getElem?_eq_getElem hx'
        have hpl := pls_get hd hg
        simp [cbody, wipeL, bindT, idx_tup hg, law_number_run hP.law_number hm hpl, ixB_at hg, isRoomN_num]
        split <;> rfl
      have hq : eqd (F ++ [.lst (dInts l)] ++ [.lst []]) (.ref F.length) (.ref (F.length + 1)) = some (dInts l).isEmpty := eqd_empty (lis_ref _ (by simp)) (lis_ref _ (by simp)) (by rw [pls_iff]; simp [dInts, D.pl])
      simp at hq
      refine ⟨F ++ [.lst (dInts l)] ++ [.lst []], ?_, (Fr.app _ _ _).trans (Fr.app _ _ _)⟩
      have hb := filter_firstB (ixB (fun _ d => !isRoomN d) ds) ds.length
      rw [hls] at hb
      cases l with
      | nil =>
        simp at hb
        simp [dInts] at hq
        simp [fd_law_rooms_fault, h24, hw, hc, newL_ok _ hz, bindT, dInts, hq, roomsFault, ← hb]
      | cons a t =>
        simp at hb
        simp [dInts] at hq
        have hi : idxop (.ref F.length) (.int 0) (F ++ [.lst (dInts (a :: t))] ++ [.lst []]) = .ok (.int a) (F ++ [.lst (dInts (a :: t))] ++ [.lst []]) := idx_ref (k := 0) (ds := dInts (a :: t)) (by simp) rfl
        have n1 := newL_ok F hz
        simp [dInts] at hi n1
        simp [fd_law_rooms_fault, h24, hw, hc, n1, bindT, dInts, hq, roomsFault, ← hb, hi]
  | _ => exact ⟨F, by simp [fd_law_rooms_fault, roomsFault, D.pl] at hd ⊢, .refl _ _⟩
theorem law_forest_fault_run (hP : Has_law_forest_fault P) (hn : 2 ≤ n) {rs : List Nat} (hl : rs.length ≤ 1000) {d : D} (hd : D.pl d = true) (F : FH) : ∃ F', run P n (.fn "_law_forest_fault") [.d (encR rs), .d d] F = .ok (faultD (forestFault rs d)) F' ∧ Fr none F F' := by
  obtain ⟨n, rfl, hm⟩ := suc_of hn
  rw [run_fn hP.self _ _ rfl]
  have hlr : ∀ F, biop .len [encR rs] F = .ok (.int rs.length) F := fun F => by simp [encR]
  cases d with
  | tup ds =>
    simp only [D.pl] at hd
    by_cases h1 : (ds.length : Int) = rs.length
    · have hw : ∀ F, walk .range [.int ds.length] F = some (rng 0 ds.length, []) := fun F => walk_range1 F (j := (ds.length : Int)) (by omega)
      have hw' : ∀ F, walk .range [.int rs.length] F = some (rng 0 rs.length, []) := fun F => by rw [← h1]; exact hw F
      simp [fd_law_forest_fault, hlr, h1, hw, hw']
      generalize e : forL _ _ _ _ _ = r
      have hz := forL_ix e (J := fun k ls F' => F' = F ∧ (∀ j, j < k → ixB (fun k d => !placeOk rs k d) ds j = false) ∧ ∃ a b, ls = [some (.d (encR rs)), some (.d (.tup ds)), a, b]) (Z := fun r => match badAt rs ds with
        | none => ∃ a b, r = .ok (.nx [some (.d (encR rs)), some (.d (.tup ds)), a, b]) F
        | some k => r = .ok (.rt (.tup [.str (so "BadForest"), .int k])) F) ⟨rfl, by simp, _, _, rfl⟩ ?_ ?_
      · cases q : badAt rs ds with
        | some k =>
          simp only [q] at hz
          subst hz
          exact ⟨F, by simp [forestFault, h1, q], .refl _ _⟩
        | none =>
          simp only [q] at hz
          obtain ⟨a, b, rfl⟩ := hz
          obtain ⟨e1, e2⟩ := bad_none q
          have hlen : (decF (.tup ds)).length = ds.length := by simp [decF, decs]
          have hh := hold_of_bad q (by omega)
          have hff : forestFault rs (.tup ds) = (firstB (lies (decF (.tup ds))) ds.length).map fun (k : Nat) => ("Ring", .int k) := by simp [forestFault, h1, q]
          rw [hff]
          generalize decF (.tup ds) = f at e1 hlen hh
          rw [e1]
          have hlf : ∀ F, biop .len [encF f] F = .ok (.int rs.length) F := fun F => by simp [encF, hlen, h1]
          simp [hlf, hw']
          generalize e5 : forL _ _ _ _ _ = r5
          have hz5 := forL_ix e5 (J := fun k ls F' => Fr none F F' ∧ (∀ j, j < k → lies f j = false) ∧ ∃ a b, ls = [some (.d (encR rs)), some (.d (encF f)), a, b]) (Z := fun r => match firstB (lies f) ds.length with
            | none => ∃ ls F', r = .ok (.nx ls) F' ∧ Fr none F F'
            | some k => ∃ F', r = .ok (.rt (.tup [.str (so "Ring"), .int k])) F' ∧ Fr none F F') ⟨.refl _ _, by simp, _, _, rfl⟩ ?_ ?_
          · cases q5 : firstB (lies f) ds.length with
            | some k =>
              simp only [q5] at hz5
              obtain ⟨F', rfl, fr⟩ := hz5
              exact ⟨F', by simp, fr⟩
            | none =>
              simp only [q5] at hz5
              obtain ⟨ls, F', rfl, fr⟩ := hz5
              exact ⟨F', by simp, fr⟩
          · rintro k y ls F' hy ⟨fr, hj, a, b, rfl⟩
            obtain ⟨hk, rfl⟩ := rngGet.mp hy
            have hk' : k < f.length := by omega
            have hc1 := law_climb_run hP.law_climb hm hh (by omega) hk' F'
            obtain ⟨F1, hF1⟩ : ∃ F1, F1 = F' ++ [FO.lst ((climb f f.length (getP f k)).map fun (p : Nat × Nat) => D.tup [.int p.1, .int p.2])] := ⟨_, rfl⟩
            rw [← hF1] at hc1
            have hat : F1[F'.length]? = some (.lst ((climb f f.length (getP f k)).map fun (p : Nat × Nat) => D.tup [.int p.1, .int p.2])) := by simp [hF1]
            have hc2 := compL_ty (g := [(F'.length, .lst ((climb f f.length (getP f k)).map fun (p : Nat × Nat) => D.tup [.int p.1, .int p.2]))]) (F := F1) (body := cbody (run P n) P [3] (.idx (.var 3) (.int 0)) (.nm 3) [] [some (.d (encR rs)), some (.d (encF f)), some (.d (.int k)), b]) (fun (p : Nat × Nat) => D.tup [.int p.1, .int p.2]) (climb f f.length (getP f k)) (fun _ => true) (fun p => .int p.1) (gok_lst hat) fun p _ => by
              simp [cbody, wipeL, bindT]
            rw [List.filter_eq_self.mpr (by simp)] at hc2
            have hz2 : ((climb f f.length (getP f k)).map fun p => D.int p.1).length ≤ 16777216 := by
              have := climb_len f f.length (getP f k)
              simp
              omega
            have hmem : memD (F1 ++ [.lst ((climb f f.length (getP f k)).map fun p => D.int p.1)]) (.int k) (.ref F1.length) = some (lies f k) := by
              rw [mem_pl (ds := (climb f f.length (getP f k)).map fun p => D.int p.1) (items_ref' (by simp)) rfl (by rw [pls_iff]; intro d hd; obtain ⟨p, _, rfl⟩ := List.mem_map.mp hd; rfl) (.inl rfl)]
              congr 1
              unfold lies
              rw [List.any_map, Bool.eq_iff_iff]
              simp only [List.any_eq_true, Function.comp, eq_int, beq_iff_eq, List.contains_iff_mem, List.mem_map]
              constructor
              · rintro ⟨p, hp, e⟩
                exact ⟨p, hp, by omega⟩
              · rintro ⟨p, hp, e⟩
                exact ⟨p, hp, by omega⟩
            cases hr : lies f k with
            | false =>
              rw [hr] at hmem
              refine turn_to (F := F1 ++ [.lst ((climb f f.length (getP f k)).map fun p => D.int p.1)]) ⟨fr.trans (by rw [hF1]; exact (Fr.app _ _ _).trans (Fr.app _ _ _)), ball_succ.mpr ⟨hj, hr⟩, some (.d (.int k)), b, rfl⟩ ?_
              · simp [fbody, bindT, hc1, walk_plain_ref _ hat, hc2, newL_ok _ hz2, hmem]
            | true =>
              rw [hr] at hmem
              refine turn_ret (d := .tup [.str (so "Ring"), .int k]) (F := F1 ++ [.lst ((climb f f.length (getP f k)).map fun p => D.int p.1)]) ?_ ?_
              · rw [firstB_some (by omega) hr hj]
                exact ⟨_, rfl, fr.trans (by rw [hF1]; exact (Fr.app _ _ _).trans (Fr.app _ _ _))⟩
              · simp [fbody, bindT, hc1, walk_plain_ref _ hat, hc2, newL_ok _ hz2, hmem]
          · rintro ls F' ⟨fr, hj, a, b, rfl⟩
            rw [firstB_none (by intro j hj'; exact hj j (by simp; omega))]
            exact ⟨_, _, rfl, fr⟩
      · rintro k y ls F' hy ⟨rfl, hj, a, b, rfl⟩
        obtain ⟨hk, rfl⟩ := rngGet.mp hy
        have hk' : k < ds.length := by omega
        have hdk := List.getElem?_eq_getElem hk'
        have hpl := pls_get hd hdk
        generalize ds[k] = d at hdk hpl
        have hix := idx_tup (F := F') hdk
        by_cases hr : placeOk rs k d = true
        · refine turn_to ⟨rfl, ball_succ.mpr ⟨hj, by simp [ixB, hdk, hr]⟩, some (.d (.int k)), some (.d d), rfl⟩ ?_
          unfold placeOk at hr
          split at hr
          · simp [fbody, bindT, hix]
          · rename_i h' r'
            have hi : h'.toNat < rs.length → (rs.map fun (r : Nat) => D.int r)[h'.toNat]? = some (.int (rs.getD h'.toNat 0 : Nat)) := fun hl' => by simp [hl']
            have hi2 : 0 ≤ h' → h'.toNat < rs.length → idxop (encR rs) (.int h') F' = .ok (.int (rs.getD h'.toNat 0 : Nat)) F' := fun h0 hl' => idx_tupI h0 (hi hl')
            generalize rs.getD h'.toNat 0 = m at hr hi hi2
            simp at hr
            have hi2 := hi2 (by omega) (by omega)
            have n1 := law_number_run hP.law_number hm (d := .int h') rfl rs.length F'
            have n2 := law_number_run hP.law_number hm (d := .int r') rfl (m : Nat) F'
            have b1 : numB (.int h') rs.length = true := by simp [numB]; omega
            have b2 : numB (.int r') (m : Nat) = true := by simp [numB]; omega
            rw [b1] at n1
            rw [b2] at n2
            have hne : ¬ h' = k := by omega
            simp [fbody, bindT, hix, hlr, n1, hne, hi2, n2]
          · cases hr
        · refine turn_ret (d := .tup [.str (so "BadForest"), .int k]) (F := F') ?_ ?_
          · have : badAt rs ds = some k := firstB_some hk' (by simp [ixB, hdk, hr]) hj
            rw [this]
          · cases d with
            | non => exact absurd rfl hr
            | tup es =>
              by_cases h2 : (es.length : Int) = 2
              · obtain ⟨a', b', rfl⟩ := two_of h2
                simp only [D.pl, D.pls, Bool.and_eq_true] at hpl
                have n1 := law_number_run hP.law_number hm hpl.1 rs.length F'
                by_cases ha : numB a' rs.length = true
                · obtain ⟨h', rfl, h0, hlt⟩ : ∃ h', a' = .int h' ∧ 0 ≤ h' ∧ h' < rs.length := by
                    cases a' <;> simp [numB] at ha
                    exact ⟨_, rfl, ha⟩
                  rw [ha] at n1
                  have hl' : h'.toNat < rs.length := by omega
                  have hi2 : idxop (encR rs) (.int h') F' = .ok (.int (rs.getD h'.toNat 0 : Nat)) F' := idx_tupI h0 (by simp [hl'])
                  by_cases hx : h' = k
                  · subst hx
                    simp [fbody, bindT, hix, hlr, n1]
                  · have n2 := law_number_run hP.law_number hm hpl.2.1 (rs.getD h'.toNat 0 : Nat) F'
                    have hb : numB b' (rs.getD h'.toNat 0 : Nat) = false := by
                      cases b' with
                      | int r' =>
                        simp only [placeOk] at hr
                        simp only [numB]
                        generalize rs.getD h'.toNat 0 = m at hr
                        rw [Bool.eq_false_iff]
                        intro z
                        apply hr
                        simp at z ⊢
                        exact ⟨⟨h0, hlt⟩, hx, z⟩
                      | _ => rfl
                    rw [hb] at n2
                    generalize rs.getD h'.toNat 0 = m at n2 hi2
                    simp [fbody, bindT, hix, hlr, n1, hx, hi2, n2]
                · have ha' : numB a' rs.length = false := by simpa using ha
                  rw [ha'] at n1
                  simp [fbody, bindT, hix, hlr, n1]
              · simp [fbody, bindT, hix, h2]
            | ref _ => cases hpl
            | fn _ => cases hpl
            | frl _ => cases hpl
            | _ => simp [fbody, bindT, hix]
      · rintro ls F' ⟨rfl, hj, a, b, rfl⟩
        have : badAt rs ds = none := firstB_none (by intro j hj'; exact hj j (by simp; omega))
        rw [this]
        exact ⟨_, _, rfl⟩
    · exact ⟨F, by simp [fd_law_forest_fault, hlr, h1, forestFault], .refl _ _⟩
  | _ => exact ⟨F, by simp [fd_law_forest_fault, forestFault, D.pl] at hd ⊢, .refl _ _⟩
end
end Fv
set_option Elab.async false
set_option linter.all false
set_option maxRecDepth 100000
/-! M11: commons told right. -/
namespace Fv
open PySem
/-! ### nested no deeper than so -/
theorem nk_int (i : Int) (k : Nat) : D.nk (.int i) k = true := by simp [D.nk]
theorem nk_encP (p : Pl) (k : Nat) : D.nk (encP p) (k + 1) = true := by cases p <;> simp [D.nk, D.nks]
theorem nks_mapP (f : List Pl) (k : Nat) : D.nks (f.map encP) (k + 1) = true := by
  rw [nks_iff]
  intro d hd
  obtain ⟨p, _, rfl⟩ := List.mem_map.mp hd
  exact nk_encP p k
theorem nks_ints (l : List Nat) (k : Nat) : D.nks (dInts l) k = true := by
  rw [nks_iff]
  intro d hd
  obtain ⟨p, _, rfl⟩ := List.mem_map.mp hd
  exact nk_int _ _
theorem nk_tup {ds : List D} {k : Nat} (h : D.nks ds k = true) (hl : ds.length ≤ 100000) : D.nk (.tup ds) (k + 1) = true := by simp [D.nk, h, hl]
theorem nk_two {a b : D} {k : Nat} (h : D.nk a k = true) (h' : D.nk b k = true) : D.nk (.tup [a, b]) (k + 1) = true := by simp [D.nk, D.nks, h, h']
theorem nk_encR {rs : List Nat} (h : rs.length ≤ 100000) (k : Nat) : D.nk (encR rs) (k + 1) = true := nk_tup (nks_ints rs k) (by simpa using h)
theorem nk_encF {f : List Pl} (h : f.length ≤ 100000) (k : Nat) : D.nk (encF f) (k + 2) = true := nk_tup (nks_mapP f k) (by simpa using h)
theorem CM.nk {rs : List Nat} {f : List Pl} (h : CM rs f) (k : Nat) : D.nk (encC rs f) (k + 3) = true := nk_two (nk_encR (by have := h.rlen; omega) (k + 1)) (nk_encF (by have := h.flen; omega) k)
theorem nk_encS (s : St) (k : Nat) : D.nk (encS s) (k + 1) = true := by cases s <;> simp [encS, D.nk, D.nks]
theorem nk_settles {f : List Pl} (h : f.length ≤ 8) (k : Nat) : D.nk (.tup (settles f)) (k + 4) = true := by
  refine nk_tup ?_ ?_
  · rw [nks_iff]
    intro d hd
    obtain ⟨p, _, rfl⟩ := List.mem_map.mp hd
    simp [settleD, D.nk, D.nks, nk_encS]
  · have := pairsOf_len f.length
    have h2 : f.length * f.length ≤ 8 * 8 := Nat.mul_le_mul h h
    simp [settles]
    omega
theorem sq_len {rs : List Nat} {f : List Pl} (h : CM rs f) : (sq rs f).length ≤ 100000 := by
  have h1 := List.length_filter_le (fun p => decide (2 ≤ f.count p)) (placesOf rs)
  have h2 := placesOf_len (rs := rs) fun r hr => by have := h.rok r hr; omega
  have := h.rlen
  unfold sq plW
  omega
theorem crowd_le (f : List Pl) (p : Pl) : (crowd f p).length ≤ f.length := by
  have := List.length_filter_le (fun x => decide (getP f x = p)) (List.range f.length)
  simpa [crowd] using this
section
variable {P : Pg} {n : Nat}
theorem law_commons_fault_run (hP : Has_law_commons_fault P) (hn : 3 ≤ n) {d : D} (hd : D.pl d = true) (F : FH) : ∃ F', run P n (.fn "_law_commons_fault") [.d d] F = .ok (faultD (commonsFault d)) F' ∧ Fr none F F' := by
  obtain ⟨n, rfl, hm⟩ := suc_of hn
  rw [run_fn hP.self _ _ rfl]
  by_cases h2 : ∃ a b, d = .tup [a, b]
  · obtain ⟨a, b, rfl⟩ := h2
    have hd' := hd
    simp only [D.pl, D.pls, Bool.and_eq_true] at hd
    obtain ⟨F1, e1, fr1⟩ := law_rooms_fault_run hP.law_rooms_fault (n := n) (by omega) hd.1 F
    cases q1 : roomsFault a with
    | some e =>
      rw [q1] at e1
      exact ⟨F1, by simp [fd_law_commons_fault, bindT, setAll, e1, commonsFault, q1], fr1⟩
    | none =>
      rw [q1] at e1
      obtain ⟨er, h1, h24⟩ := rooms_right q1
      generalize decR a = rs at er h1 h24
      subst er
      have hlr : ∀ F, biop .len [encR rs] F = .ok (.int rs.length) F := fun F => by simp [encR]
      by_cases h8 : (8 : Int) < rs.length
      · exact ⟨F1, by simp [fd_law_commons_fault, bindT, setAll, e1, commonsFault, q1, hlr, h8], fr1⟩
      · obtain ⟨F2, e2, fr2⟩ := law_forest_fault_run hP.law_forest_fault (n := n) (by omega) (rs := rs) (by omega) hd.2.1 F1
        cases q2 : forestFault rs b with
        | some e =>
          rw [q2] at e2
          exact ⟨F2, by simp [fd_law_commons_fault, bindT, setAll, e1, commonsFault, q1, hlr, h8, e2, q2], fr1.trans fr2⟩
        | none =>
          rw [q2] at e2
          obtain ⟨ef, h2⟩ := forest_right q2
          generalize decF b = f at ef h2
          subst ef
          have hf : f.length ≤ 1000 := by have := h2.len; omega
          have hr4 : ∀ r ∈ rs, r ≤ 1000 := fun r hr => by have := h1 r hr; omega
          obtain ⟨c, F3, e3, h3, fr3, hc3⟩ := law_places_run hP.law_places_of (n := n) (by omega) hr4 (by omega) (encF f) F2
          have lsq : ∀ x1 x2, [some (SV.d (D.tup [encR rs, encF f])), some (.d .non), none, some (.d (encR rs)), some (.d (encF f)), none] = [some (SV.d (D.tup [encR rs, encF f])), x1, x2, some (.d (encR rs)), some (.d (encF f)), none] → True := fun _ _ _ => trivial
          obtain ⟨F4, e4, fr4⟩ := compL_tyF (g := [(c, .lst ((placesOf rs).map encP))]) (F := F3) (body := cbody (run P n) P [5] (.var 5) (.nm 5) [(.cmp .gt (.bi .len [(.call "_law_crowd_of" [(.var 4), (.var 5)])]) (.int 4))] [some (.d (.tup [encR rs, encF f])), some (.d .non), none, some (.d (encR rs)), some (.d (encF f)), none]) encP (placesOf rs) (fun p => decide (5 ≤ f.count p)) encP (fun F' h => h.lst h3) fun p _ F' hF => by
            refine ⟨F' ++ [.lst (dInts (crowd f p))], ?_, Fr.app _ _ _⟩
            have hlen := len_ref (F := F' ++ [.lst (dInts (crowd f p))]) (k := F'.length) (ds := dInts (crowd f p)) (by simp)
            have hcl : ((dInts (crowd f p)).length : Int) = (f.count p : Int) := by simp [dInts, crowd_len]
            rw [hcl] at hlen
            simp [cbody, wipeL, bindT, law_crowd_run hP.law_crowd_of (by omega : 1 ≤ n) hf, hlen]
            by_cases h2 : 5 ≤ f.count p
            · have : (4 : Int) < (f.count p : Nat) := by omega
              simp [h2, this]
            · have : ¬ (4 : Int) < (f.count p : Nat) := by omega
              simp [h2, this]
          have e4' : ((placesOf rs).filter fun p => decide (5 ≤ f.count p)) = plW rs f 5 := rfl
          rw [e4'] at e4
          have hz : ((plW rs f 5).map encP).length ≤ 16777216 := by
            have a1 := List.length_filter_le (fun p => decide (5 ≤ f.count p)) (placesOf rs)
            have a2 := placesOf_len hr4
            rw [e4'] at a1
            rw [List.length_map]
            omega
          have n1 := newL_ok F4 hz
          have hq : eqd (F4 ++ [.lst ((plW rs f 5).map encP)] ++ [.lst []]) (.ref F4.length) (.ref (F4.length + 1)) = some ((plW rs f 5).map encP).isEmpty := eqd_empty (lis_ref _ (by simp)) (lis_ref _ (by simp)) (by simp)
          refine ⟨F4 ++ [.lst ((plW rs f 5).map encP)] ++ [.lst []], ?_, fr_new (fr_new (((fr1.trans fr2).trans fr3).trans fr4) _) _⟩
          cases q3 : plW rs f 5 with
          | nil =>
            rw [q3] at n1 hq e4
            simp at n1 hq e4
            simp [fd_law_commons_fault, bindT, setAll, e1, commonsFault, q1, hlr, h8, e2, q2, e3, walk_plain_ref _ h3, e4, n1, hq, crowdFault, q3]
          | cons p r =>
            rw [q3] at n1 hq e4
            have hi : idxop (.ref F4.length) (.int 0) (F4 ++ [.lst ((p :: r).map encP)] ++ [.lst []]) = .ok (encP p) (F4 ++ [.lst ((p :: r).map encP)] ++ [.lst []]) := idx_ref (k := 0) (ds := (p :: r).map encP) (by simp) rfl
            simp at n1 hq e4 hi
            simp [fd_law_commons_fault, bindT, setAll, e1, commonsFault, q1, hlr, h8, e2, q2, e3, walk_plain_ref _ h3, e4, n1, hq, hi, crowdFault, q3]
  · have hc : commonsFault d = some ("BadCommons", .int (-1)) := by
      unfold commonsFault
      split
      · exact absurd ⟨_, _, rfl⟩ h2
      · rfl
    cases d with
    | tup ds =>
      have h2' : ¬ (ds.length : Int) = 2 := fun z => by
        obtain ⟨a, b, rfl⟩ := two_of z
        exact h2 ⟨a, b, rfl⟩
      exact ⟨F, by simp [fd_law_commons_fault, h2', hc], .refl _ _⟩
    | ref _ => cases hd
    | fn _ => cases hd
    | frl _ => cases hd
    | _ => exact ⟨F, by simp [fd_law_commons_fault, hc], .refl _ _⟩
end
end Fv
set_option Elab.async false
set_option linter.all false
set_option maxRecDepth 100000
/-! M12: a commons is told right. -/
namespace Fv
open PySem
section
variable {P : Pg} {n : Nat} {cs : List String}
/-- by place and by name -/
theorem twice_told {f : String} {es es2 ws : List FE} {pm : List Nat} {ls : Ls} {us vs ys : List SV} {x : D} {F : FH} (h : ∀ F, ∃ F', run P n (.fn f) us F = .ok x F' ∧ Fr none F F') (ha : ∀ F, eva (run P n) P es ls F = .ok us F) (hb : ∀ F, eva (run P n) P es2 ls F = .ok vs F) (hc : ∀ F, eva (run P n) P ws ls F = .ok ys F)
    (hp : permA pm (vs ++ ys) = us) : ∃ F', ev (run P n) P (.tup [.call f es, .callK f es2 pm ws]) ls F = .ok (.tup [x, x]) F' ∧ Fr none F F' := by
  obtain ⟨F1, e1, k1⟩ := h F
  obtain ⟨F2, e2, k2⟩ := h F1
  exact ⟨F2, by simp only [ev_tup, evs_cons, evs_nil, ev_call, ev_callK, ha, hb, hc, ↓bind_bnd, bindOk, hp, e1, e2, newT2], k1.trans k2⟩
/-- told twice, owed twice -/
theorem gives_twice (hG : P.fn "_law_gives" = some fd_law_gives) (hT : P.fn "_law_told_by" = some (toldFD cs)) (hS : Has_law_same P) {f : String} {es es2 ws : List FE} {pm : List Nat} {cap : List (Option D)} {us vs ys : List SV} {x : D} {k : Nat} (hx : D.nk x k = true) (hk : k + 4 ≤ n + 2)
    (h : ∀ F, ∃ F', run P n (.fn f) us F = .ok x F' ∧ Fr none F F') (ha : ∀ F, eva (run P n) P es (cap.map fun o => o.map SV.d) F = .ok us F) (hb : ∀ F, eva (run P n) P es2 (cap.map fun o => o.map SV.d) F = .ok vs F) (hc : ∀ F, eva (run P n) P ws (cap.map fun o => o.map SV.d) F = .ok ys F)
    (hp : permA pm (vs ++ ys) = us) (F : FH) : ∃ F'', run P (n + 3) (.fn "_law_gives") [.clo (.tup [.call f es, .callK f es2 pm ws]) cap, .d (.tup [x, x])] F = .ok (.bl true) F'' ∧ Fr none F F'' := by
  obtain ⟨F', e, fr⟩ := twice_told (F := F) h ha hb hc hp
  exact gives_run hG hT hS (nk_two hx hx) (by omega) e fr
theorem law_told_right_run (hP : Has_law_told_right P) (hT : P.fn "_law_told_by" = some (toldFD cs)) (hn : 12 ≤ n) {rs : List Nat} {f : List Pl} (h : CM rs f) (F : FH) :
    ∃ F', run P n (.fn "_law_told_right") [.d (encC rs f)] F = .ok (.bl true) F' ∧ Fr none F F' := by
  obtain ⟨m, rfl⟩ : ∃ m, n = m + 4 := ⟨n - 4, by omega⟩
  rw [run_fn hP.self _ _ rfl]
  have hr4 : ∀ r ∈ rs, r ≤ 1000 := fun r hr => by have := h.rok r hr; omega
  have hrl : rs.length ≤ 1000 := by have := h.rlen; omega
  have hfl : f.length ≤ 1000 := by have := h.flen; omega
  have hG := hP.law_gives.self
  have hS := hP.law_gives.law_same
  obtain ⟨F1, e1, fr1⟩ := law_squares_run hP.law_squares_of (n := m + 3) (by omega) hr4 hrl hfl F
  have hsn : D.nk (.tup ((sq rs f).map encP)) 2 = true := nk_tup (nks_mapP _ _) (by rw [List.length_map]; exact sq_len h)
  obtain ⟨F2, e2, fr2⟩ := gives_twice (n := m) hG hT hS (f := "made_commons") (es := [.var 0]) (es2 := []) (ws := [.var 0]) (pm := [0]) (cap := [some (encC rs f), none, none, none]) (us := [.d (encC rs f)]) (vs := []) (ys := [.d (encC rs f)]) (h.nk 0) (by omega) (fun F => made_commons_ok hP.made_commons (by omega) h F) (fun F => by simp) (fun F => by simp) (fun F => by simp) rfl F1
  have hic : ∀ F, ∃ F', run P m (.fn "is_commons") [.d (encC rs f)] F = .ok (.bl true) F' ∧ Fr none F F' := fun F => by
    obtain ⟨F', e, k⟩ := is_commons_run hP.is_commons (n := m) (by omega) (D.nk_pl _ _ (h.nk 0)).1 F
    rw [commons_ok h] at e
    exact ⟨F', e, k⟩
  obtain ⟨F3, e3, fr3⟩ := gives_twice (n := m) hG hT hS (f := "is_commons") (es := [.var 0]) (es2 := []) (ws := [.var 0]) (pm := [0]) (cap := [some (encC rs f), none, none, none]) (us := [.d (encC rs f)]) (vs := []) (ys := [.d (encC rs f)]) (x := .bl true) (k := 1) rfl (by omega) hic (fun F => by simp) (fun F => by simp) (fun F => by simp) rfl F2
  obtain ⟨F4, e4, fr4⟩ := gives_twice (n := m) hG hT hS (f := "squares") (es := [.var 0]) (es2 := []) (ws := [.var 0]) (pm := [0]) (cap := [some (encC rs f), none, none, none]) (us := [.d (encC rs f)]) (vs := []) (ys := [.d (encC rs f)]) hsn (by omega) (fun F => squares_run hP.squares (by omega) h F) (fun F => by simp) (fun F => by simp) (fun F => by simp) rfl F3
  simp [fd_law_told_right, e1, bindT, capL_eq, capFrom, e2, e3, e4]
  generalize e5 : forL _ _ _ _ _ = r5
  have hz5 := forL_ix e5 (J := fun k ls F' => Fr none F4 F' ∧ ∃ a b, ls = [some (.d (encC rs f)), some (.d (.tup ((sq rs f).map encP))), a, b]) (Z := fun r => ∃ a b F', r = .ok (.nx [some (.d (encC rs f)), some (.d (.tup ((sq rs f).map encP))), a, b]) F' ∧ Fr none F4 F') ⟨.refl _ _, none, none, rfl⟩ ?_ ?_
  · obtain ⟨a, b, F5, rfl, fr5⟩ := hz5
    obtain ⟨F6, e6, fr6⟩ := law_settling_run hP.law_settling_of (n := m + 3) (by omega) h.rf hfl F5
    obtain ⟨F7, e7, fr7⟩ := gives_twice (n := m) hG hT hS (f := "settling") (es := [.var 0]) (es2 := []) (ws := [.var 0]) (pm := [0]) (cap := [some (encC rs f), none, none, none]) (us := [.d (encC rs f)]) (vs := []) (ys := [.d (encC rs f)]) (nk_settles h.flen 0) (by omega) (fun F => settling_run hP.settling (by omega) h F) (fun F => by simp) (fun F => by simp) (fun F => by simp) rfl F6
    exact ⟨F7, by simp [e6, bindT, capL_eq, capFrom, e7], ((((((fr1.trans fr2).trans fr3).trans fr4).trans fr5).trans fr6).trans fr7)⟩
  · rintro k y ls F' hy ⟨fr, a, b, rfl⟩
    rw [List.getElem?_map] at hy
    cases hq : (sq rs f)[k]? with
    | none => rw [hq] at hy; cases hy
    | some p =>
      rw [hq] at hy
      cases Option.some.inj hy
      have hp := List.mem_of_getElem? hq
      obtain ⟨G1, g1, k1⟩ := law_stalls_run hP.law_stalls_of (n := m + 3) (by omega) (rs := rs) hfl p F'
      have hcn : D.nk (.tup (dInts (crowd f p))) 1 = true := nk_tup (nks_ints _ _) (by have := crowd_le f p; have := h.flen; simp [dInts]; omega)
      obtain ⟨G2, g2, k2⟩ := gives_twice (n := m) hG hT hS (f := "stalls") (es := [.var 0, .var 2]) (es2 := []) (ws := [.var 2, .var 0]) (pm := [1, 0]) (cap := [some (encC rs f), none, some (encP p), none]) (us := [.d (encC rs f), .d (encP p)]) (vs := []) (ys := [.d (encP p), .d (encC rs f)]) hcn (by omega) (fun F => stalls_run hP.stalls (by omega) h hp F) (fun F => by simp) (fun F => by simp) (fun F => by simp) rfl G1
      refine turn_to ⟨(fr.trans k1).trans k2, some (.d (encP p)), some (.d (.tup (dInts (crowd f p)))), rfl⟩ ?_
      simp [fbody, bindT, g1, capL_eq, capFrom, g2]
  · rintro ls F' ⟨fr, a, b, rfl⟩
    exact ⟨a, b, F', rfl, fr⟩
end
end Fv
set_option Elab.async false
set_option linter.all false
set_option maxRecDepth 100000
/-! M13: something bent. -/
namespace Fv
open PySem
theorem strOk_nat : ∀ k, k < 101 → strOk (.int (k : Nat)) = true := by decide +kernel
theorem strOk_m1 : strOk (.int (-1)) = true := by decide +kernel
theorem strOk_pair : ∀ a, a < 10 → ∀ b, b < 6 → strOk (encP (some (a, b))) = true := by decide +kernel
theorem strOk_none : strOk .non = true := by decide +kernel
theorem strOk_pl (p : Pl) (h : ∀ q, p = some q → q.1 < 10 ∧ q.2 < 6) : strOk (encP p) = true := by
  cases p with
  | none => exact strOk_none
  | some q => exact strOk_pair q.1 (h q rfl).1 q.2 (h q rfl).2
def faultNames : List String := ["BadRooms", "TooMany", "BadForest", "Ring", "BadCommons", "Crowd"]
/-- a refusal that can be told as a text -/
def Sayable (e : String × D) : Prop := e.1 ∈ faultNames ∧ D.pl e.2 = true ∧ D.le e.2 50 = true ∧ strOk e.2 = true
theorem say_nat {c : String} (hc : c ∈ faultNames) {k : Nat} (h : k ≤ 100) : Sayable (c, .int k) := ⟨hc, rfl, rfl, strOk_nat k (by omega)⟩
theorem say_m1 {c : String} (hc : c ∈ faultNames) : Sayable (c, .int (-1)) := ⟨hc, rfl, rfl, strOk_m1⟩
theorem rooms_say {d : D} (hl : (decs d).length ≤ 100) {e : String × D} (h : roomsFault d = some e) : Sayable e := by
  unfold roomsFault at h
  split at h
  · rename_i ds
    have hl' : ds.length ≤ 100 := hl
    split at h
    · cases h
      exact say_nat (by decide) hl'
    · rw [Option.map_eq_some_iff] at h
      obtain ⟨k, hk, rfl⟩ := h
      have := (firstB_some_iff.mp hk).1
      exact say_nat (by decide) (by omega)
  · cases h
    exact say_m1 (by decide)
theorem forest_say {rs : List Nat} {d : D} (hl : (decs d).length ≤ 100) {e : String × D} (h : forestFault rs d = some e) : Sayable e := by
  unfold forestFault at h
  split at h
  · rename_i ds
    have hl' : ds.length ≤ 100 := hl
    split at h
    · cases h
      exact say_m1 (by decide)
    · split at h
      · rename_i k hk
        cases h
        have := (firstB_some_iff.mp hk).1
        exact say_nat (by decide) (by omega)
      · rw [Option.map_eq_some_iff] at h
        obtain ⟨k, hk, rfl⟩ := h
        have := (firstB_some_iff.mp hk).1
        exact say_nat (by decide) (by omega)
  · cases h
    exact say_m1 (by decide)
theorem commons_say {d : D} (hl : ∀ a b, d = .tup [a, b] → (decs a).length ≤ 100 ∧ (decs b).length ≤ 100) {e : String × D} (h : commonsFault d = some e) : Sayable e := by
  unfold commonsFault at h
  split at h
  · rename_i a b
    obtain ⟨ha, hb⟩ := hl a b rfl
    split at h
    · rename_i e' q
      cases h
      exact rooms_say ha q
    · rename_i q
      obtain ⟨_, h4, _⟩ := rooms_right q
      split at h
      · cases h
        exact say_nat (by decide) (by simpa [decR] using ha)
      · rename_i h8
        split at h
        · rename_i e' q2
          cases h
          exact forest_say hb q2
        · unfold crowdFault at h
          rw [Option.map_eq_some_iff] at h
          obtain ⟨p, hp, rfl⟩ := h
          have hm : p ∈ plW (decR a) (decF b) 5 := List.mem_of_head? hp
          have hm2 := (List.mem_filter.mp hm).1
          refine ⟨by simp [faultNames], by simp, by simp, strOk_pl p fun q e => ?_⟩
          have := mem_placesOf.mp hm2 q e
          have h4' : (decR a).getD q.1 0 ≤ 4 := by
            rw [List.getD_eq_getElem?_getD, List.getElem?_eq_getElem this.1]
            exact h4 _ (List.getElem_mem this.1)
          omega
  · cases h
    exact say_m1 (by decide)
section
variable {P : Pg} {n : Nat} {cs : List String}
theorem law_bent_right_run (hP : Has_law_bent_right P) (hT : P.fn "_law_told_by" = some (toldFD cs)) (hcs : ∀ c ∈ faultNames, c ∈ cs) (hre : ∀ x ∈ cs, x ≠ "Refused") (hn : 14 ≤ n) {d : D} (hd : D.nk d 6 = true) (hl : ∀ a b, d = .tup [a, b] → (decs a).length ≤ 100 ∧ (decs b).length ≤ 100) (s : D) (F : FH) :
    ∃ F', run P n (.fn "_law_bent_right") [.d s, .d d] F = .ok (.bl true) F' ∧ Fr none F F' := by
  obtain ⟨m, rfl⟩ : ∃ m, n = m + 4 := ⟨n - 4, by omega⟩
  rw [run_fn hP.self _ _ rfl]
  have hpl := (D.nk_pl _ _ hd).1
  have hG := hP.law_gives.self
  have hS := hP.law_gives.law_same
  have hR := hP.law_refused_so.self
  obtain ⟨F1, e1, fr1⟩ := law_commons_fault_run hP.law_commons_fault (n := m + 3) (by omega) hpl F
  obtain ⟨F2, e2, fr2⟩ := gives_twice (n := m) hG hT hS (f := "is_commons") (es := [.var 1]) (es2 := []) (ws := [.var 1]) (pm := [0]) (cap := [none, some d, none, none]) (us := [.d d]) (vs := []) (ys := [.d d]) (x := .bl (commonsFault d).isNone) (k := 1) rfl (by omega) (fun F => is_commons_run hP.is_commons (by omega) hpl F) (fun F => by simp) (fun F => by simp) (fun F => by simp) rfl F1
  cases q : commonsFault d with
  | none =>
    rw [q] at e1 e2
    simp only [Option.isNone_none] at e2
    obtain ⟨rs, f, rfl, hc⟩ := commons_right q
    obtain ⟨F3, e3, fr3⟩ := law_told_right_run hP.law_told_right hT (n := m + 3) (by omega) hc F2
    exact ⟨F3, by simp [fd_law_bent_right, e1, bindT, capL_eq, capFrom, e2, e3], (fr1.trans fr2).trans fr3⟩
  | some e =>
    rw [q] at e1 e2
    simp only [Option.isNone_some] at e2
    obtain ⟨h1, h2, h3, h4⟩ := commons_say hl q
    obtain ⟨F3, e3, fr3⟩ := stalls_fault hP.stalls (n := m) (by omega) hpl q (.int 0) F2
    have r3 := refused_run (n := m) hR hT hre (b := .call "stalls" [(.var 1), (.int 0)]) (cap := [none, some d, none, none]) (F := F2) (F' := F3) (hcs _ h1) h2 h3 (.inl h4) (by simp [e3])
    obtain ⟨F4, hF4⟩ : ∃ F4, F4 = F3 ++ [FO.lst [.fn "made_commons", .fn "squares", .fn "settling"]] := ⟨_, rfl⟩
    have hat : F4[F3.length]? = some (.lst [.fn "made_commons", .fn "squares", .fn "settling"]) := by simp [hF4]
    have n4 : newL [.fn "made_commons", .fn "squares", .fn "settling"] F3 = .ok (.ref F3.length) F4 := by rw [hF4]; exact newL_ok F3 (by simp)
    have hall : ∀ x ∈ [D.fn "made_commons", .fn "squares", .fn "settling"], ∀ F, ∃ F' g, x = .fn g ∧ run P m (.fn g) [.d d] F = .exc e.1 e.2 F' ∧ Fr none F F' ∧ (P.fn g).isSome = true := by
      intro x hx F
      simp only [List.mem_cons, List.not_mem_nil, or_false] at hx
      rcases hx with rfl | rfl | rfl
      · obtain ⟨F', a, k⟩ := made_commons_run hP.made_commons (n := m) (by omega) hpl F
        rw [q] at a
        exact ⟨F', _, rfl, a, k, by rw [hP.made_commons.self]; rfl⟩
      · obtain ⟨F', a, k⟩ := squares_fault hP.squares (n := m) (by omega) hpl q F
        exact ⟨F', _, rfl, a, k, by rw [hP.squares.self]; rfl⟩
      · obtain ⟨F', a, k⟩ := settling_fault hP.settling (n := m) (by omega) hpl q F
        exact ⟨F', _, rfl, a, k, by rw [hP.settling.self]; rfl⟩
    simp [fd_law_bent_right, e1, bindT, capL_eq, capFrom, e2, r3, n4, walk_plain_ref _ hat]
    generalize e5 : forL _ _ _ _ _ = r5
    have hz5 := forL_ix e5 (J := fun k ls F' => Fr none F4 F' ∧ ∃ a, ls = [some (.d s), some (.d d), some (.d (.tup [.str (so e.1), e.2])), a]) (Z := fun r => ∃ ls F', r = .ok (.nx ls) F' ∧ Fr none F4 F') ⟨.refl _ _, none, rfl⟩ ?_ ?_ (fun k ls F' _ ⟨fr, _⟩ => fr.lst hat)
    · obtain ⟨ls, F5, rfl, fr5⟩ := hz5
      exact ⟨F5, by simp, (((fr1.trans fr2).trans fr3).trans (by rw [hF4]; exact Fr.app _ _ _)).trans fr5⟩
    · rintro k x ls F' hx ⟨fr, a, rfl⟩
      obtain ⟨F5, g, rfl, e5', fr5, hs⟩ := hall x (List.mem_of_getElem? hx) F'
      have r5 := refused_run (n := m) hR hT hre (b := .callV 3 [(.var 1)]) (cap := [none, some d, none, some (.fn g)]) (F := F') (F' := F5) (hcs _ h1) h2 h3 (.inl h4) (by simp [calb, hs, callVal, e5'])
      refine turn_to ⟨fr.trans fr5, some (.d (.fn g)), rfl⟩ ?_
      simp [fbody, bindT, capL_eq, capFrom, r5]
    · rintro ls F' ⟨fr, a, rfl⟩
      exact ⟨_, F', rfl, fr⟩
end
end Fv
set_option Elab.async false
set_option linter.all false
set_option maxRecDepth 100000
/-! M14: what is no square; commons drawn. -/
namespace Fv
open PySem
theorem mem_places {F : FH} (p : Pl) (l : List Pl) : memD F (encP p) (.tup (l.map encP)) = some (decide (p ∈ l)) := by
  rw [mem_pl (ds := l.map encP) (by simp) (by simp) (by simp) (.inl (by simp))]
  congr 1
  rw [List.any_map, Bool.eq_iff_iff]
  simp only [List.any_eq_true, Function.comp, eq_encP, decide_eq_true_eq]
  exact ⟨fun ⟨x, hx, e⟩ => e ▸ hx, fun h => ⟨_, h, rfl⟩⟩
theorem add_refs {F : FH} {m n : Nat} {xs ys : List D} (h : F[m]? = some (.lst xs)) (h' : F[n]? = some (.lst ys)) : binop .add (.ref m) (.ref n) F = newL (xs ++ ys) F := by simp [binop, h, h']
theorem sq_mem {rs : List Nat} {f : List Pl} (h : CM rs f) {p : Pl} (hp : p ∈ sq rs f) : ∀ q, p = some q → q.1 < 8 ∧ q.2 < 4 := fun q e => by
  have h1 := mem_placesOf.mp (List.mem_filter.mp hp).1 q e
  have h4 : rs.getD q.1 0 ≤ 4 := by
    rw [List.getD_eq_getElem?_getD, List.getElem?_eq_getElem h1.1]
    exact h.rok _ (List.getElem_mem h1.1)
  have := h.rlen
  omega
/-- it is no square, and can be told -/
structure NoSq (rs : List Nat) (f : List Pl) (x : D) : Prop where
  pl : D.pl x = true
  le : D.le x 50 = true
  say : strOk x = true ∨ ∃ t, x = .str t
  no : isSqD rs f x = false
theorem no_pair {rs : List Nat} {f : List Pl} (h : CM rs f) {i j : Int} (hij : i < 0 ∨ 8 ≤ i ∨ j < 0 ∨ 4 ≤ j) : isSqD rs f (.tup [.int i, .int j]) = false := by
  cases e : isSqD rs f (.tup [.int i, .int j]) with
  | false => rfl
  | true =>
    obtain ⟨p, hp, hm⟩ := isSqD_right e
    cases p with
    | none => cases hp
    | some q =>
      have := sq_mem h hm q rfl
      simp at hp
      omega
def oddL : List D := [.tup [.int 0, .int 4], .tup [.int 9, .int 0], .tup [.int 0, .int (-1)], .int 0, .str (so "floor"), .tup [.int 0], .tup [.int 0, .int 0, .int 0], .tup [.bl true, .int 0], .tup [.int 0, .bl true], .tup [.int 0, .non], .tup []]
theorem oddL_say : ∀ x ∈ oddL, (strOk x || (match x with | .str _ => true | _ => false)) = true := by decide +kernel
theorem oddL_no {rs : List Nat} {f : List Pl} (h : CM rs f) : ∀ x ∈ oddL, NoSq rs f x := by
  intro x hx
  have hs : strOk x = true ∨ ∃ t, x = .str t := by
    have := oddL_say x hx
    rw [Bool.or_eq_true] at this
    rcases this with h | h
    · exact .inl h
    · cases x <;> first | exact .inr ⟨_, rfl⟩ | cases h
  have hn : isSqD rs f x = false := by
    simp only [oddL, List.mem_cons, List.not_mem_nil, or_false] at hx
    rcases hx with rfl | rfl | rfl | rfl | rfl | rfl | rfl | rfl | rfl | rfl | rfl
    · exact no_pair h (by omega)
    · exact no_pair h (by omega)
    · exact no_pair h (by omega)
    all_goals rfl
  have hp : D.pl x = true ∧ D.le x 50 = true := by
    simp only [oddL, List.mem_cons, List.not_mem_nil, or_false] at hx
    rcases hx with rfl | rfl | rfl | rfl | rfl | rfl | rfl | rfl | rfl | rfl | rfl <;> exact ⟨rfl, rfl⟩
  exact ⟨hp.1, hp.2, hs, hn⟩
section
variable {P : Pg} {n : Nat}
theorem law_no_square_run (hP : Has_law_no_square P) (hn : 4 ≤ n) {rs : List Nat} {f : List Pl} (h : CM rs f) {F : FH} {s : Nat} (hs : Src F s) :
    ∃ x F', run P n (.fn "_law_no_square") [.d (.ref s), .d (encC rs f)] F = .ok x F' ∧ NoSq rs f x ∧ Src F' s ∧ Fr (some s) F F' := by
  obtain ⟨n, rfl, hm⟩ := suc_of hn
  rw [run_fn hP.self _ _ rfl]
  have hr4 : ∀ r ∈ rs, r ≤ 1000 := fun r hr => by have := h.rok r hr; omega
  have hrl : rs.length ≤ 1000 := by have := h.rlen; omega
  have hfl : f.length ≤ 1000 := by have := h.flen; omega
  obtain ⟨F1, e1, fr1⟩ := law_squares_run hP.law_squares_of (n := n) (by omega) hr4 hrl hfl F
  obtain ⟨F2, hF2⟩ : ∃ F2, F2 = F1 ++ [FO.lst oddL] := ⟨_, rfl⟩
  have n2 : newL oddL F1 = .ok (.ref F1.length) F2 := by rw [hF2]; exact newL_ok F1 (by decide)
  have at2 : F2[F1.length]? = some (.lst oddL) := by simp [hF2]
  obtain ⟨c, F3, e3, h3, fr3, hc3⟩ := law_places_run hP.law_places_of (n := n) (by omega) hr4 hrl (encF f) F2
  have e3' : run P n (.fn "_law_places_of") [.d (encC rs f)] F2 = .ok (.ref c) F3 := e3
  have e4 := compL_ty (g := [(c, .lst ((placesOf rs).map encP))]) (F := F3) (body := cbody (run P n) P [4] (.var 4) (.nm 4) [(.cmp .nmem (.var 4) (.var 2))] [some (.d (.ref s)), some (.d (encC rs f)), some (.d (.tup ((sq rs f).map encP))), some (.d (.ref F1.length)), none]) encP (placesOf rs) (fun p => !decide (p ∈ sq rs f)) encP (gok_lst h3) fun p _ => by
    simp [cbody, wipeL, bindT, mem_places]
    split <;> rfl
  generalize hoth : (placesOf rs).filter (fun p => !decide (p ∈ sq rs f)) = oth at e4
  have hol : oth.length ≤ 1 + 8 * 1000 := by
    rw [← hoth]
    have a1 := List.length_filter_le (fun p => !decide (p ∈ sq rs f)) (placesOf rs)
    have a2 := placesOf_len hr4
    have := h.rlen
    have : rs.length * 1000 ≤ 8 * 1000 := Nat.mul_le_mul_right _ h.rlen
    omega
  obtain ⟨F4, hF4⟩ : ∃ F4, F4 = F3 ++ [FO.lst (oth.map encP)] := ⟨_, rfl⟩
  have n4 : newL (oth.map encP) F3 = .ok (.ref F3.length) F4 := by rw [hF4]; exact newL_ok F3 (by simp; omega)
  have at4 : F4[F3.length]? = some (.lst (oth.map encP)) := by simp [hF4]
  have fr34 : Fr none F3 F4 := by rw [hF4]; exact Fr.app _ _ _
  have at4' : F4[F1.length]? = some (.lst oddL) := fr34.get (fr3.get at2)
  obtain ⟨F5, hF5⟩ : ∃ F5, F5 = F4 ++ [FO.lst (oddL ++ oth.map encP)] := ⟨_, rfl⟩
  have hlen5 : (oddL ++ oth.map encP).length ≤ 16777216 := by
    have : oddL.length = 11 := rfl
    simp
    omega
  have n5 : binop .add (.ref F1.length) (.ref F3.length) F4 = .ok (.ref F4.length) F5 := by rw [add_refs at4' at4, hF5]; exact newL_ok F4 hlen5
  have at5 : F5[F4.length]? = some (.lst (oddL ++ oth.map encP)) := by simp [hF5]
  have fr5 : Fr none F F5 := ((((fr1.trans (by rw [hF2]; exact Fr.app _ _ _)).trans fr3).trans fr34).trans (by rw [hF5]; exact Fr.app _ _ _))
  have hs5 := hs.mono fr5
  have hne : (D.ref F4.length) ≠ .ref s := by
    have h1 := hs.lt
    have h2 := ((((fr1.trans (by rw [hF2]; exact Fr.app _ _ _)).trans fr3).trans fr34)).len
    intro z
    cases z
    omega
  obtain ⟨x, F6, e6, hx, hs6, fr6⟩ := law_one_run hP.law_one (n := n) (by omega) hs5 (items_ref' at5) hne (by simp [oddL]) (by have : oddL.length = 11 := rfl; simp; omega)
  refine ⟨x, F6, ?_, ?_, hs6, fr5.mono.trans fr6⟩
  · unfold oddL at n2
    simp [fd_law_no_square, e1, bindT, n2, e3', walk_plain_ref _ h3, e4, n4, n5, e6]
  · rcases List.mem_append.mp hx with hx | hx
    · exact oddL_no h x hx
    · obtain ⟨p, hp, rfl⟩ := List.mem_map.mp hx
      rw [← hoth] at hp
      obtain ⟨h1, h2⟩ := List.mem_filter.mp hp
      refine ⟨by simp, by simp, .inl (strOk_pl p fun q e => ?_), ?_⟩
      · have h1 := mem_placesOf.mp h1 q e
        have h4 : rs.getD q.1 0 ≤ 4 := by
          rw [List.getD_eq_getElem?_getD, List.getElem?_eq_getElem h1.1]
          exact h.rok _ (List.getElem_mem h1.1)
        have := h.rlen
        omega
      · rw [isSqD_enc]
        simpa using h2
end
end Fv
set_option Elab.async false
set_option linter.all false
set_option maxRecDepth 100000
/-! M15: a commons is drawn. -/
namespace Fv
open PySem
theorem Fr.later {s c : Nat} {F0 F F' : FH} (h : Fr (some s) F0 F) (h' : Fr (some c) F F') (hc : F0.length ≤ c) : Fr (some s) F0 F' := ⟨Nat.le_trans h.len h'.len, fun k o e hk => h'.at_ k o (h.at_ k o e hk) (by
  have := (List.getElem?_eq_some_iff.mp e).1
  intro z
  cases z
  omega)⟩
theorem Src.other {F F' : FH} {s c : Nat} (h : Src F s) (fr : Fr (some c) F F') (hc : s ≠ c) : Src F' s := by
  obtain ⟨a, b, h, k⟩ := h
  exact ⟨a, b, fr.at_ s _ h (by simpa using hc), k⟩
theorem Fr.seto {F F' : FH} {c : Nat} (h : Fr (some c) F F') (o : FO) : Fr (some c) F (F'.set c o) := h.trans (Fr.set c o)
theorem placesOf_take {rs : List Nat} {k : Nat} (hk : k < rs.length) : placesOf (rs.take (k + 1)) = placesOf (rs.take k) ++ (List.range (rs.getD k 0)).map fun i => some (k, i) := by
  have hl : (rs.take (k + 1)).length = k + 1 := by simp; omega
  have hl' : (rs.take k).length = k := by simp; omega
  unfold placesOf
  rw [hl, hl', List.range_succ, List.flatMap_append]
  rw [List.cons_append]
  congr 1
  congr 1
  · refine flatMap_cg fun x hx => ?_
    have hx' : x < k := by simpa using hx
    rw [List.getD_eq_getElem?_getD, List.getD_eq_getElem?_getD, List.getElem?_take_of_lt (by omega), List.getElem?_take_of_lt hx']
  · simp only [List.flatMap_cons, List.flatMap_nil, List.append_nil]
    rw [List.getD_eq_getElem?_getD, List.getD_eq_getElem?_getD, List.getElem?_take_of_lt (by omega)]
theorem cut_to {α : Type} (xs : List α) (k : Nat) : cut xs none (some (k : Int)) = xs.take k := by
  unfold cut
  rw [HT.sIx_none, HT.sIx_nat]
  simp
theorem cut_from {α : Type} (xs : List α) (k : Nat) : cut xs (some (k : Int)) none = xs.drop k := by
  unfold cut
  rw [HT.sIx_none, HT.sIx_nat]
  by_cases h : k ≤ xs.length
  · rw [Nat.min_eq_left h, List.take_of_length_le (by simp)]
  · rw [Nat.min_eq_right (by omega), List.drop_of_length_le (by omega), List.drop_of_length_le (by omega)]
    simp
section
variable {P : Pg} {n : Nat}
/-- the places of the things ahead -/
theorem places_loop {rs : List Nat} (hr : ∀ r ∈ rs, r ≤ 1000) (hl : rs.length ≤ 1000) {k : Nat} (hk : k ≤ rs.length) {a0 a1 a2 a4 a5 a7 a8 a9 : Option SV} {c : Nat} {F : FH} (hc : F[c]? = some (.lst [.non])) :
    ∃ b F', forL [] (fbody (run P n) P (.nm 7) [.ex (.meth .extend (.var 6) [(.comp [11] (.tup [(.var 7), (.var 11)]) (.nm 11) .range [(.idx (.var 3) (.var 7))] [])])]) (rng 0 k) [a0, a1, a2, some (.d (encR rs)), a4, a5, some (.d (.ref c)), a7, a8, a9, none, none] F
      = .ok (.nx [a0, a1, a2, some (.d (encR rs)), a4, a5, some (.d (.ref c)), b, a8, a9, none, none]) F' ∧ F'[c]? = some (.lst ((placesOf (rs.take k)).map encP)) ∧ Fr (some c) F F' := by
  generalize e : forL _ _ _ _ _ = r
  have hz := forL_ix e (J := fun j ls F' => ∃ b, ls = [a0, a1, a2, some (.d (encR rs)), a4, a5, some (.d (.ref c)), b, a8, a9, none, none] ∧ F'[c]? = some (.lst ((placesOf (rs.take j)).map encP)) ∧ Fr (some c) F F')
    (Z := fun r => ∃ b F', r = .ok (.nx [a0, a1, a2, some (.d (encR rs)), a4, a5, some (.d (.ref c)), b, a8, a9, none, none]) F' ∧ F'[c]? = some (.lst ((placesOf (rs.take k)).map encP)) ∧ Fr (some c) F F') ⟨a7, rfl, by simpa [placesOf] using hc, .refl _ _⟩ ?_ ?_
  · exact hz
  · rintro j y ls F' hy ⟨b, rfl, h1, h2⟩
    obtain ⟨hj, rfl⟩ := rngGet.mp hy
    have hj' : j < rs.length := by omega
    have hrk : rs.getD j 0 ≤ 1000 := by
      rw [List.getD_eq_getElem?_getD, List.getElem?_eq_getElem hj']
      exact hr _ (List.getElem_mem hj')
    have hi : ∀ F, idxop (encR rs) (.int (j : Int)) F = .ok (.int (rs.getD j 0 : Nat)) F := fun F => idx_tup (by rw [List.getElem?_map, List.getElem?_eq_getElem hj']; simp [hj'])
    have hnext := placesOf_take hj'
    have hpl : (placesOf (rs.take j)).length ≤ 1 + 1000 * 1000 := by
      have h1 := placesOf_len (rs := rs.take j) fun r hr' => hr r (List.mem_of_mem_take hr')
      have h2 : (rs.take j).length * 1000 ≤ 1000 * 1000 := Nat.mul_le_mul_right _ (by simp; omega)
      omega
    generalize rs.getD j 0 = m at hrk hi hnext
    generalize hps : ((List.range m).map fun i => (some (j, i) : Pl)) = ps at hnext
    have hpsl : ps.length = m := by rw [← hps]; simp
    have hc : ∀ F, compL [] (cbody (run P n) P [11] (.tup [(.var 7), (.var 11)]) (.nm 11) [] [a0, a1, a2, some (.d (encR rs)), a4, a5, some (.d (.ref c)), some (.d (.int j)), a8, a9, none, none]) (rng 0 (m : Nat)) [] F = .ok (ps.map encP) F := fun F => by
      rw [rng_nat]
      have := compL_ty (g := []) (F := F) (body := cbody (run P n) P [11] (.tup [(.var 7), (.var 11)]) (.nm 11) [] [a0, a1, a2, some (.d (encR rs)), a4, a5, some (.d (.ref c)), some (.d (.int j)), a8, a9, none, none]) (fun (i : Nat) => D.int i) (List.range m) (fun _ => true) (fun i => encP (some (j, i))) rfl fun i _ => by
        simp [cbody, wipeL, bindT]
      rw [List.filter_eq_self.mpr (by simp)] at this
      rw [← hps, List.map_map]
      exact this
    have hw2 : ∀ F, walk .range [.int (m : Nat)] F = some (rng 0 (m : Nat), []) := fun F => walk_range1 F (j := ((m : Nat) : Int)) (by omega)
    have hfl : c < F'.length := (List.getElem?_eq_some_iff.mp h1).1
    have h1' : ∀ o, (F' ++ [o])[c]? = some (.lst ((placesOf (rs.take j)).map encP)) := fun o => by rw [List.getElem?_append_left hfl]; exact h1
    have hz1 : (ps.map encP).length ≤ 16777216 := by simp; omega
    have hx := extend_run (h1' (.lst (ps.map encP))) (m := F'.length) (xs := ps.map encP) (by simp) (by simp; omega)
    have hrv := rcv_lst h1 (m := .extend) (by simp)
    refine turn_to ⟨some (.d (.int j)), rfl, (set_at (h1' (.lst (ps.map encP))) _).trans (by rw [hnext, List.map_append]), (h2.trans (Fr.app _ _ _)).seto _⟩ ?_
    simp [fbody, bindT, hrv, hi, hw2, hc, newL_ok _ hz1, hx]
  · rintro ls F' ⟨b, rfl, h1, h2⟩
    refine ⟨b, F', rfl, ?_, h2⟩
    simpa using h1
/-! ### the forest grows -/
/-- everything lies in what is ahead of it -/
def Up (f : List Pl) : Prop := ∀ (x : Nat) (q : Nat × Nat), f[x]? = some (some q) → q.1 < x
theorem Up.climb {f : List Pl} (h : Up f) : ∀ (k : Nat) (x : Nat), ∀ q ∈ climb f k (getP f x), q.1 < x
  | 0, x, q, hq => by simp [Fv.climb] at hq
  | k + 1, x, q, hq => by
    cases e : getP f x with
    | none => rw [e] at hq; simp [Fv.climb] at hq
    | some p =>
      rw [e] at hq
      have hp : p.1 < x := by
        unfold getP at e
        rw [List.getD_eq_getElem?_getD] at e
        cases q2 : f[x]? with
        | none => rw [q2] at e; cases e
        | some o => rw [q2] at e; cases e; exact h x p q2
      simp only [Fv.climb, List.mem_cons] at hq
      rcases hq with rfl | hq
      · exact hp
      · have := Up.climb h k p.1 q hq
        omega
theorem Up.ring {f : List Pl} (h : Up f) (x : Nat) : lies f x = false := by
  unfold lies
  rw [Bool.eq_false_iff]
  intro z
  rw [List.contains_iff_mem, List.mem_map] at z
  obtain ⟨q, hq, e⟩ := z
  have := h.climb _ _ q hq
  omega
/-- so far drawn -/
structure Grow (rs : List Nat) (f : List Pl) : Prop where
  up : Up f
  room : ∀ (x : Nat) (q : Nat × Nat), f[x]? = some (some q) → q.2 < rs.getD q.1 0
  few : ∀ p, f.count p ≤ 4
theorem Grow.rf {rs : List Nat} {f : List Pl} (h : Grow rs f) (hl : f.length ≤ rs.length) : RF (rs.take f.length) f := by
  refine ⟨by simp; omega, fun x p e => ?_, fun x _ => h.up.ring x⟩
  have hx := (List.getElem?_eq_some_iff.mp e).1
  have h1 := h.up x p e
  have h2 := h.room x p e
  refine ⟨by simp; omega, by omega, ?_⟩
  rw [List.getD_eq_getElem?_getD, List.getElem?_take_of_lt (by omega), ← List.getD_eq_getElem?_getD]
  exact h2
theorem Grow.cm {rs : List Nat} {f : List Pl} (h : Grow rs f) (hl : f.length ≤ rs.length) (h4 : ∀ r ∈ rs, r ≤ 4) (h8 : rs.length ≤ 8) : CM (rs.take f.length) f := by
  refine ⟨fun r hr => h4 r (List.mem_of_mem_take hr), by simp; omega, h.rf hl, ?_⟩
  unfold plW
  rw [List.filter_eq_nil_iff]
  intro p _
  have := h.few p
  simp
  omega
theorem Grow.step {rs : List Nat} {f : List Pl} (h : Grow rs f) (hl : f.length < rs.length) {p : Pl} (hp : p ∈ placesOf (rs.take f.length)) (hc : f.count p < 4) : Grow rs (f ++ [p]) := by
  have hp' := mem_placesOf.mp hp
  have cases_ : ∀ (x : Nat) (q : Nat × Nat), (f ++ [p])[x]? = some (some q) → f[x]? = some (some q) ∨ (x = f.length ∧ p = some q) := fun x q e => by
    by_cases hx : x < f.length
    · rw [List.getElem?_append_left hx] at e
      exact .inl e
    · rw [List.getElem?_append_right (by omega)] at e
      have hx0 : x - f.length = 0 := by
        have := (List.getElem?_eq_some_iff.mp e).1
        simp at this
        omega
      rw [hx0] at e
      exact .inr ⟨by omega, by simpa using e⟩
  refine ⟨fun x q e => ?_, fun x q e => ?_, fun q => ?_⟩
  · rcases cases_ x q e with e' | ⟨rfl, e'⟩
    · exact h.up x q e'
    · have := (hp' q e').1
      simp at this
      omega
  · rcases cases_ x q e with e' | ⟨rfl, e'⟩
    · exact h.room x q e'
    · have h1 := (hp' q e').1
      have h2 := (hp' q e').2
      simp at h1
      rw [List.getD_eq_getElem?_getD, List.getElem?_take_of_lt (by omega), ← List.getD_eq_getElem?_getD] at h2
      exact h2
  · rw [List.count_append]
    have := h.few q
    by_cases e : p = q
    · subst e
      simp
      omega
    · have : List.count q [p] = 0 := by
        rw [List.count_eq_zero]
        simpa using fun z => e z.symm
      omega
/-- what is done for each thing -/
def drawBody : List FS := [.asg (.nm 6) (.lst [.non]), .for_ (.nm 7) .range [(.var 5)] [.ex (.meth .extend (.var 6) [(.comp [11] (.tup [(.var 7), (.var 11)]) (.nm 11) .range [(.idx (.var 3) (.var 7))] [])])], .asg (.nm 8) (.comp [10] (.var 10) (.nm 10) .plain [(.var 6)] [(.cmp .lt (.bi .len [(.call "_law_crowd_of" [(.var 4), (.var 10)])]) (.int 4))]), .asg (.nm 9) (.comp [10] (.var 10) (.nm 10) .plain [(.var 8)] [(.cmp .eq (.bi .len [(.call "_law_crowd_of" [(.var 4), (.var 10)])]) (.int 1))]), .ite (.cmp .eq (.var 8) (.lst [])) [.ret (.tup [(.slc (.var 3) .non (.var 5)), (.var 4)])] [], .asg (.nm 4) (.bin .add (.var 4) (.tup [(.call "_law_one" [(.var 0), (.ite (.and (.cmp .ne (.var 9) (.lst [])) (.cmp .eq (.call "_law_take" [(.var 0), (.int 2)]) (.int 0))) (.var 9) (.var 8))])]))]
/-- one thing more, or the end -/
theorem draw_step (hP : Has_law_commons_drawn P) (hn : 3 ≤ n) {F' : FH} {s : Nat} (hs' : Src F' s) {rs : List Nat} {f : List Pl} (hg : Grow rs f) (hk' : f.length < rs.length) (h8 : rs.length ≤ 8) (hr4 : ∀ r ∈ rs, r ≤ 4) {a1 a2 a5 a6 a7 a8 a9 : Option SV} :
    ∃ F'', Src F'' s ∧ Fr (some s) F' F'' ∧ (fbody (run P n) P (.nm 5) drawBody (.int (0 + (f.length : Int))) [some (.d (.ref s)), a1, a2, some (.d (encR rs)), some (.d (encF f)), a5, a6, a7, a8, a9, none, none] F' = .ok (.rt (encC (rs.take f.length) f)) F'' ∨
      ∃ p a6' a7' a8' a9', Grow rs (f ++ [p]) ∧ fbody (run P n) P (.nm 5) drawBody (.int (0 + (f.length : Int))) [some (.d (.ref s)), a1, a2, some (.d (encR rs)), some (.d (encF f)), a5, a6, a7, a8, a9, none, none] F' = .ok (.nx [some (.d (.ref s)), a1, a2, some (.d (encR rs)), some (.d (encF (f ++ [p]))), some (.d (.int f.length)), a6', a7', a8', a9', none, none]) F'') := by
  have hr1000 : ∀ r ∈ rs, r ≤ 1000 := fun r hr => by have := hr4 r hr; omega
  obtain ⟨G1, hG1⟩ : ∃ G1 : FH, G1 = F' ++ [FO.lst [D.non]] := ⟨_, rfl⟩
  have n1 : newL [D.non] F' = .ok (.ref F'.length) G1 := by rw [hG1]; exact newL_ok F' (by simp)
  have at1 : G1[F'.length]? = some (.lst [D.non]) := by simp [hG1]
  have hwk : ∀ F, walk .range [.int (f.length : Int)] F = some (rng 0 f.length, []) := fun F => walk_range1 F (j := (f.length : Int)) (by omega)
  obtain ⟨b, G2, e5, at2, frc⟩ := places_loop (P := P) (n := n) hr1000 (by omega) (Nat.le_of_lt hk') (a0 := some (.d (.ref s))) (a1 := a1) (a2 := a2) (a4 := some (.d (encF f))) (a5 := some (.d (.int f.length))) (a7 := a7) (a8 := a8) (a9 := a9) at1
  have hpll : (placesOf (rs.take f.length)).length ≤ 8001 := by
    have a1 := placesOf_len (rs := rs.take f.length) fun r hr' => hr1000 r (List.mem_of_mem_take hr')
    have a2 : (rs.take f.length).length * 1000 ≤ 8 * 1000 := Nat.mul_le_mul_right _ (by simp; omega)
    omega
  generalize hpe : placesOf (rs.take f.length) = pls at at2 hpll
  have hsl := hs'.lt
  have frG2 : Fr (some s) F' G2 := (Fr.app (some s) F' [FO.lst [D.non]]).later (by rw [← hG1]; exact frc) (Nat.le_refl _)
  have hsG2 : Src G2 s := (hs'.mono (by rw [hG1]; exact Fr.app _ _ _)).other frc (by omega)
  have hcl : ∀ p, ((dInts (crowd f p)).length : Int) = (f.count p : Int) := fun p => by simp [dInts, crowd_len]
  -- some
  obtain ⟨G3, e6, fr3⟩ := compL_tyF (g := [(F'.length, .lst (pls.map encP))]) (F := G2) (body := cbody (run P n) P [10] (.var 10) (.nm 10) [(.cmp .lt (.bi .len [(.call "_law_crowd_of" [(.var 4), (.var 10)])]) (.int 4))] [some (.d (.ref s)), a1, a2, some (.d (encR rs)), some (.d (encF f)), some (.d (.int f.length)), some (.d (.ref F'.length)), b, a8, a9, none, none]) encP pls (fun p => decide (f.count p < 4)) encP (fun F' h => h.lst at2) fun p _ F1 hF => by
    refine ⟨F1 ++ [.lst (dInts (crowd f p))], ?_, Fr.app _ _ _⟩
    have hlen := len_ref (F := F1 ++ [.lst (dInts (crowd f p))]) (k := F1.length) (ds := dInts (crowd f p)) (by simp)
    rw [hcl] at hlen
    simp [cbody, wipeL, bindT, law_crowd_run hP.law_crowd_of (by omega : 1 ≤ n) (by omega : f.length ≤ 1000), hlen]
    by_cases h2 : f.count p < 4
    · have : (f.count p : Int) < 4 := by omega
      simp [h2, this]
    · have : ¬ (f.count p : Int) < 4 := by omega
      simp [h2, this]
  generalize hsm : pls.filter (fun p => decide (f.count p < 4)) = sm at e6
  have hsml : sm.length ≤ 8001 := by
    rw [← hsm]
    have := List.length_filter_le (fun p => decide (f.count p < 4)) pls
    omega
  have hsmm : ∀ p ∈ sm, p ∈ placesOf (rs.take f.length) ∧ f.count p < 4 := fun p hp => by
    rw [← hsm] at hp
    have := List.mem_filter.mp hp
    exact ⟨by rw [hpe]; exact this.1, by simpa using this.2⟩
  obtain ⟨G4, hG4⟩ : ∃ G4 : FH, G4 = G3 ++ [FO.lst (sm.map encP)] := ⟨_, rfl⟩
  have n4 : newL (sm.map encP) G3 = .ok (.ref G3.length) G4 := by rw [hG4]; exact newL_ok G3 (by simp; omega)
  have at4 : G4[G3.length]? = some (.lst (sm.map encP)) := by simp [hG4]
  have fr24 : Fr none G2 G4 := fr3.trans (by rw [hG4]; exact Fr.app _ _ _)
  -- near
  obtain ⟨G5, e7, fr5⟩ := compL_tyF (g := [(G3.length, .lst (sm.map encP))]) (F := G4) (body := cbody (run P n) P [10] (.var 10) (.nm 10) [(.cmp .eq (.bi .len [(.call "_law_crowd_of" [(.var 4), (.var 10)])]) (.int 1))] [some (.d (.ref s)), a1, a2, some (.d (encR rs)), some (.d (encF f)), some (.d (.int f.length)), some (.d (.ref F'.length)), b, some (.d (.ref G3.length)), a9, none, none]) encP sm (fun p => decide (f.count p = 1)) encP (fun F' h => h.lst at4) fun p _ F1 hF => by
    refine ⟨F1 ++ [.lst (dInts (crowd f p))], ?_, Fr.app _ _ _⟩
    have hlen := len_ref (F := F1 ++ [.lst (dInts (crowd f p))]) (k := F1.length) (ds := dInts (crowd f p)) (by simp)
    rw [hcl] at hlen
    simp [cbody, wipeL, bindT, law_crowd_run hP.law_crowd_of (by omega : 1 ≤ n) (by omega : f.length ≤ 1000), hlen]
    by_cases h2 : f.count p = 1
    · have : (f.count p : Int) = 1 := by omega
      simp [h2]
    · have : ¬ (f.count p : Int) = 1 := by omega
      simp [h2, this]
  generalize hnr : sm.filter (fun p => decide (f.count p = 1)) = nr at e7
  have hnrl : nr.length ≤ 8001 := by
    rw [← hnr]
    have := List.length_filter_le (fun p => decide (f.count p = 1)) sm
    omega
  have hnrm : ∀ p ∈ nr, p ∈ sm := fun p hp => by
    rw [← hnr] at hp
    exact (List.mem_filter.mp hp).1
  obtain ⟨G6, hG6⟩ : ∃ G6 : FH, G6 = G5 ++ [FO.lst (nr.map encP)] := ⟨_, rfl⟩
  have n6 : newL (nr.map encP) G5 = .ok (.ref G5.length) G6 := by rw [hG6]; exact newL_ok G5 (by simp; omega)
  have at6 : G6[G5.length]? = some (.lst (nr.map encP)) := by simp [hG6]
  have fr46 : Fr none G4 G6 := fr5.trans (by rw [hG6]; exact Fr.app _ _ _)
  have at4' : G6[G3.length]? = some (.lst (sm.map encP)) := fr46.get at4
  have g3l : G3.length < G6.length := (List.getElem?_eq_some_iff.mp at4').1
  obtain ⟨G7, hG7⟩ : ∃ G7 : FH, G7 = G6 ++ [FO.lst []] := ⟨_, rfl⟩
  have n7 : newL [] G6 = .ok (.ref G6.length) G7 := by rw [hG7]; rfl
  have fr67 : Fr none G6 G7 := by rw [hG7]; exact Fr.app _ _ _
  have q7 : eqd G7 (.ref G3.length) (.ref G6.length) = some (sm.map encP).isEmpty := eqd_empty (lis_ref _ (fr67.get at4')) (lis_ref _ (by simp [hG7])) (by simp)
  have fr27 : Fr none G2 G7 := (fr24.trans fr46).trans fr67
  have frG7 : Fr (some s) F' G7 := frG2.trans fr27.mono
  have hs7 : Src G7 s := hsG2.mono fr27
  cases hsm0 : sm with
  | nil =>
    rw [hsm0] at q7
    refine ⟨G7, hs7, frG7, .inl ?_⟩
    have hcut : slc1 (encR rs) none (some (f.length : Int)) G7 = .ok (encR (rs.take f.length)) G7 := by
      rw [show encR rs = .tup (dInts rs) from rfl]
      simp only [slc1, cut_to]
      simp [encR, dInts]
    subst hG7
    simp at q7
    simp [fbody, drawBody, bindT, n1, hwk, e5, walk_plain_ref _ at2, e6, n4, walk_plain_ref _ at4, e7, n6, q7, oint, hcut, encC]
  | cons p0 t0 =>
    rw [hsm0] at q7
    have fin : ∀ (H : FH) (c : Nat) (l : List Pl), Src H s → Fr (some s) F' H → H[c]? = some (.lst (l.map encP)) → c ≠ s → l ≠ [] → (∀ p ∈ l, p ∈ sm) → l.length ≤ 8001 → ∃ p H', run P n (.fn "_law_one") [.d (.ref s), .d (.ref c)] H = .ok (encP p) H' ∧ p ∈ sm ∧ Src H' s ∧ Fr (some s) F' H' := by
      intro H c l h1 h2 h3 h4 h5 h6 h7
      obtain ⟨x, H', e, hx, hs2, fr⟩ := law_one_run hP.law_one (n := n) (by omega) h1 (items_ref' h3) (by simpa using h4) (by simpa using h5) (by simp; omega)
      obtain ⟨p, hp, rfl⟩ := List.mem_map.mp hx
      exact ⟨p, H', e, h6 p hp, hs2, h2.trans fr⟩
    have hF'l : F'.length ≤ G3.length := Nat.le_trans frG2.len fr3.len
    have g5l : G3.length ≤ G5.length := Nat.le_trans (by rw [hG4]; simp) fr5.len
    have hsne : sm ≠ [] := by rw [hsm0]; simp
    have hadd : ∀ p H, newT (f.map encP ++ [encP p]) H = .ok (encF (f ++ [p])) H := fun p H => by
      rw [newT_ok _ (by simp; omega)]
      simp [encF]
    have hadd' : ∀ p H, binop .add (encF f) (.tup [encP p]) H = .ok (encF (f ++ [p])) H := fun p H => hadd p H
    obtain ⟨G8, hG8⟩ : ∃ G8 : FH, G8 = G7 ++ [FO.lst []] := ⟨_, rfl⟩
    have fr78 : Fr none G7 G8 := by rw [hG8]; exact Fr.app _ _ _
    have at6' : G8[G5.length]? = some (.lst (nr.map encP)) := fr78.get (fr67.get at6)
    have at4'' : G8[G3.length]? = some (.lst (sm.map encP)) := fr78.get (fr67.get at4')
    have q8 : eqd G8 (.ref G5.length) (.ref G7.length) = some (nr.map encP).isEmpty := eqd_empty (lis_ref _ at6') (lis_ref _ (by simp [hG8])) (by simp)
    have hs8 := hs7.mono fr78
    have frG8 := frG7.trans fr78.mono
    have stepg : ∀ p, p ∈ sm → Grow rs (f ++ [p]) := fun p hp => hg.step hk' (hsmm p hp).1 (hsmm p hp).2
    cases hnr0 : nr with
    | nil =>
      rw [hnr0] at q8
      obtain ⟨p, H', e, hp, hsH, frH⟩ := fin G8 G3.length sm hs8 frG8 at4'' (by omega) hsne (fun p h => h) hsml
      refine ⟨H', hsH, frH, .inr ⟨p, some (.d (.ref F'.length)), b, some (.d (.ref G3.length)), some (.d (.ref G5.length)), stepg p hp, ?_⟩⟩
      subst hG8
      subst hG7
      simp at q7 q8 e
      simp [fbody, drawBody, bindT, n1, hwk, e5, walk_plain_ref _ at2, e6, n4, walk_plain_ref _ at4, e7, n6, q7, q8, e, hadd']
    | cons p1 t1 =>
      rw [hnr0] at q8
      obtain ⟨v, G9, e9, hv, hs9, fr9⟩ := law_take_run hP.law_take (n := n) (by omega) hs8 (top := 2) (by omega) (by omega)
      have e9' : run P n (.fn "_law_take") [.d (.ref s), .d (.int 2)] G8 = .ok (.int v) G9 := e9
      have frG9 := frG8.trans fr9
      by_cases hv0 : v = 0
      · obtain ⟨p, H', e, hp, hsH, frH⟩ := fin G9 G5.length nr hs9 frG9 (fr9.at_ _ _ at6' (by simp; omega)) (by omega) (by rw [hnr0]; simp) hnrm hnrl
        refine ⟨H', hsH, frH, .inr ⟨p, some (.d (.ref F'.length)), b, some (.d (.ref G3.length)), some (.d (.ref G5.length)), stepg p hp, ?_⟩⟩
        subst hv0
        subst hG8
        subst hG7
        simp at q7 q8 e9'
        simp [fbody, drawBody, bindT, n1, hwk, e5, walk_plain_ref _ at2, e6, n4, walk_plain_ref _ at4, e7, n6, q7, q8, e9', e, hadd']
      · have hv1 : v = 1 := by omega
        obtain ⟨p, H', e, hp, hsH, frH⟩ := fin G9 G3.length sm hs9 frG9 (fr9.at_ _ _ at4'' (by simp; omega)) (by omega) hsne (fun p h => h) hsml
        refine ⟨H', hsH, frH, .inr ⟨p, some (.d (.ref F'.length)), b, some (.d (.ref G3.length)), some (.d (.ref G5.length)), stepg p hp, ?_⟩⟩
        subst hv1
        subst hG8
        subst hG7
        simp at q7 q8 e9'
        simp [fbody, drawBody, bindT, n1, hwk, e5, walk_plain_ref _ at2, e6, n4, walk_plain_ref _ at4, e7, n6, q7, q8, e9', e, hadd']
/-- one of the rooms' numbers -/
theorem law_commons_drawn_run (hP : Has_law_commons_drawn P) (hn : 4 ≤ n) {F : FH} {s : Nat} (hs : Src F s) {most : Nat} (hm2 : 2 ≤ most) (hm8 : most ≤ 8) :
    ∃ rs f F', run P n (.fn "_law_commons_drawn") [.d (.ref s), .d (.int most)] F = .ok (encC rs f) F' ∧ CM rs f ∧ Src F' s ∧ Fr (some s) F F' := by
  obtain ⟨n, rfl, hm⟩ := suc_of hn
  rw [run_fn hP.self _ _ rfl]
  obtain ⟨v, F1, e1, hv, hs1, fr1⟩ := law_take_run hP.law_take (n := n) (by omega) hs (top := most - 1) (by omega) (by omega)
  rw [show ((most - 1 : Nat) : Int) = (most : Int) - 1 by omega] at e1
  obtain ⟨mn, hmn, hmn2⟩ : ∃ mn : Nat, 2 + (v : Int) = mn ∧ mn = v + 2 := ⟨v + 2, by omega, rfl⟩
  have hw : ∀ F, walk .range [.int (mn : Int)] F = some (rng 0 (mn : Int), []) := fun F => walk_range1 F (j := (mn : Int)) (by omega)
  -- the rooms
  obtain ⟨acc, F2, e2, rs, racc, hrl, hr4, hs2, fr2⟩ := compL_ix (g := []) (body := cbody (run P n) P [5] (.call "_law_one" [(.var 0), (.lst [(.int 0), (.int 0), (.int 1), (.int 2), (.int 0), (.int 3), (.int 2), (.int 1)])]) (.nm 5) [] [some (.d (.ref s)), some (.d (.int most)), some (.d (.int (mn : Int))), none, none, none, none, none, none, none, none, none])
    (xs := rng 0 (mn : Int)) (acc := []) (F := F1) (J := fun k acc F' => ∃ rs : List Nat, acc = dInts rs ∧ rs.length = k ∧ (∀ r ∈ rs, r ≤ 4) ∧ Src F' s ∧ Fr (some s) F F') 0 ⟨[], rfl, rfl, by simp, hs1, fr1⟩ (fun k x acc F' hx ⟨rs, h1, h2, h3, h4, h5⟩ => by
      obtain ⟨hk, rfl⟩ := rngGet.mp hx
      obtain ⟨G, hG⟩ : ∃ G, G = F' ++ [FO.lst (dInts [0, 0, 1, 2, 0, 3, 2, 1])] := ⟨_, rfl⟩
      have hat : G[F'.length]? = some (.lst (dInts [0, 0, 1, 2, 0, 3, 2, 1])) := by simp [hG]
      have hsG : Src G s := h4.mono (by rw [hG]; exact Fr.app _ _ _)
      obtain ⟨y, G2, e, hy, hs', fr⟩ := law_one_run hP.law_one (n := n) (by omega) hsG (items_ref' hat) (by intro z; cases z; have := h4.lt; omega) (by simp [dInts]) (by simp [dInts])
      obtain ⟨r, hr, rfl⟩ := List.mem_map.mp hy
      have nl : newL [D.int 0, .int 0, .int 1, .int 2, .int 0, .int 3, .int 2, .int 1] F' = .ok (.ref F'.length) G := by rw [hG]; exact newL_ok F' (by simp)
      refine ⟨[.int r], G2, ?_, rs ++ [r], by rw [h1]; simp [dInts], by simp [h2], fun r' hr' => ?_, hs', (h5.trans (by rw [hG]; exact Fr.app _ _ _)).trans fr⟩
      · simp [cbody, wipeL, bindT, nl, e]
      · rcases List.mem_append.mp hr' with hr' | hr'
        · exact h3 r' hr'
        · have : r' = r := by simpa using hr'
          subst this
          simp at hr
          omega) (fun _ _ _ _ _ => rfl)
  have hrl' : rs.length = mn := by
    simp at hrl
    omega
  obtain ⟨F3, hF3⟩ : ∃ F3, F3 = F2 ++ [FO.lst (dInts rs)] := ⟨_, rfl⟩
  have n3 : newL (dInts rs) F2 = .ok (.ref F2.length) F3 := by rw [hF3]; exact newL_ok F2 (by simp [dInts]; omega)
  have at3 : F3[F2.length]? = some (.lst (dInts rs)) := by simp [hF3]
  have hs3 : Src F3 s := hs2.mono (by rw [hF3]; exact Fr.app _ _ _)
  have fr3 : Fr (some s) F F3 := fr2.trans (by rw [hF3]; exact Fr.app _ _ _)
  rw [racc] at e2
  have hR : D.tup (dInts rs) = encR rs := rfl
  simp [fd_law_commons_drawn, bindT, e1, hmn, hw, e2, n3, tuple_ref at3, hR]
  generalize e4 : forL _ _ _ _ _ = r4
  have h8 : rs.length ≤ 8 := by omega
  have hr1000 : ∀ r ∈ rs, r ≤ 1000 := fun r hr => by have := hr4 r hr; omega
  have hz4 := forL_ix e4 (J := fun k ls F' => ∃ (f : List Pl) (a5 a6 a7 a8 a9 : Option SV), ls = [some (.d (.ref s)), some (.d (.int most)), some (.d (.int (mn : Int))), some (.d (encR rs)), some (.d (encF f)), a5, a6, a7, a8, a9, none, none] ∧ f.length = k ∧ Grow rs f ∧ Src F' s ∧ Fr (some s) F F')
    (Z := fun r => ∃ rs' f F', CM rs' f ∧ Src F' s ∧ Fr (some s) F F' ∧ (r = .ok (.rt (encC rs' f)) F' ∨ (rs' = rs ∧ ∃ a5 a6 a7 a8 a9, r = .ok (.nx [some (.d (.ref s)), some (.d (.int most)), some (.d (.int (mn : Int))), some (.d (encR rs)), some (.d (encF f)), a5, a6, a7, a8, a9, none, none]) F')))
    ⟨[], none, none, none, none, none, rfl, rfl, ⟨fun x q e => (by cases e), fun x q e => (by cases e), by simp⟩, hs3, fr3⟩ ?_ ?_
  · obtain ⟨rs', f, F', hc, hs', fr', h | ⟨rfl, a5, a6, a7, a8, a9, h⟩⟩ := hz4
    · subst h
      exact ⟨rs', f, F', by simp, hc, hs', fr'⟩
    · subst h
      exact ⟨rs', f, F', by simp [encC], hc, hs', fr'⟩
  · rintro k y ls F' hy ⟨f, a5, a6, a7, a8, a9, rfl, hfl, hg, hs', fr'⟩
    have hyk := rngGet.mp hy
    have hk := hyk.1
    have hy2 := hyk.2
    clear hyk hy
    have hk' : f.length < rs.length := by omega
    subst hfl
    refine Exists.elim (draw_step hP hm hs' hg hk' h8 hr4 (a1 := some (.d (.int most))) (a2 := some (.d (.int (mn : Int)))) (a5 := a5) (a6 := a6) (a7 := a7) (a8 := a8) (a9 := a9)) fun F'' h => ?_
    refine h.2.2.elim (fun h3 => ?_) fun h3 => ?_
    · exact turn_ret ⟨rs.take f.length, f, F'', hg.cm (Nat.le_of_lt hk') hr4 h8, h.1, fr'.trans h.2.1, .inl rfl⟩ (by rw [hy2]; exact h3)
    · refine Exists.elim h3 fun p h3 => Exists.elim h3 fun a6' h3 => Exists.elim h3 fun a7' h3 => Exists.elim h3 fun a8' h3 => Exists.elim h3 fun a9' h3 => ?_
      exact turn_to ⟨f ++ [p], some (.d (.int f.length)), a6', a7', a8', a9', rfl, by simp, h3.1, h.1, fr'.trans h.2.1⟩ (by rw [hy2]; exact h3.2)
  · rintro ls F' ⟨f, a5, a6, a7, a8, a9, rfl, hfl, hg, hs', fr'⟩
    have hfl' : f.length = rs.length := by
      simp at hfl
      omega
    have hcm := hg.cm (by omega) hr4 h8
    rw [hfl', List.take_length] at hcm
    exact ⟨rs, f, F', hcm, hs', fr', .inr ⟨rfl, a5, a6, a7, a8, a9, rfl⟩⟩
end
end Fv
set_option Elab.async false
set_option linter.all false
set_option maxRecDepth 100000
/-! M16: a commons bent. -/
namespace Fv
open PySem
/-- plain, small -/
def Bent (x : D) : Prop := D.nk x 6 = true ∧ ∀ a b, x = .tup [a, b] → (decs a).length ≤ 100 ∧ (decs b).length ≤ 100
theorem bent_pair {a b : D} (ha : D.nk a 5 = true) (hb : D.nk b 5 = true) (la : (decs a).length ≤ 100) (lb : (decs b).length ≤ 100) : Bent (.tup [a, b]) := ⟨nk_two ha hb, fun a' b' e => by cases e; exact ⟨la, lb⟩⟩
theorem bent_no {x : D} (h : D.nk x 6 = true) (hn : ∀ a b, x ≠ .tup [a, b]) : Bent x := ⟨h, fun a b e => absurd e (hn a b)⟩
theorem nks_append {a b : List D} {k : Nat} (ha : D.nks a k = true) (hb : D.nks b k = true) : D.nks (a ++ b) k = true := by
  rw [nks_iff] at *
  intro d hd
  rcases List.mem_append.mp hd with h | h
  · exact ha d h
  · exact hb d h
theorem nks_take {a : List D} {k : Nat} (ha : D.nks a k = true) (n : Nat) : D.nks (a.take n) k = true := by
  rw [nks_iff] at *
  exact fun d hd => ha d (List.mem_of_mem_take hd)
theorem nks_drop {a : List D} {k : Nat} (ha : D.nks a k = true) (n : Nat) : D.nks (a.drop n) k = true := by
  rw [nks_iff] at *
  exact fun d hd => ha d (List.mem_of_mem_drop hd)
/-- a list of bent things at c -/
def LB (F : FH) (c k : Nat) : Prop := ∃ ds, F[c]? = some (.lst ds) ∧ (∀ x ∈ ds, Bent x) ∧ ds.length ≤ k ∧ ds ≠ []
theorem LB.lt {F : FH} {c k : Nat} (h : LB F c k) : c < F.length := by
  obtain ⟨ds, h, _⟩ := h
  exact (List.getElem?_eq_some_iff.mp h).1
theorem LB.mono {F F' : FH} {c k : Nat} (h : LB F c k) (fr : Fr none F F') : LB F' c k := by
  obtain ⟨ds, h, r⟩ := h
  exact ⟨ds, fr.get h, r⟩
theorem LB.other {F F' : FH} {c k s : Nat} (h : LB F c k) (fr : Fr (some s) F F') (hc : c ≠ s) : LB F' c k := by
  obtain ⟨ds, h, r⟩ := h
  exact ⟨ds, fr.at_ c _ h (by simpa using hc), r⟩
theorem LB.app {F : FH} {c k : Nat} (h : LB F c k) (hk : k ≤ 1000) {x : D} (hx : Bent x) : ∃ F', methop .append (.ref c) [x] F = .ok .non F' ∧ rcv .append F (.ref c) = true ∧ LB F' c (k + 1) ∧ Fr (some c) F F' := by
  obtain ⟨ds, h1, h2, h3, h4⟩ := h
  refine ⟨_, append_run h1 (by omega) x, rcv_lst h1 (by simp), ⟨ds ++ [x], set_at h1 _, fun y hy => ?_, by simp; omega, by simp⟩, Fr.set c _⟩
  rcases List.mem_append.mp hy with hy | hy
  · exact h2 y hy
  · have : y = x := by simpa using hy
    exact this ▸ hx
theorem LB.add {F : FH} {c k : Nat} (h : LB F c k) (hk : k ≤ 1000) {c2 : Nat} {xs : List D} (h2 : F[c2]? = some (.lst xs)) (hx : ∀ x ∈ xs, Bent x) (hl : xs.length ≤ 100) : ∃ F', binop .add (.ref c) (.ref c2) F = .ok (.ref F.length) F' ∧ LB F' F.length (k + xs.length) ∧ Fr none F F' := by
  obtain ⟨ds, h1, h3, h4, h5⟩ := h
  refine ⟨F ++ [.lst (ds ++ xs)], ?_, ⟨ds ++ xs, by simp, fun y hy => ?_, by simp; omega, by simp [h5]⟩, Fr.app _ _ _⟩
  · rw [add_refs h1 h2]
    exact newL_ok F (by simp; omega)
  · rcases List.mem_append.mp hy with hy | hy
    · exact h3 y hy
    · exact hx y hy
/-- some + [..] -/
theorem LB.plus {F : FH} {c k : Nat} (h : LB F c k) (hk : k ≤ 1000) {xs : List D} (hx : ∀ x ∈ xs, Bent x) (hl : xs.length ≤ 100) : ∃ F1 F', newL xs F = .ok (.ref F.length) F1 ∧ binop .add (.ref c) (.ref F.length) F1 = .ok (.ref F1.length) F' ∧ LB F' F1.length (k + xs.length) ∧ Fr none F F' ∧ F.length ≤ F1.length := by
  have f1 : Fr none F (F ++ [.lst xs]) := Fr.app _ _ _
  obtain ⟨F', e, h', fr⟩ := (h.mono f1).add hk (c2 := F.length) (xs := xs) (by simp) hx hl
  exact ⟨F ++ [.lst xs], F', newL_ok F (by omega), e, h', f1.trans fr, by simp⟩
/-- some + [x] * 3 -/
theorem LB.plus3 {F : FH} {c k : Nat} (h : LB F c k) (hk : k ≤ 1000) {x : D} (hx : Bent x) : ∃ F1 F2 F', newL [x] F = .ok (.ref F.length) F1 ∧ binop .mul (.ref F.length) (.int 3) F1 = .ok (.ref F1.length) F2 ∧ binop .add (.ref c) (.ref F1.length) F2 = .ok (.ref F2.length) F' ∧ LB F' F2.length (k + 3) ∧ Fr none F F' ∧ F.length ≤ F2.length := by
  have f1 : Fr none F (F ++ [.lst [x]]) := Fr.app _ _ _
  have f2 : Fr none (F ++ [.lst [x]]) (F ++ [.lst [x]] ++ [.lst [x, x, x]]) := Fr.app _ _ _
  obtain ⟨F', e, h', fr⟩ := ((h.mono f1).mono f2).add hk (c2 := (F ++ [FO.lst [x]]).length) (xs := [x, x, x]) (by simp) (by simpa using hx) (by simp)
  refine ⟨F ++ [.lst [x]], _, F', newL_ok F (by simp), ?_, e, h', (f1.trans f2).trans fr, by simp⟩
  have : (F ++ [FO.lst [x]])[F.length]? = some (.lst [x]) := by simp
  simp only [binop, this]
  rfl
theorem reps_one {α : Type} (a : α) (n : Nat) : reps [a] n = List.replicate n a := by
  unfold reps
  induction n with
  | zero => rfl
  | succ n ih => rw [List.replicate_succ, List.flatten_cons, ih, List.replicate_succ]; rfl
theorem tmul {F : FH} (a : D) {j : Int} (h : 2 ≤ j) (h' : j ≤ 1000) : binop .mul (.tup [a]) (.int j) F = .ok (.tup (List.replicate j.toNat a)) F := by
  simp [binop, h, h', reps_one]
theorem nks_replicate {a : D} {k : Nat} (h : D.nk a k = true) (n : Nat) : D.nks (List.replicate n a) k = true := by
  rw [nks_iff]
  intro d hd
  rw [List.eq_of_mem_replicate hd]
  exact h
section
variable {P : Pg} {n : Nat}
theorem law_commons_bent_run (hP : Has_law_commons_bent P) (hn : 3 ≤ n) {rs : List Nat} {f : List Pl} (h : CM rs f) {F : FH} {s : Nat} (hs : Src F s) :
    ∃ x F', run P n (.fn "_law_commons_bent") [.d (.ref s), .d (encC rs f)] F = .ok x F' ∧ Bent x ∧ Src F' s ∧ Fr (some s) F F' := by
  obtain ⟨n, rfl, hm⟩ := suc_of hn
  rw [run_fn hP.self _ _ rfl]
  have h8 := h.rlen
  have hf8 := h.flen
  have hRk : D.nk (encR rs) 5 = true := nk_encR (by omega) 4
  have hFk : D.nk (encF f) 5 = true := nk_encF (by omega) 3
  have hRl : (decs (encR rs)).length ≤ 100 := by simp [encR, decs]; omega
  have hFl : (decs (encF f)).length ≤ 100 := by simp [encF, decs]; omega
  obtain ⟨top, htop⟩ : ∃ top : Nat, (if rs.length > 1 then rs.length else 1) = top := ⟨_, rfl⟩
  have htop0 : 0 < top ∧ top ≤ 8 := by split at htop <;> omega
  have hmx : ∀ F, biop .max [.int 1, .int rs.length] F = .ok (.int (top : Nat)) F := fun F => by
    rw [bi_max]
    congr 2
    split at htop
    · rw [if_pos (by omega)]; omega
    · rw [if_neg (by omega)]; omega
  have hlr : ∀ F, biop .len [encR rs] F = .ok (.int rs.length) F := fun F => by simp [encR]
  obtain ⟨v, F1, e1, hv, hs1, fr1⟩ := law_take_run hP.law_take (n := n) (by omega) hs (top := top) htop0.1 (by omega)
  -- bad
  have lits : ∀ (l : List D) (F : FH) (s : Nat), Src F s → l.length ≤ 100 → l ≠ [] → ∃ G x F', newL l F = .ok (.ref F.length) G ∧ run P n (.fn "_law_one") [.d (.ref s), .d (.ref F.length)] G = .ok x F' ∧ x ∈ l ∧ Src F' s ∧ Fr (some s) F F' := fun l F s hs hl h0 => by
    have hat : (F ++ [FO.lst l])[F.length]? = some (.lst l) := by simp
    obtain ⟨x, F', e, hx, hs', fr⟩ := law_one_run hP.law_one hm (hs.mono (Fr.app none F [.lst l])) (items_ref' hat) (by intro z; cases z; have := hs.lt; omega) h0 (by omega)
    exact ⟨_, x, F', newL_ok F (by omega), e, hx, hs', (Fr.app _ _ _).trans fr⟩
  obtain ⟨G1, bad, F2, n1, e2, hbad, hs2, fr2⟩ := lits [.int 5, .int (-1), .non, .bl true, .str (so "1"), .tup [.int 1], .int 4, .int 0] F1 s hs1 (by simp) (by simp)
  have hbk : D.nk bad 4 = true := by
    simp only [List.mem_cons, List.not_mem_nil, or_false] at hbad
    rcases hbad with rfl | rfl | rfl | rfl | rfl | rfl | rfl | rfl <;> rfl
  -- wild
  generalize hW : [D.tup [.int v, .int 0], .tup [.int 9, .int 0], .tup [.int 0, .int 4], .tup [.int 0, .int (-1)], .tup [.int 0], .int 0, .str (so "f"), .tup [.bl true, .int 0], .tup [.int 0, .bl true], .tup [.int 0, .int 0], .non, .tup [.int 1, .int 0], .tup [.int 0, .non]] = W
  have hWl : W.length = 13 := by rw [← hW]; rfl
  have hWk : ∀ w ∈ W, D.nk w 4 = true := by
    rw [← hW]
    intro w hw
    simp only [List.mem_cons, List.not_mem_nil, or_false] at hw
    rcases hw with rfl | rfl | rfl | rfl | rfl | rfl | rfl | rfl | rfl | rfl | rfl | rfl | rfl <;> rfl
  obtain ⟨F3, hF3⟩ : ∃ F3 : FH, F3 = F2 ++ [FO.lst W] := ⟨_, rfl⟩
  have n3 : newL W F2 = .ok (.ref F2.length) F3 := by rw [hF3]; exact newL_ok F2 (by omega)
  have atW : F3[F2.length]? = some (.lst W) := by simp [hF3]
  have fr23 : Fr none F2 F3 := by rw [hF3]; exact Fr.app _ _ _
  have hs3 := hs2.mono fr23
  -- the first ones
  generalize hB : [D.non, .tup [], encR rs, .tup [encR rs], .tup [encR rs, encF f, .tup []], .tup [.non, encF f], .tup [encR rs, .non], .str (so "ab")] = B
  have hBb : ∀ x ∈ B, Bent x := by
    rw [← hB]
    intro x hx
    simp only [List.mem_cons, List.not_mem_nil, or_false] at hx
    rcases hx with rfl | rfl | rfl | rfl | rfl | rfl | rfl | rfl
    · exact bent_no rfl (fun a b e => by cases e)
    · exact bent_no rfl (fun a b e => by cases e)
    · refine ⟨nk_encR (by omega) 5, fun a b e => ?_⟩
      have : decs (encR rs) = [a, b] := by rw [e]; rfl
      have ha : a ∈ dInts rs := by show a ∈ decs (encR rs); rw [this]; simp
      have hb : b ∈ dInts rs := by show b ∈ decs (encR rs); rw [this]; simp
      obtain ⟨i, _, rfl⟩ := List.mem_map.mp ha
      obtain ⟨j, _, rfl⟩ := List.mem_map.mp hb
      simp [decs]
    · exact bent_no (by simp [D.nk, D.nks, hRk]) (fun a b e => by cases e)
    · exact bent_no (by simp [D.nk, D.nks, hRk, hFk]) (fun a b e => by cases e)
    · exact bent_pair rfl hFk (by simp [decs]) hFl
    · exact bent_pair hRk rfl hRl (by simp [decs])
    · exact bent_no rfl (fun a b e => by cases e)
  obtain ⟨F4, hF4⟩ : ∃ F4 : FH, F4 = F3 ++ [FO.lst B] := ⟨_, rfl⟩
  have n4 : newL B F3 = .ok (.ref F3.length) F4 := by rw [hF4]; exact newL_ok F3 (by rw [← hB]; simp)
  have fr34 : Fr none F3 F4 := by rw [hF4]; exact Fr.app _ _ _
  have L4 : LB F4 F3.length 8 := ⟨B, by simp [hF4], hBb, by rw [← hB]; simp, by rw [← hB]; simp⟩
  have lt3 := hs3.lt
  have lt2 := hs2.lt
  have l23 : F2.length < F3.length := by rw [hF3]; simp
  -- append
  obtain ⟨F5, e5, v5, L5, fr5⟩ := L4.app (by omega) (x := .tup [.str (so "12"), encF f]) (bent_pair rfl hFk (by simp [decs]) hFl)
  have hs5 := (hs3.mono fr34).other fr5 (by omega)
  have atW5 : F5[F2.length]? = some (.lst W) := fr5.at_ _ _ (fr34.get atW) (by simp; omega)
  have l45 : F4.length ≤ F5.length := fr5.len
  have l34 : F3.length < F4.length := by rw [hF4]; simp
  -- rooms bent
  have sl1 : ∀ F, slc1 (encR rs) none (some (v : Int)) F = .ok (.tup ((dInts rs).take v)) F := fun F => by
    rw [show encR rs = .tup (dInts rs) from rfl]; simp only [slc1, cut_to]
  have sl2 : ∀ F, slc1 (encR rs) (some ((v : Int) + 1)) none F = .ok (.tup ((dInts rs).drop (v + 1))) F := fun F => by
    rw [show encR rs = .tup (dInts rs) from rfl]; simp only [slc1]; rw [show ((v : Int) + 1) = ((v + 1 : Nat) : Int) by omega, cut_from]
  have sl3 : ∀ F, slc1 (encF f) none (some (v : Int)) F = .ok (.tup ((f.map encP).take v)) F := fun F => by
    rw [show encF f = .tup (f.map encP) from rfl]; simp only [slc1, cut_to]
  have sl4 : ∀ F, slc1 (encF f) (some ((v : Int) + 1)) none F = .ok (.tup ((f.map encP).drop (v + 1))) F := fun F => by
    rw [show encF f = .tup (f.map encP) from rfl]; simp only [slc1]; rw [show ((v : Int) + 1) = ((v + 1 : Nat) : Int) by omega, cut_from]
  have sl5 : ∀ F, slc1 (encF f) (some (1 : Int)) none F = .ok (.tup ((f.map encP).drop 1)) F := fun F => by
    rw [show encF f = .tup (f.map encP) from rfl]; simp only [slc1]; rw [show (1 : Int) = ((1 : Nat) : Int) by omega, cut_from]
  have hdl : (dInts rs).length ≤ 8 := by simp [dInts]; omega
  have hel : (f.map encP).length ≤ 8 := by simp; omega
  have hdk : D.nks (dInts rs) 4 = true := nks_ints _ _
  have hek : D.nks (f.map encP) 4 = true := nks_mapP _ _
  generalize hdd : dInts rs = dd at sl1 sl2 hdl hdk
  generalize hee : f.map encP = ee at sl3 sl4 sl5 hel hek
  have t1 : ∀ F, newT (dd.take v ++ [bad]) F = .ok (.tup (dd.take v ++ [bad])) F := fun F => newT_ok F (by simp; omega)
  have t2 : ∀ F, newT (dd.take v ++ [bad] ++ dd.drop (v + 1)) F = .ok (.tup (dd.take v ++ [bad] ++ dd.drop (v + 1))) F := fun F => newT_ok F (by simp; omega)
  obtain ⟨H1, H2, F6, m1, m2, m3, L6, fr6, l6⟩ := L5.plus3 (by omega) (x := .tup [.tup (dd.take v ++ [bad] ++ dd.drop (v + 1)), encF f]) (bent_pair (nk_tup (nks_append (nks_append (nks_take hdk _) (by simp [D.nks, hbk])) (nks_drop hdk _)) (by simp; omega)) hFk (by simp [decs]; omega) hFl)
  have hs6 := hs5.mono fr6
  have atW6 := fr6.get atW5
  -- the forest bent
  obtain ⟨w, F7, e7, hw, hs7, fr7⟩ := law_one_run hP.law_one hm hs6 (items_ref' atW6) (by intro z; cases z; omega) (by intro z; rw [z] at hWl; cases hWl) (by omega)
  have hwk := hWk w hw
  have L7 := L6.other fr7 (by omega)
  have t3 : ∀ F, newT (ee.take v ++ [w]) F = .ok (.tup (ee.take v ++ [w])) F := fun F => newT_ok F (by simp; omega)
  have t4 : ∀ F, newT (ee.take v ++ [w] ++ ee.drop (v + 1)) F = .ok (.tup (ee.take v ++ [w] ++ ee.drop (v + 1))) F := fun F => newT_ok F (by simp; omega)
  obtain ⟨H3, H4, F8, m4, m5, m6, L8, fr8, l8⟩ := L7.plus3 (by omega) (x := .tup [encR rs, .tup (ee.take v ++ [w] ++ ee.drop (v + 1))]) (bent_pair hRk (nk_tup (nks_append (nks_append (nks_take hek _) (by simp [D.nks, hwk])) (nks_drop hek _)) (by simp; omega)) hRl (by simp [decs]; omega))
  have hs8 := hs7.mono fr8
  -- more
  have ta : ∀ F, binop .add (encR rs) (.tup [.int 1]) F = .ok (.tup (dd ++ [.int 1])) F := fun F => by
    rw [show encR rs = .tup (dInts rs) from rfl, hdd]; exact newT_ok F (by simp; omega)
  have tb : ∀ F, binop .add (encR rs) (.tup [.int 0]) F = .ok (.tup (dd ++ [.int 0])) F := fun F => by
    rw [show encR rs = .tup (dInts rs) from rfl, hdd]; exact newT_ok F (by simp; omega)
  have tc : ∀ F, binop .add (encF f) (.tup [.non]) F = .ok (.tup (ee ++ [.non])) F := fun F => by
    rw [show encF f = .tup (f.map encP) from rfl, hee]; exact newT_ok F (by simp; omega)
  obtain ⟨H5, F9, m7, m8, L9, fr9, l9⟩ := L8.plus (by omega) (xs := [.tup [encR rs, .tup (ee.drop 1)], .tup [.tup (dd ++ [.int 1]), encF f], .tup [.tup (List.replicate 25 (.int 0)), .non]]) (by
    intro x hx
    simp only [List.mem_cons, List.not_mem_nil, or_false] at hx
    rcases hx with rfl | rfl | rfl
    · exact bent_pair hRk (nk_tup (nks_drop hek 1) (by simp; omega)) hRl (by simp [decs]; omega)
    · exact bent_pair (nk_tup (nks_append hdk rfl) (by simp; omega)) hFk (by simp [decs]; omega) hFl
    · exact bent_pair rfl rfl (by simp [decs]) (by simp [decs])) (by simp)
  have hs9 := hs8.mono fr9
  obtain ⟨F10, e10, v10, L10, fr10⟩ := L9.app (by simp) (x := .tup [.tup (dd ++ [.int 0]), .tup (ee ++ [.non])]) (bent_pair (nk_tup (nks_append hdk rfl) (by simp; omega)) (nk_tup (nks_append hek rfl) (by simp; omega)) (by simp [decs]; omega) (by simp [decs]; omega))
  have q1 := hs8.lt
  have hs10 := hs9.other fr10 (by omega)
  obtain ⟨H6, F11, m9, m10, L11, fr11, l11⟩ := L10.plus (by simp) (xs := [.tup [.tup (List.replicate 9 (.int 0)), .tup (List.replicate 9 .non)], .tup [.tup (List.replicate 5 (.int 0)), .tup (List.replicate 5 .non)], .tup [.tup ([.int 1] ++ List.replicate 5 (.int 0)), .tup ([.non] ++ List.replicate 5 (.tup [.int 0, .int 0]))]]) (by
    intro x hx
    simp only [List.mem_cons, List.not_mem_nil, or_false] at hx
    rcases hx with rfl | rfl | rfl <;> exact bent_pair rfl rfl (by simp [decs]) (by simp [decs])) (by simp)
  have hs11 := hs10.mono fr11
  obtain ⟨H7, F12, m11, m12, L12, fr12, l12⟩ := L11.plus (by simp) (xs := [.tup [.tup [.int 2, .int 2], .tup [.tup [.int 1, .int 0], .tup [.int 0, .int 1]]], .tup [.tup [], .tup []], .tup [.tup [.int 2], .tup [.non]]]) (by
    intro x hx
    simp only [List.mem_cons, List.not_mem_nil, or_false] at hx
    rcases hx with rfl | rfl | rfl <;> exact bent_pair rfl rfl (by simp [decs]) (by simp [decs])) (by simp)
  have hs12 := hs11.mono fr12
  obtain ⟨F13, e13, v13, L13, fr13⟩ := L12.app (by simp) (x := .tup [.tup ([.int 4] ++ List.replicate 7 (.int 0)), .tup ([.non] ++ List.replicate 5 (.tup [.int 0, .int 3]) ++ List.replicate 2 .non)]) (bent_pair rfl rfl (by simp [decs]) (by simp [decs]))
  have q2 := hs11.lt
  have hs13 := hs12.other fr13 (by omega)
  obtain ⟨ds, d1, d2, d3, d4⟩ := L13
  obtain ⟨x, F14, e14, hx, hs14, fr14⟩ := law_one_run hP.law_one hm hs13 (items_ref' d1) (by intro z; cases z; omega) d4 (by simp at d3; omega)
  refine ⟨x, F14, ?_, d2 x hx, hs14, ?_⟩
  · have r0 : ∀ (F : FH) (j : Int), 2 ≤ j → j ≤ 1000 → binop .mul (.tup [.int 0]) (.int j) F = .ok (.tup (List.replicate j.toNat (.int 0))) F := fun F j h1 h2 => tmul _ h1 h2
    have r9 : ∀ F, binop .mul (.tup [.int 0]) (.int 9) F = .ok (.tup (List.replicate 9 (.int 0))) F := fun F => r0 F 9 (by decide) (by decide)
    have r25 : ∀ F, binop .mul (.tup [.int 0]) (.int 25) F = .ok (.tup (List.replicate 25 (.int 0))) F := fun F => r0 F 25 (by decide) (by decide)
    have r5 : ∀ F, binop .mul (.tup [.int 0]) (.int 5) F = .ok (.tup (List.replicate 5 (.int 0))) F := fun F => r0 F 5 (by decide) (by decide)
    have r7 : ∀ F, binop .mul (.tup [.int 0]) (.int 7) F = .ok (.tup (List.replicate 7 (.int 0))) F := fun F => r0 F 7 (by decide) (by decide)
    have p9 : ∀ F, binop .mul (.tup [.non]) (.int 9) F = .ok (.tup (List.replicate 9 .non)) F := fun F => tmul _ (by decide) (by decide)
    have p5 : ∀ F, binop .mul (.tup [.non]) (.int 5) F = .ok (.tup (List.replicate 5 .non)) F := fun F => tmul _ (by decide) (by decide)
    have p2 : ∀ F, binop .mul (.tup [.non]) (.int 2) F = .ok (.tup (List.replicate 2 .non)) F := fun F => tmul _ (by decide) (by decide)
    have u5 : ∀ F, binop .mul (.tup [.tup [.int 0, .int 0]]) (.int 5) F = .ok (.tup (List.replicate 5 (.tup [.int 0, .int 0]))) F := fun F => tmul _ (by decide) (by decide)
    have u3 : ∀ F, binop .mul (.tup [.tup [.int 0, .int 3]]) (.int 5) F = .ok (.tup (List.replicate 5 (.tup [.int 0, .int 3]))) F := fun F => tmul _ (by decide) (by decide)
    have nt : ∀ (l : List D) (F : FH), l.length ≤ 20 → newT l F = .ok (.tup l) F := fun l F h => newT_ok F (by omega)
    simp [-List.reduceReplicate] at t1 t2 m1 m2 m3 t3 t4 m4 m5 m6 m7 m8 ta tb tc e10 m9 m10 m11 m12 e13
    rw [show (List.map some [SV.d (.ref s), .d (encC rs f)] ++ List.replicate (fd_law_commons_bent.nl - [SV.d (.ref s), .d (encC rs f)].length) none) = [some (.d (.ref s)), some (.d (encC rs f)), none, none, none, none, none, none] from rfl]
    simp [-List.reduceReplicate, oint, fd_law_commons_bent, encC, bindT, setAll, hlr, hmx, e1, n1, e2, hW, n3, hB, n4, v5, e5, sl1, sl2, t1, t2, m1, m2, m3, sl3, sl4, e7, t3, t4, m4, m5, m6, sl5, ta, tb, tc, r9, r25, r5, r7, p9, p5, p2, u5, u3, m7, m8, v10, e10, m9, m10, m11, m12, v13, e13, e14, nt]
  · have a2 := (fr1.trans fr2).trans (fr23.trans fr34).mono
    have a5 := a2.later fr5 (by have := fr1.len; have := fr2.len; omega)
    have a9 := (((a5.trans fr6.mono).trans fr7).trans fr8.mono).trans fr9.mono
    have b8 := (((a5.trans fr6.mono).trans fr7).trans fr8.mono).len
    have a10 := a9.later fr10 (by omega)
    have a11 := a10.trans fr11.mono
    have a12 := a11.trans fr12.mono
    have b11 := a11.len
    exact (a12.later fr13 (by omega)).trans fr14
end
end Fv
set_option Elab.async false
set_option linter.all false
set_option maxRecDepth 100000
set_option maxHeartbeats 0

namespace K00
open PySem PySem.Spec PyProof.Rows L2 Fv
def top (i : Nat) : Stmt := PySem.Challenge.pw_squaresneeded_k00_commons_squares_and_wh.main.body.getD i (.Pass ⟨0, 0, 0, 0⟩)
def dd (x : PySem.Str) (i : Nat) : He.DefD := ⟨(x, none), x, x, defArgs (top i), defBody (top i), defScope (top i), [], []⟩
def e_is_whole : Dn := ⟨"is_whole", fd_is_whole, ["value"], false⟩
def d_is_whole : He.DefD := dd "is_whole" 9
def e_made_rooms : Dn := ⟨"made_rooms", fd_made_rooms, ["thing", "x", "many"], false⟩
def d_made_rooms : He.DefD := dd "made_rooms" 10
def e_is_rooms : Dn := ⟨"is_rooms", fd_is_rooms, ["thing", "many"], false⟩
def d_is_rooms : He.DefD := dd "is_rooms" 11
def e_is_place : Dn := ⟨"is_place", fd_is_place, ["rooms", "x", "place", "holder", "room"], false⟩
def d_is_place : He.DefD := dd "is_place" 13
def e_lies_in_itself : Dn := ⟨"lies_in_itself", fd_lies_in_itself, ["forest", "x", "here", "_"], false⟩
def d_lies_in_itself : He.DefD := dd "lies_in_itself" 14
def e_first_bad : Dn := ⟨"first_bad", fd_first_bad, ["rooms", "forest", "x", "place"], false⟩
def d_first_bad : He.DefD := dd "first_bad" 15
def e_first_ring : Dn := ⟨"first_ring", fd_first_ring, ["forest", "x"], false⟩
def d_first_ring : He.DefD := dd "first_ring" 16
def e_made_forest : Dn := ⟨"made_forest", fd_made_forest, ["rooms", "forest", "bad", "ring", "place"], false⟩
def d_made_forest : He.DefD := dd "made_forest" 17
def e_is_forest : Dn := ⟨"is_forest", fd_is_forest, ["rooms", "forest"], false⟩
def d_is_forest : He.DefD := dd "is_forest" 18
def e_room_way : Dn := ⟨"room_way", fd_room_way, ["forest", "x", "y", "place"], false⟩
def d_room_way : He.DefD := dd "room_way" 19
def e_standing_in : Dn := ⟨"standing_in", fd_standing_in, ["forest", "x", "y", "room"], false⟩
def d_standing_in : He.DefD := dd "standing_in" 22
def e_is_pair : Dn := ⟨"is_pair", fd_is_pair, ["thing"], false⟩
def d_is_pair : He.DefD := dd "is_pair" 24
def e_place_key : Dn := ⟨"place_key", fd_place_key, ["place"], false⟩
def d_place_key : He.DefD := dd "place_key" 33
def e_places_with : Dn := ⟨"places_with", fd_places_with, ["forest", "least", "many", "place"], false⟩
def d_places_with : He.DefD := dd "places_with" 34
def e_want_uncrowded : Dn := ⟨"want_uncrowded", fd_want_uncrowded, ["forest", "crowds"], false⟩
def d_want_uncrowded : He.DefD := dd "want_uncrowded" 35
def e_made_commons : Dn := ⟨"made_commons", fd_made_commons, ["thing", "rooms", "forest"], false⟩
def d_made_commons : He.DefD := dd "made_commons" 36
def e_is_commons : Dn := ⟨"is_commons", fd_is_commons, ["thing"], false⟩
def d_is_commons : He.DefD := dd "is_commons" 37
def e_square_row : Dn := ⟨"square_row", fd_square_row, ["commons"], false⟩
def d_square_row : He.DefD := dd "square_row" 38
def e_stalls_in : Dn := ⟨"stalls_in", fd_stalls_in, ["commons", "place", "x", "here"], false⟩
def d_stalls_in : He.DefD := dd "stalls_in" 39
def e_is_square : Dn := ⟨"is_square", fd_is_square, ["commons", "square"], false⟩
def d_is_square : He.DefD := dd "is_square" 40
def e_want_square : Dn := ⟨"want_square", fd_want_square, ["commons", "square"], false⟩
def d_want_square : He.DefD := dd "want_square" 41
def e_squares : Dn := ⟨"squares", fd_squares, ["commons"], false⟩
def d_squares : He.DefD := dd "squares" 42
def e_stalls : Dn := ⟨"stalls", fd_stalls, ["commons", "square"], false⟩
def d_stalls : He.DefD := dd "stalls" 43
def e_settling_of : Dn := ⟨"settling_of", fd_settling_of, ["commons", "many", "pairs", "x", "y"], false⟩
def d_settling_of : He.DefD := dd "settling_of" 44
def e_settling : Dn := ⟨"settling", fd_settling, ["commons"], false⟩
def d_settling : He.DefD := dd "settling" 45
def e_law_is_whole : Dn := ⟨"_law_is_whole", fd_law_is_whole, ["thing"], false⟩
def d_law_is_whole : He.DefD := dd "_law_is_whole" 47
def e_law_number : Dn := ⟨"_law_number", fd_law_number, ["thing", "most"], false⟩
def d_law_number : He.DefD := dd "_law_number" 48
def e_law_pool : Dn := ⟨"_law_pool", fd_law_pool, ["script", "k", "cell", "big", "mixed"], false⟩
def d_law_pool : He.DefD := dd "_law_pool" 49
def e_law_take : Dn := ⟨"_law_take", fd_law_take, ["source", "top", "drawn"], false⟩
def d_law_take : He.DefD := dd "_law_take" 50
def e_law_one : Dn := ⟨"_law_one", fd_law_one, ["source", "things"], false⟩
def d_law_one : He.DefD := dd "_law_one" 51
def e_law_climb : Dn := ⟨"_law_climb", fd_law_climb, ["forest", "x", "turn", "found", "here"], false⟩
def d_law_climb : He.DefD := dd "_law_climb" 52
def e_law_standing : Dn := ⟨"_law_standing", fd_law_standing, ["forest", "x", "y", "holder", "room"], false⟩
def d_law_standing : He.DefD := dd "_law_standing" 53
def e_law_same : Dn := ⟨"_law_same", fd_law_same, ["told", "due", "at"], false⟩
def d_law_same : He.DefD := dd "_law_same" 54
def e_law_crowd_of : Dn := ⟨"_law_crowd_of", fd_law_crowd_of, ["forest", "place", "x"], false⟩
def d_law_crowd_of : He.DefD := dd "_law_crowd_of" 55
def e_law_commons_drawn : Dn := ⟨"_law_commons_drawn", fd_law_commons_drawn, ["source", "most", "many", "rooms", "forest", "x", "places", "y", "some", "near", "place", "i"], false⟩
def d_law_commons_drawn : He.DefD := dd "_law_commons_drawn" 56
def e_law_places_of : Dn := ⟨"_law_places_of", fd_law_places_of, ["commons", "found", "x", "i"], false⟩
def d_law_places_of : He.DefD := dd "_law_places_of" 57
def e_law_stalls_of : Dn := ⟨"_law_stalls_of", fd_law_stalls_of, ["commons", "square"], false⟩
def d_law_stalls_of : He.DefD := dd "_law_stalls_of" 58
def e_law_squares_of : Dn := ⟨"_law_squares_of", fd_law_squares_of, ["commons", "place"], false⟩
def d_law_squares_of : He.DefD := dd "_law_squares_of" 59
def e_law_settling_of : Dn := ⟨"_law_settling_of", fd_law_settling_of, ["commons", "found", "x", "y"], false⟩
def d_law_settling_of : He.DefD := dd "_law_settling_of" 60
def e_law_told_by : Dn := ⟨"_law_told_by", fd_law_told_by, ["deed_now", "refused_one"], false⟩
def d_law_told_by : He.DefD := dd "_law_told_by" 61
def e_law_gives : Dn := ⟨"_law_gives", fd_law_gives, ["deed_now", "owed"], false⟩
def d_law_gives : He.DefD := dd "_law_gives" 62
def e_law_refused_so : Dn := ⟨"_law_refused_so", fd_law_refused_so, ["deed_now", "owed", "heard"], false⟩
def d_law_refused_so : He.DefD := dd "_law_refused_so" 63
def e_law_rooms_fault : Dn := ⟨"_law_rooms_fault", fd_law_rooms_fault, ["item", "bad", "x"], false⟩
def d_law_rooms_fault : He.DefD := dd "_law_rooms_fault" 64
def e_law_forest_fault : Dn := ⟨"_law_forest_fault", fd_law_forest_fault, ["rooms_now", "forest", "x", "spot_now"], false⟩
def d_law_forest_fault : He.DefD := dd "_law_forest_fault" 65
def e_law_commons_fault : Dn := ⟨"_law_commons_fault", fd_law_commons_fault, ["item", "fault", "crowded", "rooms_now", "forest", "spot_now"], false⟩
def d_law_commons_fault : He.DefD := dd "_law_commons_fault" 66
def e_law_commons_bent : Dn := ⟨"_law_commons_bent", fd_law_commons_bent, ["source", "yard", "at", "bad", "wild", "some", "rooms_now", "forest"], false⟩
def d_law_commons_bent : He.DefD := dd "_law_commons_bent" 67
def e_law_told_right : Dn := ⟨"_law_told_right", fd_law_told_right, ["yard", "every", "square", "owed"], true⟩
def d_law_told_right : He.DefD := dd "_law_told_right" 68
def e_law_no_square : Dn := ⟨"_law_no_square", fd_law_no_square, ["source", "yard", "every", "some", "spot_now"], false⟩
def d_law_no_square : He.DefD := dd "_law_no_square" 69
def e_law_bent_right : Dn := ⟨"_law_bent_right", fd_law_bent_right, ["source", "item", "fault", "call"], true⟩
def d_law_bent_right : He.DefD := dd "_law_bent_right" 70
def fd_law : FD := ⟨["script"], 6,
  [.for_ (.nm 1) .range [(.int 4)] [.asg (.nm 2) (.call "_law_pool" [(.var 0), (.var 1)]), .asg (.nm 3) (.call "_law_commons_drawn" [(.var 2), (.int 8)]), .ite (.not (.call "_law_told_right" [(.var 3)])) [.ret (.bl false)] [], .for_ (.nm 4) .range [(.int 6)] [.ite (.not (.call "_law_bent_right" [(.var 2), (.call "_law_commons_bent" [(.var 2), (.var 3)])])) [.ret (.bl false)] [], .asg (.nm 5) (.call "_law_no_square" [(.var 2), (.var 3)]), .ite (.not (.callL "_law_refused_so" (.call "stalls" [(.var 3), (.var 5)]) [3, 5] [(.tup [(.str "NoSquare"), (.var 5)])])) [.ret (.bl false)] []]],
   .ret (.bl true)]⟩
def e_law : Dn := ⟨"law", fd_law, ["script", "round_at", "source", "yard", "tour", "odd"], true⟩
def d_law : He.DefD := dd "law" 71
def tb0 : List Dn := [e_is_whole, e_made_rooms, e_is_rooms, e_is_place, e_lies_in_itself, e_first_bad, e_first_ring, e_made_forest, e_is_forest, e_room_way, e_standing_in, e_is_pair, e_place_key, e_places_with, e_want_uncrowded]
def tb1 : List Dn := [e_made_commons, e_is_commons, e_square_row, e_stalls_in, e_is_square, e_want_square, e_squares, e_stalls, e_settling_of, e_settling, e_law_is_whole, e_law_number, e_law_pool, e_law_take, e_law_one]
def tb2 : List Dn := [e_law_climb, e_law_standing, e_law_same, e_law_crowd_of, e_law_commons_drawn, e_law_places_of, e_law_stalls_of, e_law_squares_of, e_law_settling_of, e_law_told_by, e_law_gives, e_law_refused_so, e_law_rooms_fault, e_law_forest_fault, e_law_commons_fault]
def tb3 : List Dn := [e_law_commons_bent, e_law_told_right, e_law_no_square, e_law_bent_right, e_law]
def tb : List Dn := tb0 ++ tb1 ++ tb2 ++ tb3
def fn0 : List He.DefD := [d_is_whole, d_made_rooms, d_is_rooms, d_is_place, d_lies_in_itself, d_first_bad, d_first_ring, d_made_forest, d_is_forest, d_room_way, d_standing_in, d_is_pair, d_place_key, d_places_with, d_want_uncrowded]
def fn1 : List He.DefD := [d_made_commons, d_is_commons, d_square_row, d_stalls_in, d_is_square, d_want_square, d_squares, d_stalls, d_settling_of, d_settling, d_law_is_whole, d_law_number, d_law_pool, d_law_take, d_law_one]
def fn2 : List He.DefD := [d_law_climb, d_law_standing, d_law_same, d_law_crowd_of, d_law_commons_drawn, d_law_places_of, d_law_stalls_of, d_law_squares_of, d_law_settling_of, d_law_told_by, d_law_gives, d_law_refused_so, d_law_rooms_fault, d_law_forest_fault, d_law_commons_fault]
def fn3 : List He.DefD := [d_law_commons_bent, d_law_told_right, d_law_no_square, d_law_bent_right, d_law]
def fn : List He.DefD := fn0 ++ fn1 ++ fn2 ++ fn3
def cs : List (String × D) := [("MOST_THINGS", .int 24), ("MOST_ROOMS", .int 4), ("APART", .tup [.str (so "apart"), .int 0]), ("MOST_SHARED", .int 8), ("MOST_STALLS", .int 4), ("LEAST_STALLS", .int 2)]
def exc : List String := ["Refused", "BadRooms", "BadForest", "Ring", "TooMany", "BadCommons", "Crowd", "NoSquare"]
def P : Pg := pgOf tb cs exc
theorem has_is_whole : Has_is_whole P := ⟨by kernel_rfl⟩
theorem has_made_rooms : Has_made_rooms P := ⟨by kernel_rfl, has_is_whole, by kernel_rfl, by kernel_rfl⟩
theorem has_is_rooms : Has_is_rooms P := ⟨by kernel_rfl, has_is_whole, by kernel_rfl, by kernel_rfl⟩
theorem has_is_place : Has_is_place P := ⟨by kernel_rfl, has_is_whole⟩
theorem has_lies_in_itself : Has_lies_in_itself P := ⟨by kernel_rfl⟩
theorem has_first_bad : Has_first_bad P := ⟨by kernel_rfl, has_is_place⟩
theorem has_first_ring : Has_first_ring P := ⟨by kernel_rfl, has_lies_in_itself⟩
theorem has_made_forest : Has_made_forest P := ⟨by kernel_rfl, has_made_rooms, has_first_bad, has_first_ring⟩
theorem has_is_forest : Has_is_forest P := ⟨by kernel_rfl, has_is_rooms, has_first_bad, has_first_ring⟩
theorem has_room_way : Has_room_way P := ⟨by kernel_rfl⟩
theorem has_standing_in : Has_standing_in P := ⟨by kernel_rfl, has_room_way, by kernel_rfl⟩
theorem has_is_pair : Has_is_pair P := ⟨by kernel_rfl⟩
theorem has_place_key : Has_place_key P := ⟨by kernel_rfl⟩
theorem has_places_with : Has_places_with P := ⟨by kernel_rfl, has_place_key⟩
theorem has_want_uncrowded : Has_want_uncrowded P := ⟨by kernel_rfl, has_places_with, by kernel_rfl⟩
theorem has_made_commons : Has_made_commons P := ⟨by kernel_rfl, has_made_rooms, has_made_forest, has_want_uncrowded, has_is_pair, by kernel_rfl⟩
theorem has_is_commons : Has_is_commons P := ⟨by kernel_rfl, has_is_forest, has_is_pair, has_is_rooms, has_places_with, by kernel_rfl, by kernel_rfl⟩
theorem has_square_row : Has_square_row P := ⟨by kernel_rfl, has_places_with, by kernel_rfl⟩
theorem has_stalls_in : Has_stalls_in P := ⟨by kernel_rfl⟩
theorem has_is_square : Has_is_square P := ⟨by kernel_rfl, has_square_row, has_is_pair, has_is_whole⟩
theorem has_want_square : Has_want_square P := ⟨by kernel_rfl, has_is_square⟩
theorem has_squares : Has_squares P := ⟨by kernel_rfl, has_square_row, has_made_commons⟩
theorem has_stalls : Has_stalls P := ⟨by kernel_rfl, has_made_commons, has_want_square, has_stalls_in⟩
theorem has_settling_of : Has_settling_of P := ⟨by kernel_rfl, has_standing_in⟩
theorem has_settling : Has_settling P := ⟨by kernel_rfl, has_settling_of, has_made_commons⟩
theorem has_law_is_whole : Has_law_is_whole P := ⟨by kernel_rfl⟩
theorem has_law_number : Has_law_number P := ⟨by kernel_rfl⟩
theorem has_law_pool : Has_law_pool P := ⟨by kernel_rfl⟩
theorem has_law_take : Has_law_take P := ⟨by kernel_rfl⟩
theorem has_law_one : Has_law_one P := ⟨by kernel_rfl, has_law_take⟩
theorem has_law_climb : Has_law_climb P := ⟨by kernel_rfl⟩
theorem has_law_standing : Has_law_standing P := ⟨by kernel_rfl, has_law_climb⟩
theorem has_law_same : Has_law_same P := ⟨by kernel_rfl, has_law_is_whole⟩
theorem has_law_crowd_of : Has_law_crowd_of P := ⟨by kernel_rfl⟩
theorem has_law_commons_drawn : Has_law_commons_drawn P := ⟨by kernel_rfl, has_law_take, has_law_one, has_law_crowd_of⟩
theorem has_law_places_of : Has_law_places_of P := ⟨by kernel_rfl⟩
theorem has_law_stalls_of : Has_law_stalls_of P := ⟨by kernel_rfl, has_law_crowd_of⟩
theorem has_law_squares_of : Has_law_squares_of P := ⟨by kernel_rfl, has_law_places_of, has_law_crowd_of⟩
theorem has_law_settling_of : Has_law_settling_of P := ⟨by kernel_rfl, has_law_standing⟩
theorem has_law_told_by : Has_law_told_by P := ⟨by kernel_rfl⟩
theorem has_law_gives : Has_law_gives P := ⟨by kernel_rfl, has_law_same, has_law_told_by⟩
theorem has_law_refused_so : Has_law_refused_so P := ⟨by kernel_rfl, has_law_told_by⟩
theorem has_law_rooms_fault : Has_law_rooms_fault P := ⟨by kernel_rfl, has_law_number⟩
theorem has_law_forest_fault : Has_law_forest_fault P := ⟨by kernel_rfl, has_law_number, has_law_climb⟩
theorem has_law_commons_fault : Has_law_commons_fault P := ⟨by kernel_rfl, has_law_rooms_fault, has_law_forest_fault, has_law_places_of, has_law_crowd_of⟩
theorem has_law_commons_bent : Has_law_commons_bent P := ⟨by kernel_rfl, has_law_take, has_law_one⟩
theorem has_law_told_right : Has_law_told_right P := ⟨by kernel_rfl, has_law_squares_of, has_law_settling_of, has_law_gives, has_law_stalls_of, has_settling, has_made_commons, has_is_commons, has_squares, has_stalls⟩
theorem has_law_no_square : Has_law_no_square P := ⟨by kernel_rfl, has_law_squares_of, has_law_one, has_law_places_of⟩
theorem has_law_bent_right : Has_law_bent_right P := ⟨by kernel_rfl, has_law_commons_fault, has_made_commons, has_squares, has_settling, has_law_gives, has_law_told_right, has_law_refused_so, has_stalls, has_is_commons⟩
end K00
set_option Elab.async false
set_option linter.all false
set_option maxRecDepth 100000
set_option maxHeartbeats 0

namespace K00
open PySem PySem.Spec PyProof.Rows L2 Fv
theorem hckB : (tb.length == fn.length && (tb.zip fn).all fun p => entB P p.2 p.1) = true := by decide +kernel

def lo0 : List PySem.Str := ["is_whole", "made_rooms", "is_rooms", "is_place", "lies_in_itself", "first_bad", "first_ring", "made_forest", "is_forest", "room_way", "standing_in", "is_pair", "place_key", "places_with", "want_uncrowded", "made_commons", "is_commons", "square_row", "stalls_in", "is_square"]
def lo1 : List PySem.Str := ["want_square", "squares", "stalls", "settling_of", "settling", "_law_is_whole", "_law_number", "_law_pool", "_law_take", "_law_one", "_law_climb", "_law_standing", "_law_same", "_law_crowd_of", "_law_commons_drawn", "_law_places_of", "_law_stalls_of", "_law_squares_of", "_law_settling_of", "_law_told_by"]
def lo2 : List PySem.Str := ["_law_gives", "_law_refused_so", "_law_rooms_fault", "_law_forest_fault", "_law_commons_fault", "_law_commons_bent", "_law_told_right", "_law_no_square", "_law_bent_right", "Refused", "BadRooms", "BadForest", "Ring", "TooMany", "BadCommons", "Crowd", "NoSquare", "MOST_THINGS", "MOST_ROOMS", "APART"]
def lo3 : List PySem.Str := ["MOST_SHARED", "MOST_STALLS", "LEAST_STALLS"]
abbrev loose : List PySem.Str := lo0 ++ lo1 ++ lo2 ++ lo3
abbrev R : PySem.W.OpenRow := PySem.W.OpenLaw.row PySem.Challenge.rw_squaresneeded_k00_commons_squares_and_wh
abbrev file : PySem.Str := PySem.Challenge.pw_squaresneeded_k00_commons_squares_and_wh.main.file
abbrev hk : PySem.W.Hook := hookY 6 (faOf tb exc) fn (tfOf tb) (exOf file tb cs exc)
def ob (s : PySem.W.SharedT) : He.AlX := obsY 6 (faOf tb exc) fn (tfOf tb) (exOf file tb cs exc) (HandSHeadRun.getT s)
theorem ob_eq (s : PySem.W.SharedT) : ob s = hk.obs s.abs := obsY_eq (HandSHeadRun.getT_eq s)
theorem run (w : World) : HandSHeadRun.RunEq R (PySem.W.view R.prog [71]) hk ob 8000 loose w := by
  intro os
  kernel_rfl
theorem hck : ∀ e ∈ tb, ∃ d ∈ fn, entB (pgOf tb cs exc) d e = true := hck_of hckB
end K00
set_option Elab.async false
set_option linter.all false
set_option maxRecDepth 100000
namespace K00
open PySem Fv
theorem laterN {s : Nat} {F0 F F' : FH} (h : Fr none F0 F) (h' : Fr (some s) F F') (hs : F0.length ≤ s) : Fr none F0 F' := ⟨Nat.le_trans h.len h'.len, fun k o e _ => h'.at_ k o (h.get e) (by
  have := (List.getElem?_eq_some_iff.mp e).1
  intro z
  cases z
  omega)⟩
abbrev told : List String := ["BadRooms", "TooMany", "BadForest", "Ring", "BadCommons", "Crowd", "NoSquare"]
theorem told_eq : P.fn "_law_told_by" = some (toldFD told) := by kernel_rfl
theorem law_run {n : Nat} (hn : 20 ≤ n) (ns : List Int) (d : D) (F : FH) (hd : lis F d = some (ns.map .int)) : ∃ F', Fv.run P n (.fn "law") [.d d] F = .ok (.bl true) F' := by
  obtain ⟨m, rfl⟩ : ∃ m, n = m + 4 := ⟨n - 4, by omega⟩
  rw [run_fn (fd := fd_law) (by kernel_rfl) _ _ rfl]
  have hw4 : ∀ F, walk .range [.int 4] F = some (rng 0 4, []) := fun F => walk_range1 F (j := 4) (by omega)
  have hw6 : ∀ F, walk .range [.int 6] F = some (rng 0 6, []) := fun F => walk_range1 F (j := 6) (by omega)
  simp [fd_law, hw4]
  generalize e : forL _ _ _ _ _ = r
  have hz := forL_ix e (J := fun k ls F' => Fr none F F' ∧ ∃ a b c e f, ls = [some (.d d), a, b, c, e, f]) (Z := fun r => ∃ ls F', r = .ok (.nx ls) F') ⟨.refl _ _, none, none, none, none, none, rfl⟩ ?_ ?_
  · obtain ⟨ls, F', rfl⟩ := hz
    exact ⟨F', by simp⟩
  · rintro k y ls F0 hy ⟨fr0, a, b, c, e', f', rfl⟩
    have hyk := rngGet.mp hy
    have hk : k < 4 := by have := hyk.1; omega
    have hy2 : y = .int (k : Nat) := by rw [hyk.2]; congr 1; omega
    subst hy2
    clear hyk hy
    obtain ⟨s, F1, e1, hs1, fr1, hsl⟩ := law_pool_run has_law_pool (n := m + 3) (by omega) (fr0.lis hd) k (by omega)
    obtain ⟨rs, f, F2, e2, hc, hs2, fr2⟩ := law_commons_drawn_run has_law_commons_drawn (n := m + 3) (by omega) hs1 (most := 8) (by omega) (by omega)
    have e2' : Fv.run P (m + 3) (.fn "_law_commons_drawn") [.d (.ref s), .d (.int 8)] F1 = .ok (encC rs f) F2 := e2
    obtain ⟨F3, e3, fr3⟩ := law_told_right_run has_law_told_right told_eq (n := m + 3) (by omega) hc F2
    have hs3 := hs2.mono fr3
    have fr03 : Fr none F F3 := (laterN (fr0.trans fr1) fr2 (by have := fr0.len; omega)).trans fr3
    generalize eb : fbody _ _ _ _ _ _ _ = rb
    simp [fbody, bindT, e1, e2', e3, hw6] at eb
    generalize e5 : forL _ _ _ _ _ = r5 at eb
    have hz5 := forL_ix e5 (J := fun j ls F' => Fr (some s) F3 F' ∧ Src F' s ∧ ∃ a b, ls = [some (.d d), some (.d (.int k)), some (.d (.ref s)), some (.d (encC rs f)), a, b]) (Z := fun r => ∃ a b F', r = .ok (.nx [some (.d d), some (.d (.int k)), some (.d (.ref s)), some (.d (encC rs f)), a, b]) F' ∧ Fr (some s) F3 F') ⟨.refl _ _, hs3, e', f', rfl⟩ ?_ ?_
    · obtain ⟨a, b, F4, rfl, fr4⟩ := hz5
      exact turn_to ⟨laterN fr03 fr4 (by have := fr0.len; omega), some (.d (.int k)), some (.d (.ref s)), some (.d (encC rs f)), a, b, rfl⟩ (by rw [← eb]; simp)
    · rintro j y ls F4 hy ⟨fr4, hs4, a, b, rfl⟩
      obtain ⟨x, F5, e6, hx, hs5, fr5⟩ := law_commons_bent_run has_law_commons_bent (n := m + 3) (by omega) hc hs4
      obtain ⟨F6, e7, fr6⟩ := law_bent_right_run has_law_bent_right told_eq (by decide) (by decide) (n := m + 3) (by omega) hx.1 hx.2 (.ref s) F5
      obtain ⟨o, F7, e8, ho, hs7, fr7⟩ := law_no_square_run has_law_no_square (n := m + 3) (by omega) hc (hs5.mono fr6)
      obtain ⟨F8, e9, fr8⟩ := stalls_no has_stalls (n := m) (by omega) hc ho.pl ho.no F7
      have r9 := refused_run (n := m) (P := P) (by kernel_rfl) told_eq (by decide) (b := .call "stalls" [(.var 3), (.var 5)]) (cap := [none, none, none, some (encC rs f), none, some o]) (F := F7) (F' := F8) (c := "NoSquare") (w := o) (by decide) ho.pl ho.le ho.say (by simp [e9])
      refine turn_to ⟨((fr4.trans fr5).trans fr6.mono).trans (fr7.trans fr8.mono), hs7.mono fr8, some (.d y), some (.d o), rfl⟩ ?_
      simp [fbody, bindT, e6, e7, e8, capL_eq, capFrom, r9]
    · rintro ls F4 ⟨fr4, hs4, a, b, rfl⟩
      exact ⟨a, b, F4, rfl, fr4⟩
  · rintro ls F' ⟨fr, _⟩
    exact ⟨_, F', rfl⟩
theorem hrun : RunT (pgOf tb cs exc) 60 := fun ns d F _ _ h => by
  refine law_run (by omega) ns d F ?_
  rcases h with ⟨rfl, rfl⟩ | ⟨rfl, rfl⟩
  · rfl
  · rfl
end K00
set_option Elab.async false
set_option linter.all false
set_option maxRecDepth 100000
set_option maxHeartbeats 0

open PySem PySem.W PySem.Calls PyProof.Rows
theorem PySem.Challenge.cw_squaresneeded_k00_commons_squares_and_wh_holds : PySem.Challenge.rw_squaresneeded_k00_commons_squares_and_wh.Holds := by
  w_on; o_law
  refine HandSHeadRun.head_any (r := OpenLaw.row PySem.Challenge.rw_squaresneeded_k00_commons_squares_and_wh) (q := view (OpenLaw.row PySem.Challenge.rw_squaresneeded_k00_commons_squares_and_wh).prog [71]) (H := K00.hk) (ob := K00.ob) (M := 8000) (loose := K00.loose) (d := HandSHeadRun.topDef (OpenLaw.row PySem.Challenge.rw_squaresneeded_k00_commons_squares_and_wh).prog 71) (kwd := []) K00.ob_eq
    (by kernel_rfl) (fun s => by kernel_rfl) K00.run (by kernel_rfl) (by kernel_rfl) (by kernel_rfl) (by rfl) (by first | assumption | decide +kernel) (by decide +kernel) ⟨rfl, rfl, rfl, rfl, rfl, by decide +kernel⟩ ?hw ?hc
  case hw => w_witness2
  case hc =>
    refine Fv.walk_G (l := PySem.Challenge.rw_squaresneeded_k00_commons_squares_and_wh) (k := 60) rfl (by kernel_rfl) ⟨⟨rfl, by decide, by decide⟩, rfl⟩ ?F
    intro w mg fa h Y G hmg0
    obtain ⟨K, KX, c⟩ := Y
    have hmg : mg ("law" : PySem.Str) = some (.ref fa) := by
      have e : (HandSHeadRun.topDef (OpenLaw.row PySem.Challenge.rw_squaresneeded_k00_commons_squares_and_wh).prog 71).name = ("law" : PySem.Str) := by kernel_rfl
      rw [← e]
      exact hmg0
    exact ⟨K, KX, Fv.law_at (n := 60) (fd := K00.fd_law) K00.hck c KX G (by kernel_rfl) (by first | rfl | kernel_rfl | decide +kernel) rfl hmg K00.hrun⟩
