import PyProof.Rows.All
import Wide.All
import OpenK.AllK
import Wide.FinOn
import HandS.ForMost
import HandS.ForExc
import HandS.Walk
import HandS.IsInst
import HandS.Wide
import HandS.Flow
import HandS.TupAny
import HandS.ExcField
import HandS.ExcIs
import HandS.Deep
import HandS.TupMul
import HandS.Conv
import HandS.SortInts
import HandS.Zip
import KE.KExcIs
import HandS.Defaults
import HandS.Ends
import HandS.HeadEnd
import KE.KExcSuper
import KE.KSuper
import PyProof.FString
import PyProof.FString4
import HandS.FStr
import HandS.Words
import HandS.Head0
import HandS.Head1
import HandS.Head2
import HandS.HeadHook1
import HandS.HeadHook2
import PySem.Challenge.RW_reelhouse_k02_unrolled_titles
set_option Elab.async false
set_option linter.all false
set_option maxRecDepth 100000
set_option maxHeartbeats 4000000
namespace Z
open PySem PySem.Spec PyProof.Rows L2

/-- a def's promise where no repr is under way -/
structure FnG (P : Program) (w : World) (K : PySem.W.Frag) (mg : Str → Option Value) (base : Heap) (k : Nat) (f : Addr) (fd : FuncData) (ps : List Str) (sp : Sp) : Prop where
  len : ∀ vs H Q E, sp vs H Q E → vs.length = ps.length
  go : ∀ (A : Around) (outer : List Env) (s : Shared) (H : Hp) (args : Args) (us : List Value) (vs : List V) (Q : VK) (E : XK), A.guards = some [] → Room k A → Env0 P w K mg base A outer s H →
    BindsTo s fd args (ps.zip us) → Vals vs us → sp vs H Q E → codeAny (model P w) A (.call (.ref f) args) (CR (L2.CX P w) outer P w H s Q E) s

section
variable {P : Program} {w : World} {K : PySem.W.Frag} {mg : Str → Option Value} {base : Heap} {f : Addr} {fd : FuncData} {ps : List Str} {sp : Sp} {j k : Nat}
theorem FnG.mono (F : FnG P w K mg base j f fd ps sp) (h : j ≤ k) : FnG P w K mg base k f fd ps sp :=
  ⟨F.len, fun A o s H a us vs Q E g r => F.go A o s H a us vs Q E g (r.mono h)⟩
theorem FnG.imp {sp' : Sp} (F : FnG P w K mg base k f fd ps sp) (h : ∀ vs H Q E, sp' vs H Q E → sp vs H Q E) : FnG P w K mg base k f fd ps sp' :=
  ⟨fun vs H Q E q => F.len vs H Q E (h _ _ _ _ q), fun A o s H a us vs Q E g r e b v q => F.go A o s H a us vs Q E g r e b v (h _ _ _ _ q)⟩

theorem FnG.of {name qual : Str} {params : Arguments} {body : List Stmt} {scope : Scope} {dV kV doc pm cdv ct oc : Value} {an od : Option Addr} {osl : Array (Option Value)} {N : List Str}
    (lk : K.lookup f = some ⟨oc, od, .func (PySem.W.fnOf name qual params body scope dV kV doc pm an cdv ct), osl⟩) (hc : PySem.W.codeIn K cdv qual = true) (S : FnScope N ps scope) (len : ∀ vs H Q E, sp vs H Q E → vs.length = ps.length)
    (hb : ∀ (A : Around) (outer : List Env) (s : Shared) (H : Hp) (vs : List V) (Q : VK) (E : XK), A.guards = some [] → Room k (A.deeper (envOfC qual scope s.heap.objs.size f cdv)) → sp vs H Q E →
      ∃ t, PSs (cxOf (L2.CX P w) P w K mg base N qual scope f cdv A outer s H E) body t ∧ t { nx := fun _ H' => Q .non H', rt := Q } (start N vs) H) :
    FnG P w K mg base (k + 1) f (PySem.W.fnOf name qual params body scope dV kV doc pm an cdv ct) ps sp := by
  constructor
  · exact len
  intro A outer s H args us vs Q E hg hr e0 hbd rv hsp
  have old : ∀ b o, base.get? b = some o → s.heap.get? b = some o := fun b o e => (e0.bs b o e).1
  have KX := e0.mod.kin.keeps old
  apply codeAny_call_function hr.depth (KX _ _ lk) rfl S.co S.gen rfl (PySem.W.codeRec_of KX hc)
  apply hbd
  refine wpAny_newFunctionEnv_cells S.kind (fun y hy => ?_) (fun env he s1 x => ?_)
  · rcases S.par y.1 (List.of_mem_zip (show (y.1, y.2) ∈ ps.zip us from hy)).1 with q | q
    · exact .inl q
    · exact .inr ⟨q, PySem.W.cellsFrom_some _ _ _ (.inl q)⟩
  · cases he
    refine ⟨(e0.mod.nolimit.keeps old).keeps x.toInCall.keep, codeAny_func ?_⟩
    obtain ⟨t, ht, hq⟩ := hb A outer s H vs Q E hg (hr.deeper _) hsp
    have I := inv_start (CX := L2.CX P w) (cd := cdv) (E := E) S hr.hd e0 (len _ _ _ _ hsp) rv x
    refine wpAny_mono (ht.run [] s1 _ H _ I hq) (fun fl s' hs => ?_) (fun e s' hs => hs)
    cases fl with
    | next => obtain ⟨σ', H', J, q⟩ := hs; exact ⟨V.non, H', J.os, J.bare, J.base, J.hok, rfl, q⟩
    | ret u => obtain ⟨v, σ', H', J, rv', q⟩ := hs; exact ⟨v, H', J.os, J.bare, J.base, J.hok, rv', q⟩
    | brk => obtain ⟨_, _, _, q⟩ := hs; exact q.elim
    | cont => obtain ⟨_, _, _, q⟩ := hs; exact q.elim
end

section
variable {X : Cx} {k : Nat} {f : Addr} {fd : FuncData} {ps : List Str} {sp : Sp} {W : WX} {x : Str} {p pos : Pos} {e : Expr} {es : List Expr} {t : TA}
theorem run_fnG {pins : List (Addr × Obj)} {σ : L2.St} {H : Hp} {s : Shared} {Q : VK} {us : List Value} {vs : List V} (F : FnG X.prog X.w X.K X.mg X.base k f fd ps sp) (hg : X.A.guards = some []) (hr : Room k X.A) (hb : Binds X.K fd ps []) (tk : Takes X W)
    (I : Inv X pins σ H s) (r : Vals vs us) (h : sp vs H Q (fun c d H' => W c d σ H')) : wpAny (model X.prog X.w) X.A (call (.ref f) us) (EP X pins σ Q) X.xe s := by
  have b := hb s us I.kIn (by rw [List.append_nil, ← r.length]; exact F.len _ _ _ _ h)
  rw [List.append_nil] at b
  apply wpAny_call
  refine codeAny_mono (F.go X.A X.stack s H ⟨us, []⟩ us vs Q _ hg hr I.env0 b r h) ?_
  intro res s' hq
  cases res with
  | error e => exact passAt tk σ pins H s e s' I hq
  | ok fl =>
    cases fl with
    | ret u => exact I.after hq
    | next => exact hq.elim
    | brk => exact hq.elim
    | cont => exact hq.elim
theorem pe_callG (F : FnG X.prog X.w X.K X.mg X.base k f fd ps sp) (hg : X.A.guards = some []) (hr : Room k X.A) (gl : Gl X x) (hm : X.mg x = some (.ref f)) (hk : PySem.W.keepIn X.K (.ref f) = true) (hb : Binds X.K fd ps []) (tk : Takes X W)
    (ha : PA X (e :: es) t) (hdb : (x == ("__debug__" : Str)) = false) (he : starEach (e :: es) X.env = (false, eval e X.env) :: starEach es X.env) (hpl : (backTo pos (starEach es X.env)).any (·.1) = false) :
    PE X (.Call (.Name x p) (e :: es) [] pos) (tCallS sp (fun σ c d H => W c d σ H) t) := by
  constructor
  intro pins s σ H Q I h
  apply wpAny_Call_Name_kw
  apply ld_glob I gl hm _ hdb
  refine PySem.W.callWith_K (h₀ := X.base) I.ok.mod.kin hk ?_ he hpl
  refine thn (ha.run pos pins s σ H _ I h) ?_
  intro us s1 hh
  obtain ⟨vs, H1, I1, r, q⟩ := hh
  exact ⟨I1.kIn, run_fnG F hg hr hb tk I1 r q⟩
theorem pe_callG0 (F : FnG X.prog X.w X.K X.mg X.base k f fd ps sp) (hg : X.A.guards = some []) (hr : Room k X.A) (gl : Gl X x) (hm : X.mg x = some (.ref f)) (hk : PySem.W.keepIn X.K (.ref f) = true) (hb : Binds X.K fd ps []) (tk : Takes X W)
    (hdb : (x == ("__debug__" : Str)) = false) : PE X (.Call (.Name x p) [] [] pos) (tCallS sp (fun σ c d H => W c d σ H) tNil) := by
  constructor
  intro pins s σ H Q I h
  apply wpAny_Call_Name_kw
  apply ld_glob I gl hm _ hdb
  exact PySem.W.callWith_K0 I.kIn hk (run_fnG (us := []) F hg hr hb tk I .nil h)
end
end Z

set_option Elab.async false
set_option linter.all false
set_option maxRecDepth 100000
set_option maxHeartbeats 4000000
namespace Z
open PySem PySem.Spec PyProof.Rows L2

/-! ## values, slots, results -/
abbrev D := PyData
inductive Sl where
  | un | fz (d : D) | ow (d : D) | pn (d : D) | er (c : Nat) (d : D)
abbrev En := List Sl
inductive R where
  | fr (d : D) | nw (d : D)
def R.d : R → D
  | .fr d => d
  | .nw d => d
def R.sl : R → Sl
  | .fr d => .fz d
  | .nw d => .ow d
inductive Ou (α : Type) where
  | ok (a : α) (n : En) | ex (c : Nat) (d : D) (n : En) | st
@[reducible] def Ou.bd {α β : Type} (m : Ou α) (k : α → En → Ou β) : Ou β := match m with
  | .ok a n => k a n
  | .ex c d n => .ex c d n
  | .st => .st
/-- what a def gives: its value, what its owned parameters hold behind it -/
inductive Rt where
  | ret (r : R) (ps : List D) | ex (c : Nat) (d : D) (ps : List D) | st
abbrev Fm := List Sl → Rt
abbrev Tb := Nat → Option (Nat × Fm)

inductive BOp where
  | add | sub | mul | fdiv | mod | pow
  deriving DecidableEq
inductive COp where
  | eq | ne | lt | le | gt | ge | is | isn | isin | nin
  deriving DecidableEq
inductive Ty where
  | int | bool | tuple | list | str | none | dict
  deriving DecidableEq
inductive Op where
  | bin (o : BOp) | neg | cmp (o : COp) | tup | lst | len | isi (t : Ty) | all | any | tupOf | lstOf | lstRng | abs | int1 | min2 | max2 | sum | sorted | repr | str1 | idx | slc (lo hi : Bool) | rev | minL | maxL
  deriving DecidableEq

def dbl (b : Bool) : R := .fr (.bool b)
def dint (i : Int) : R := .fr (.int i)
def smallI (i : Int) : Bool := decide (-(2 ^ 64) < i ∧ i < 2 ^ 64)
def rngOk (i : Int) : Bool := decide (-(2 ^ 62) ≤ i ∧ i < 2 ^ 62)
def fitL (n : Nat) : Bool := decide (n ≤ sizeLine)

def binD : BOp → D → D → Option R
  | .add, .int i, .int j => some (dint (i + j))
  | .add, .str x, .str y => if fitL (x.length + y.length) then some (.fr (.str (x ++ y))) else none
  | .add, .tuple xs, .tuple ys => if fitL (xs.length + ys.length) then some (.fr (.tuple (xs ++ ys))) else none
  | .add, .list xs, .list ys => if fitL (xs.length + ys.length) then some (.nw (.list (xs ++ ys))) else none
  | .sub, .int i, .int j => some (dint (i - j))
  | .mul, .int i, .int j => if smallI i || smallI j then some (dint (i * j)) else none
  | .mul, .list xs, .int j => if rngOk j && fitL (xs.length * j.toNat) then some (.nw (.list (List.replicate j.toNat xs).flatten)) else none
  | .mul, .tuple xs, .int j => if !xs.isEmpty && decide (2 ≤ j ∧ j ≤ 1000 ∧ xs.length ≤ 1000) then some (.fr (.tuple (List.replicate j.toNat xs).flatten)) else none
  | .fdiv, .int i, .int j => if decide (j ≠ 0 ∧ j.natAbs < 1073741824) then some (dint (i.fdiv j)) else none
  | .mod, .int i, .int j => if decide (j ≠ 0) then some (dint (i.fmod j)) else none
  | .pow, .int i, .int j => if decide (0 ≤ j ∧ j ≤ 1000000 ∧ i.natAbs < 2 ^ 64) then some (dint (i ^ j.toNat)) else none
  | _, _, _ => none

def isNone : D → Bool
  | .none => true
  | _ => false
def cmpD : COp → D → D → Option Bool
  | .eq, x, y => if SeqAt.shaped x && SeqAt.shaped y then some (PyData.eqv x y) else none
  | .ne, x, y => if SeqAt.shaped x && SeqAt.shaped y then some (!PyData.eqv x y) else none
  | .lt, .int i, .int j => some (decide (i < j))
  | .le, .int i, .int j => some (decide (i ≤ j))
  | .gt, .int i, .int j => some (decide (j < i))
  | .ge, .int i, .int j => some (decide (j ≤ i))
  | .is, x, .none => some (isNone x)
  | .isn, x, .none => some (!isNone x)
  | .isin, x, .list ys => if SeqAt.shaped x && SeqAt.shaped (.list ys) then some (ys.any fun z => PyData.eqv z x) else none
  | .nin, x, .list ys => if SeqAt.shaped x && SeqAt.shaped (.list ys) then some (!ys.any fun z => PyData.eqv z x) else none
  | .isin, x, .tuple ys => if SeqAt.shaped x && SeqAt.shaped (.tuple ys) then some (ys.any fun z => PyData.eqv z x) else none
  | .nin, x, .tuple ys => if SeqAt.shaped x && SeqAt.shaped (.tuple ys) then some (!ys.any fun z => PyData.eqv z x) else none
  | _, _, _ => none

def isTy : Ty → D → Bool
  | .int, .int _ => true
  | .int, .bool _ => true
  | .bool, .bool _ => true
  | .tuple, .tuple _ => true
  | .list, .list _ => true
  | .str, .str _ => true
  | .dict, .dict _ => true
  | _, _ => false
def truD : D → Option Bool
  | .none => some false
  | .bool b => some b
  | .int i => some (i != 0)
  | .str x => if fitL x.length then some ((x.length : Int) != 0) else none
  | .list xs => some (!xs.isEmpty)
  | .tuple xs => some (!xs.isEmpty)
  | _ => none
def boolsD : List D → Option (List Bool)
  | [] => some []
  | .bool b :: r => (boolsD r).map (b :: ·)
  | _ :: _ => none
def intsD : List D → Option (List Int)
  | [] => some []
  | .int b :: r => (intsD r).map (b :: ·)
  | _ :: _ => none
def cutD (xs : List D) (lo hi : Option Int) : List D := (xs.drop (HT.sIx xs.length 0 lo)).take (HT.sIx xs.length xs.length hi - HT.sIx xs.length 0 lo)
def slcD (x : D) (lo hi : Option Int) : Option R := match x with
  | .tuple xs => some (.fr (.tuple (cutD xs lo hi)))
  | .list xs => some (.nw (.list (cutD xs lo hi)))
  | _ => none
def insI (x : Int) : List Int → List Int
  | [] => [x]
  | y :: r => if x ≤ y then x :: y :: r else y :: insI x r
def sortI : List Int → List Int
  | [] => []
  | x :: r => insI x (sortI r)
def rangeD (lo hi : Int) : List D := (List.range (hi - lo).toNat).map fun (i : Nat) => .int (lo + (i : Int))

def opD : Op → List D → Option R
  | .bin o, [x, y] => binD o x y
  | .neg, [.int i] => some (dint (-i))
  | .cmp o, [x, y] => (cmpD o x y).map dbl
  | .tup, xs => if fitL xs.length then some (.fr (.tuple xs)) else none
  | .lst, xs => if fitL xs.length then some (.nw (.list xs)) else none
  | .len, [.tuple xs] => some (dint xs.length)
  | .len, [.list xs] => some (dint xs.length)
  | .len, [.str x] => if fitL x.length then some (dint x.length) else none
  | .isi t, [x] => some (dbl (isTy t x))
  | .all, [.list xs] => (boolsD xs).map fun bs => dbl (bs.all id)
  | .any, [.list xs] => (boolsD xs).map fun bs => dbl (bs.any id)
  | .tupOf, [.list xs] => some (.fr (.tuple xs))
  | .tupOf, [.tuple xs] => some (.fr (.tuple xs))
  | .lstOf, [.list xs] => some (.nw (.list xs))
  | .lstOf, [.tuple xs] => some (.nw (.list xs))
  | .abs, [.int i] => some (dint (if i < 0 then -i else i))
  | .int1, [.int i] => some (dint i)
  | .int1, [.bool k] => some (dint (if k then 1 else 0))
  | .min2, [.int i, .int j] => some (dint (if j < i then j else i))
  | .max2, [.int i, .int j] => some (dint (if j > i then j else i))
  | .sum, [.list xs] => (intsD xs).map fun ns => dint ns.sum
  | .minL, [.list xs] => (intsD xs).bind fun ns => ns.min?.map dint
  | .maxL, [.list xs] => (intsD xs).bind fun ns => ns.max?.map dint
  | .sorted, [.list xs] => (intsD xs).map fun ns => .nw (.list ((sortI ns).map .int))
  | .str1, [.int i] => if smallI i then some (.fr (.str (toString i))) else none
  | .repr, [x] => if SeqAt.shaped x && (PyData.showable x && fitL x.shown.length) then some (.fr (.str x.shown)) else none
  | .idx, [.tuple xs, .int i] => (atI xs i).map .fr
  | .idx, [.list xs, .int i] => (atI xs i).map .fr
  | .slc false false, [x] => slcD x none none
  | .slc true false, [x, .int i] => slcD x (some i) none
  | .slc false true, [x, .int i] => slcD x none (some i)
  | .rev, [.tuple xs] => some (.fr (.tuple xs.reverse))
  | .rev, [.list xs] => some (.nw (.list xs.reverse))
  | _, _ => none

/-! ## the code -/
inductive Tg where
  | nm (i : Nat) | tp (is : List Nat)
  deriving DecidableEq
inductive E where
  | var (i : Nat) | pk (i : Nat) | io (i : Nat) | cst (d : D) | glb (g : Nat)
  | op (o : Op) (as : E) | nil | cons (a r : E)
  | chn (o1 o2 : COp) (a b c : E)
  | slc (a lo hi : E)
  | and (a b : E) | or (a b : E) | not (a : E) | ife (t a b : E)
  | call (f : Nat) (as : E)
  | lc (elt : E) (tg : Tg) (it cond : E) (own : List Nat) | yes
  | rng1 (a : E) | rng2 (a b : E) | enm (a : E) | zip (a b : E)
  | eat (i : Nat) | eis (i : Nat) (c : Nat)
  | any | chn3 (o1 o2 o3 : COp) (a b c d : E) | lrg1 (a : E) | lrg2 (a b : E)

inductive P where
  | dd (d : D) | sl (i : Nat) | io (i : Nat)
def slD : Sl → Option D
  | .fz d => some d
  | .ow d => some d
  | .pn d => some d
  | _ => none
def rs (n : En) : P → Option D
  | .dd d => some d
  | .sl i => (n[i]?).bind slD
  | .io _ => none
def rsl (n : En) : List P → Option (List D)
  | [] => some []
  | p :: r => (rs n p).bind fun d => (rsl n r).map (d :: ·)
/-- frozen ones alone -/
def frl : List P → Option (List D)
  | [] => some []
  | .dd d :: r => (frl r).map (d :: ·)
  | _ :: _ => none
def retains : Op → Bool
  | .tup => true
  | .lst => true
  | _ => false
def opdl (o : Op) (n : En) (ps : List P) : Option (List D) := if retains o then frl ps else rsl n ps
/-- arguments of a call -/
def argS (n : En) : P → Option Sl
  | .dd d => some (.fz d)
  | .io i => match n[i]? with
    | some (.ow d) => some (.pn d)
    | some (.pn d) => some (.pn d)
    | _ => none
  | .sl _ => none
def argsS (n : En) : List P → Option (List Sl)
  | [] => some []
  | p :: r => (argS n p).bind fun s => (argsS n r).map (s :: ·)
def ioIx : List P → List Nat
  | [] => []
  | .io i :: r => i :: ioIx r
  | _ :: r => ioIx r
/-- owned arguments hold what the call left in them -/
def putBack (n : En) : List P → List D → Option En
  | [], _ => some n
  | .io i :: r, d :: ds => match n[i]? with
    | some (.ow _) => putBack (n.set i (.ow d)) r ds
    | some (.pn _) => putBack (n.set i (.pn d)) r ds
    | _ => none
  | .io _ :: _, [] => none
  | _ :: r, _ :: ds => putBack n r ds
  | _ :: r, [] => putBack n r []
def Ou.of {α : Type} (o : Option α) (n : En) : Ou α := match o with
  | some a => .ok a n
  | none => .st
/-- one operand -/
def opd (a : E) (f : En → Ou R) (n : En) : Ou P := match a with
  | .pk i => match n[i]? with
    | some (.fz _) => .ok (.sl i) n
    | some (.ow _) => .ok (.sl i) n
    | some (.pn _) => .ok (.sl i) n
    | _ => .st
  | .io i => match n[i]? with
    | some (.ow _) => .ok (.io i) n
    | some (.pn _) => .ok (.io i) n
    | _ => .st
  | _ => (f n).bd fun r n1 => .ok (.dd r.d) n1
def afterCall (n : En) (ps : List P) : Rt → Ou R
  | .ret r ds => match putBack n ps ds with
    | some n' => .ok r n'
    | none => .st
  | .ex c d ds => match putBack n ps ds with
    | some n' => .ex c d n'
    | none => .st
  | .st => .st
def setAll (n : En) : List Nat → List D → Option En
  | [], [] => some n
  | i :: is, d :: ds => match n[i]? with
    | some (.pn _) => none
    | some _ => setAll (n.set i (.fz d)) is ds
    | none => none
  | _, _ => none
def Tg.put (t : Tg) (d : D) (n : En) : Option En := match t with
  | .nm i => setAll n [i] [d]
  | .tp is => match d with
    | .tuple ds => setAll n is ds
    | _ => none
def wipeN (n : En) : List Nat → En
  | [] => n
  | v :: vs => (wipeN n vs).set v .un
def noPn (n : En) (vs : List Nat) : Bool := vs.all fun v => match n[v]? with
  | some (.pn _) => false
  | _ => true
/-- a comprehension's turns; elt, cond: over the block's slots -/
def lcGo (tg : Tg) (own : List Nat) (cond : En → Ou Bool) (elt : En → Ou R) : List D → List D → En → Ou (List D)
  | [], acc, n => .ok acc n
  | x :: xs, acc, n => match tg.put x (wipeN n own) with
    | none => .st
    | some n1 => (cond n1).bd fun b n2 => if b then (elt n2).bd fun r n3 => if decide (acc.length < sizeLine) then lcGo tg own cond elt xs (acc ++ [r.d]) n3 else .st
      else lcGo tg own cond elt xs acc n2
def seqD : D → Option (List D)
  | .tuple xs => some xs
  | .list xs => some xs
  | _ => none
def enumD : Nat → List D → List D
  | _, [] => []
  | k, x :: r => .tuple [.int k, x] :: enumD (k + 1) r
def zipD : List D → List D → List D
  | x :: xs, y :: ys => .tuple [x, y] :: zipD xs ys
  | _, _ => []

/-- what a node does: as a value, as a test, as a row of arguments, as what is walked -/
structure Ev where
  e : En → Ou R
  t : En → Ou Bool
  l : En → Ou (List P)
  i : En → Ou (List D)
def Ev.val (e : En → Ou R) : Ev := ⟨e, fun n => (e n).bd fun r n1 => .of (truD r.d) n1, fun _ => .st, fun n => (e n).bd fun r n1 => .of (seqD r.d) n1⟩
def Ev.no : Ev := ⟨fun _ => .st, fun _ => .st, fun _ => .st, fun _ => .st⟩
def Ev.itr (i : En → Ou (List D)) : Ev := ⟨fun _ => .st, fun _ => .st, fun _ => .st, i⟩

section
variable (T : Tb) (C : Nat → Option D)
def zVar (i : Nat) (n : En) : Ou R := match n[i]? with
  | some (.fz d) => .ok (.fr d) n
  | some (.ow d) => .ok (.fr d) (n.set i (.fz d))
  | _ => .st
def zPkT (i : Nat) (n : En) : Ou Bool := match (n[i]?).bind slD with
  | some d => .of (truD d) n
  | none => .st
def zOp (o : Op) (l : En → Ou (List P)) (n : En) : Ou R := (l n).bd fun ps n1 => match opdl o n1 ps with
  | some ds => .of (opD o ds) n1
  | none => .st
def zChn (o1 o2 : COp) (a b c : En → Ou P) (n : En) : Ou R := (a n).bd fun pa n1 => (b n1).bd fun pb n2 => match rs n2 pa, rs n2 pb with
  | some x, some y => match cmpD o1 x y with
    | some true => (c n2).bd fun pc n3 => match rs n3 pb, rs n3 pc with
      | some y, some z => .of ((cmpD o2 y z).map dbl) n3
      | _, _ => .st
    | some false => .ok (dbl false) n2
    | none => .st
  | _, _ => .st
def zChn3 (o1 o2 o3 : COp) (a b c d : En → Ou P) (n : En) : Ou R := (a n).bd fun pa n1 => (b n1).bd fun pb n2 => match rs n2 pa, rs n2 pb with
  | some x, some y => match cmpD o1 x y with
    | some true => (c n2).bd fun pc n3 => match rs n3 pb, rs n3 pc with
      | some y, some z => match cmpD o2 y z with
        | some true => (d n3).bd fun pd n4 => match rs n4 pc, rs n4 pd with
          | some z, some u => .of ((cmpD o3 z u).map dbl) n4
          | _, _ => .st
        | some false => .ok (dbl false) n3
        | none => .st
      | _, _ => .st
    | some false => .ok (dbl false) n2
    | none => .st
  | _, _ => .st
def zLrg1 (a : En → Ou P) (n : En) : Ou R := (a n).bd fun p n1 => match rs n1 p with
  | some (.int i) => if rngOk i && decide (i.toNat ≤ 16777216) then .ok (.nw (.list (rangeD 0 i))) n1 else .st
  | _ => .st
def zLrg2 (a b : En → Ou P) (n : En) : Ou R := (a n).bd fun p n1 => (b n1).bd fun q n2 => match rs n2 p, rs n2 q with
  | some (.int i), some (.int j) => if rngOk i && (rngOk j && decide ((j - i).toNat ≤ 16777216)) then .ok (.nw (.list (rangeD i j))) n2 else .st
  | _, _ => .st
def zEnm (a : En → Ou R) (n : En) : Ou (List D) := (a n).bd fun r n1 => match r.d with
  | .list xs => .ok (enumD 0 xs) n1
  | _ => .st
def zZip (a b : En → Ou R) (n : En) : Ou (List D) := (a n).bd fun r n1 => (b n1).bd fun q n2 => match r.d, q.d with
  | .list xs, .list ys => .ok (zipD xs ys) n2
  | .tuple xs, .tuple ys => .ok (zipD xs ys) n2
  | _, _ => .st
def zSlc (a b c : En → Ou P) (n : En) : Ou R := (a n).bd fun pa n1 => (b n1).bd fun pb n2 => match rs n2 pb with
  | some (.int i) => (c n2).bd fun pc n3 => match rs n3 pa, rs n3 pc with
    | some x, some (.int j) => .of (slcD x (some i) (some j)) n3
    | _, _ => .st
  | _ => .st
def zAnd (a b : En → Ou R) (n : En) : Ou R := (a n).bd fun r n1 => match r with
  | .fr (.bool true) => b n1
  | .fr (.bool false) => .ok (dbl false) n1
  | _ => .st
def zOr (a b : En → Ou R) (n : En) : Ou R := (a n).bd fun r n1 => match r with
  | .fr (.bool false) => b n1
  | .fr (.bool true) => .ok (dbl true) n1
  | _ => .st
def zNot (a : En → Ou R) (n : En) : Ou R := (a n).bd fun r n1 => match r with
  | .fr (.bool b) => .ok (dbl (!b)) n1
  | _ => .st
def zCall (m : Option (Nat × Fm)) (l : En → Ou (List P)) (n : En) : Ou R := match m with
  | none => .st
  | some m => (l n).bd fun ps n1 => if ps.length = m.1 then match argsS n1 ps with
    | some ss => if (ioIx ps).Nodup then afterCall n1 ps (m.2 ss) else .st
    | none => .st
    else .st
def zLc (tg : Tg) (own : List Nat) (i : En → Ou (List D)) (cond : En → Ou Bool) (elt : En → Ou R) (n : En) : Ou R := (i n).bd fun xs n1 => if noPn n1 own then match lcGo tg own cond elt xs [] (wipeN n1 own) with
    | .ok ds n2 => .ok (.nw (.list ds)) (wipeN n2 own)
    | _ => .st
  else .st
def zRng1 (a : En → Ou P) (n : En) : Ou (List D) := (a n).bd fun p n1 => match rs n1 p with
  | some (.int i) => if rngOk i then .ok (rangeD 0 i) n1 else .st
  | _ => .st
def zRng2 (a b : En → Ou P) (n : En) : Ou (List D) := (a n).bd fun p n1 => (b n1).bd fun q n2 => match rs n2 p, rs n2 q with
  | some (.int i), some (.int j) => if rngOk i && rngOk j then .ok (rangeD i j) n2 else .st
  | _, _ => .st
def zEat (i : Nat) (n : En) : Ou R := match n[i]? with
  | some (.er _ d) => .ok (.fr d) n
  | _ => .st
def ev : E → Ev
  | .var i => .val (zVar i)
  | .pk i => { Ev.no with t := zPkT i }
  | .io _ => .no
  | .cst d => .val fun n => .ok (.fr d) n
  | .glb g => .val fun n => match C g with
    | some d => .ok (.fr d) n
    | none => .st
  | .op o as => .val (zOp o (ev as).l)
  | .nil => { Ev.no with l := fun n => .ok [] n }
  | .cons a r => { Ev.no with l := fun n => (opd a (ev a).e n).bd fun p n1 => ((ev r).l n1).bd fun ps n2 => .ok (p :: ps) n2 }
  | .chn o1 o2 a b c => .val (zChn o1 o2 (opd a (ev a).e) (opd b (ev b).e) (opd c (ev c).e))
  | .slc a b c => .val (zSlc (opd a (ev a).e) (opd b (ev b).e) (opd c (ev c).e))
  | .and a b => { Ev.val (zAnd (ev a).e (ev b).e) with t := fun n => ((ev a).t n).bd fun k n1 => if k then (ev b).t n1 else .ok false n1 }
  | .or a b => { Ev.val (zOr (ev a).e (ev b).e) with t := fun n => ((ev a).t n).bd fun k n1 => if k then .ok true n1 else (ev b).t n1 }
  | .not a => { Ev.val (zNot (ev a).e) with t := fun n => ((ev a).t n).bd fun k n1 => .ok (!k) n1 }
  | .ife t a b => .val fun n => ((ev t).t n).bd fun k n1 => if k then (ev a).e n1 else (ev b).e n1
  | .call f as => .val (zCall (T f) (ev as).l)
  | .lc elt tg it cond own => .val (zLc tg own (ev it).i (ev cond).t (ev elt).e)
  | .yes => { Ev.no with t := fun n => .ok true n }
  | .rng1 a => .itr (zRng1 (opd a (ev a).e))
  | .rng2 a b => .itr (zRng2 (opd a (ev a).e) (opd b (ev b).e))
  | .enm a => .itr (zEnm (ev a).e)
  | .zip a b => .itr (zZip (ev a).e (ev b).e)
  | .eat i => .val (zEat i)
  | .eis _ _ => .no
  | .any => .no
  | .chn3 o1 o2 o3 a b c d => .val (zChn3 o1 o2 o3 (opd a (ev a).e) (opd b (ev b).e) (opd c (ev c).e) (opd d (ev d).e))
  | .lrg1 a => .val (zLrg1 (opd a (ev a).e))
  | .lrg2 a b => .val (zLrg2 (opd a (ev a).e) (opd b (ev b).e))
end
end Z

set_option Elab.async false
set_option linter.all false
set_option maxRecDepth 100000
set_option maxHeartbeats 4000000
namespace Z
open PySem PySem.Spec PyProof.Rows L2

/-! ## what holds of the heap -/
mutual
/-- a value's data: lists are tracked or locked, tuples may also stand in the written part -/
inductive Dz (K : PySem.W.Frag) (H : Hp) : V → D → Prop
  | non : Dz K H .non .none
  | bl (b : Bool) : Dz K H (.bl b) (.bool b)
  | int (i : Int) : Dz K H (.int i) (.int i)
  | str (x : Str) : Dz K H (.str x) (.str x)
  | lst {a : Addr} {xs : List V} {ds : List D} : Rd H a (.lst xs) → DzAll K H xs ds → Dz K H (.ref a) (.list ds)
  | tup {a : Addr} {xs : List V} {ds : List D} : SqT K H a xs → DzAll K H xs ds → Dz K H (.ref a) (.tuple ds)
inductive DzAll (K : PySem.W.Frag) (H : Hp) : List V → List D → Prop
  | nil : DzAll K H [] []
  | cons {v : V} {vs : List V} {d : D} {ds : List D} : Dz K H v d → DzAll K H vs ds → DzAll K H (v :: vs) (d :: ds)
end
mutual
theorem Dz.toDp {K : PySem.W.Frag} {H : Hp} : ∀ {d : D} {v : V}, Dz K H v d → Dp K H v d
  | .none, _, h => by cases h; exact .non
  | .bool _, _, h => by cases h; exact .bl _
  | .int _, _, h => by cases h; exact .int _
  | .str _, _, h => by cases h; exact .str _
  | .list ds, _, h => by cases h with | lst a b => exact .lst (.inl a) (DzAll.toDp b)
  | .tuple ds, _, h => by cases h with | tup a b => exact .tup a (DzAll.toDp b)
  | .dict _, _, h => by cases h
theorem DzAll.toDp {K : PySem.W.Frag} {H : Hp} : ∀ {ds : List D} {vs : List V}, DzAll K H vs ds → DpAll K H vs ds
  | [], _, h => by cases h; exact .nil
  | d :: ds, _, h => by cases h with | cons a b => exact .cons a.toDp (DzAll.toDp b)
end
section mono
variable {K : PySem.W.Frag} {F F' : Hp}
theorem rd_mono (s : Same F F') {a : Addr} {u : HO} (h : Rd F a u) : Rd F' a u := by
  rcases h with h | ⟨o, h⟩
  · exact .inl (s _ _ h)
  · exact .inr ⟨o, s _ _ h⟩
theorem sqL_mono (s : Same F F') {a : Addr} {xs : List V} (h : SqL K F a xs) : SqL K F' a xs := h.imp (rd_mono s) id
theorem sqT_mono (s : Same F F') {a : Addr} {xs : List V} (h : SqT K F a xs) : SqT K F' a xs := h.imp (rd_mono s) id
mutual
theorem dp_mono (s : Same F F') : ∀ {d : D} {v : V}, Dz K F v d → Dz K F' v d
  | .none, _, h => by cases h; exact .non
  | .bool _, _, h => by cases h; exact .bl _
  | .int _, _, h => by cases h; exact .int _
  | .str _, _, h => by cases h; exact .str _
  | .list ds, _, h => by cases h with | lst a b => exact .lst (rd_mono s a) (dpAll_mono s b)
  | .tuple ds, _, h => by cases h with | tup a b => exact .tup (sqT_mono s a) (dpAll_mono s b)
  | .dict _, _, h => by cases h
theorem dpAll_mono (s : Same F F') : ∀ {ds : List D} {vs : List V}, DzAll K F vs ds → DzAll K F' vs ds
  | [], _, h => by cases h; exact .nil
  | d :: ds, _, h => by cases h with | cons a b => exact .cons (dp_mono s a) (dpAll_mono s b)
end
end mono

/-- an owned list -/
def Mo (K : PySem.W.Frag) (F H : Hp) (a : Addr) (d : D) : Prop := F a = none ∧ ∃ ds xs, d = .list ds ∧ H a = some (.lst xs) ∧ DzAll K F xs ds
/-- an operand: frozen, or an owned list that is read -/
def Dq (K : PySem.W.Frag) (F H : Hp) (v : V) (d : D) : Prop := Dz K F v d ∨ ∃ a, v = .ref a ∧ Mo K F H a d
/-- a caught exception's slot -/
def ErOk (o : Option (Option V)) : Prop := ∃ v, o = some (some v)
def SlOk (K : PySem.W.Frag) (F H : Hp) (o : Option (Option V)) : Sl → Prop
  | .un => True
  | .fz d => ∃ v, o = some (some v) ∧ Dz K F v d
  | .ow d => ∃ a, o = some (some (.ref a)) ∧ Mo K F H a d
  | .pn d => ∃ a, o = some (some (.ref a)) ∧ Mo K F H a d
  | .er _ _ => ErOk o
def isOwn : Sl → Prop
  | .ow _ => True
  | .pn _ => True
  | _ => False
def own (σ : L2.St) (n : En) (a : Addr) : Prop := ∃ (i : Nat) (s : Sl), n[i]? = some s ∧ isOwn s ∧ σ[i]? = some (some (V.ref a))
structure SO (K : PySem.W.Frag) (F H : Hp) (σ : L2.St) (n : En) : Prop where
  sub : Same F H
  len : n.length = σ.length
  sl : ∀ (i : Nat) (s : Sl), n[i]? = some s → SlOk K F H σ[i]? s
  ap : ∀ (i j : Nat) (s t : Sl), i ≠ j → n[i]? = some s → n[j]? = some t → isOwn s → isOwn t → σ[i]? ≠ σ[j]?
structure Step (σ : L2.St) (F H : Hp) (n : En) (F' H' : Hp) (n' : En) : Prop where
  f : Same F F'
  h : ∀ a o, H a = some o → ¬ own σ n a → H' a = some o
  nf : ∀ a o, F' a = some o → F a = some o ∨ H a = none ∨ own σ n a
  ow : ∀ a, own σ n' a → own σ n a
  dom : ∀ a, H' a = none → H a = none
theorem Step.refl {σ : L2.St} {F H : Hp} {n : En} : Step σ F H n F H n := ⟨.refl _, fun _ _ h _ => h, fun _ _ h => .inl h, fun _ h => h, fun _ h => h⟩
theorem Step.trans {σ : L2.St} {F H F1 H1 F2 H2 : Hp} {n n1 n2 : En} (a : Step σ F H n F1 H1 n1) (b : Step σ F1 H1 n1 F2 H2 n2) : Step σ F H n F2 H2 n2 where
  f := a.f.trans b.f
  h := fun x o h no => b.h x o (a.h x o h no) fun w => no (a.ow x w)
  nf := fun x o h => by
    rcases b.nf x o h with q | q | q
    · exact a.nf x o q
    · exact .inr (.inl (a.dom x q))
    · exact .inr (.inr (a.ow x q))
  ow := fun x h => a.ow x (b.ow x h)
  dom := fun x h => a.dom x (b.dom x h)
theorem own_lst {K : PySem.W.Frag} {F H : Hp} {σ : L2.St} {n : En} (s : SO K F H σ n) {a : Addr} (o : own σ n a) : F a = none ∧ ∃ xs, H a = some (.lst xs) := by
  obtain ⟨i, t, e, io, ev⟩ := o
  have q := s.sl i t e
  cases t with
  | ow d => obtain ⟨b, eb, h0, ds, xs, _, h1, _⟩ := q; rw [ev] at eb; cases eb; exact ⟨h0, xs, h1⟩
  | pn d => obtain ⟨b, eb, h0, ds, xs, _, h1, _⟩ := q; rw [ev] at eb; cases eb; exact ⟨h0, xs, h1⟩
  | un => exact io.elim
  | fz d => exact io.elim
  | er c d => exact io.elim

/-- the heap grows -/
structure Ext (F H F' H' : Hp) : Prop where
  f : Same F F'
  h : Same H H'
  nf : ∀ a o, F' a = some o → F a = some o ∨ H a = none
  sub : Same F' H'
theorem Ext.refl {F H : Hp} (s : Same F H) : Ext F H F H := ⟨.refl _, .refl _, fun _ _ h => .inl h, s⟩
section
variable {K : PySem.W.Frag} {F H F' H' : Hp} {σ : L2.St} {n : En}
theorem mo_ext (e : Ext F H F' H') {a : Addr} {d : D} (m : Mo K F H a d) : Mo K F' H' a d := by
  obtain ⟨h0, ds, xs, e1, h1, h2⟩ := m
  refine ⟨?_, ds, xs, e1, e.h _ _ h1, dpAll_mono e.f h2⟩
  cases q : F' a with
  | none => rfl
  | some o =>
    rcases e.nf a o q with z | z
    · rw [h0] at z; cases z
    · rw [h1] at z; cases z
theorem slOk_ext (e : Ext F H F' H') {o : Option (Option V)} {s : Sl} (m : SlOk K F H o s) : SlOk K F' H' o s := by
  cases s with
  | un => trivial
  | fz d => obtain ⟨v, h, q⟩ := m; exact ⟨v, h, dp_mono e.f q⟩
  | ow d => obtain ⟨a, h, q⟩ := m; exact ⟨a, h, mo_ext e q⟩
  | pn d => obtain ⟨a, h, q⟩ := m; exact ⟨a, h, mo_ext e q⟩
  | er c d => exact m
theorem SO.ext (s : SO K F H σ n) (e : Ext F H F' H') : SO K F' H' σ n := ⟨e.sub, s.len, fun i t h => slOk_ext e (s.sl i t h), s.ap⟩
theorem Step.ext (e : Ext F H F' H') : Step σ F H n F' H' n := ⟨e.f, fun _ _ h _ => e.h _ _ h, fun a o h => (e.nf a o h).elim .inl fun z => .inr (.inl z), fun _ h => h, fun a h => by
  cases q : H a with
  | none => rfl
  | some o => rw [e.h _ _ q] at h; cases h⟩
end

/-! ## results -/
def ExOk (K : PySem.W.Frag) (X9 : Nat → Addr × Str) (F H : Hp) (c : Nat) (d : D) (cls : Value) (dd : Option Addr) : Prop :=
  cls = .ref (X9 c).1 ∧ ∃ a v, dd = some a ∧ H a = some (.xd [((X9 c).2, v)]) ∧ Dz K F v d ∧ (X9 c).2 ≠ ⟨#[]⟩
/-- the static part -/
structure Ck where
  K : PySem.W.Frag
  X9 : Nat → Addr × Str
  W : WX
/-- what ties a result to its value: the heap at the start, F, H, slots, code's slots, the value, the result -/
structure Rho (α β : Type) where
  r : Hp → Hp → Hp → L2.St → En → β → α → Prop
  an : ∀ {H H1 F' H' : Hp} {σ : L2.St} {n : En} {b : β} {a : α}, (∀ x, H1 x = none → H x = none) → r H1 F' H' σ n b a → r H F' H' σ n b a
def Po {α β : Type} (ρ : Rho α β) (k : Ck) (o : Ou α) (σ : L2.St) (F H : Hp) (n : En) (Q : β → Hp → Prop) : Prop := match o with
  | .ok a n' => ∀ b F' H', SO k.K F' H' σ n' → Step σ F H n F' H' n' → ρ.r H F' H' σ n' b a → Q b H'
  | .ex c d n' => ∀ cls dd F' H', SO k.K F' H' σ n' → Step σ F H n F' H' n' → ExOk k.K k.X9 F' H' c d cls dd → k.W cls dd σ H'
  | .st => False
def tz {α β : Type} (ρ : Rho α β) (k : Ck) (f : En → Ou α) : L2.St → Hp → (β → Hp → Prop) → Prop := fun σ H Q => ∃ F n, SO k.K F H σ n ∧ Po ρ k (f n) σ F H n Q
/-- values -/
def rvOk (K : PySem.W.Frag) (H0 F H : Hp) (v : V) : R → Prop
  | .fr d => Dz K F v d
  | .nw d => ∃ a, v = .ref a ∧ Mo K F H a d ∧ H0 a = none
def rV (K : PySem.W.Frag) : Rho R V where
  r := fun H0 F H _ _ v r => rvOk K H0 F H v r
  an := fun {H H1 F' H' σ n b a} h x => by
    cases a with
    | fr d => exact x
    | nw d => obtain ⟨a, e, m, z⟩ := x; exact ⟨a, e, m, h a z⟩
/-- frozen values -/
def rD (K : PySem.W.Frag) : Rho D V := ⟨fun _ F _ _ _ v d => Dz K F v d, fun _ x => x⟩
def pv1 (K : PySem.W.Frag) (F : Hp) (σ : L2.St) (v : V) : P → Prop
  | .dd d => Dz K F v d
  | .sl i => σ[i]? = some (some v)
  | .io i => σ[i]? = some (some v)
def rP (K : PySem.W.Frag) : Rho P V := ⟨fun _ F _ σ _ v p => pv1 K F σ v p, fun _ x => x⟩
inductive PsOk (K : PySem.W.Frag) (F : Hp) (σ : L2.St) : List V → List P → Prop where
  | nil : PsOk K F σ [] []
  | cons {v : V} {vs : List V} {p : P} {ps : List P} : pv1 K F σ v p → PsOk K F σ vs ps → PsOk K F σ (v :: vs) (p :: ps)
def rL (K : PySem.W.Frag) : Rho (List P) (List V) := ⟨fun _ F _ σ _ vs ps => PsOk K F σ vs ps, fun _ x => x⟩
def rB : Rho Bool Bool := ⟨fun _ _ _ _ _ b a => b = a, fun _ x => x⟩
/-- what is walked -/
structure ItOk (K : PySem.W.Frag) (F0 : Hp) (J : It) (ds : List D) : Prop where
  go : ∀ (i : Nat) (H F : Hp), Same F0 F → Same F H → i < ds.length → J.go i H
  stop : ∀ (H F : Hp), Same F0 F → Same F H → J.stop ds.length H
  yld : ∀ (i : Nat) (H F : Hp) (x : V) (H' : Hp), Same F0 F → Same F H → i < ds.length → J.yld i H x H' → ∃ F' d, Ext F H F' H' ∧ ds[i]? = some d ∧ Dz K F' x d
def rI (K : PySem.W.Frag) : Rho (List D) It := ⟨fun _ F _ _ _ J ds => ItOk K F J ds, fun _ x => x⟩
theorem pv1_mono {K : PySem.W.Frag} {F F' : Hp} {σ : L2.St} (s : Same F F') {v : V} {p : P} (h : pv1 K F σ v p) : pv1 K F' σ v p := by
  cases p with
  | dd d => exact dp_mono s h
  | sl i => exact h
  | io i => exact h
theorem psOk_mono {K : PySem.W.Frag} {F F' : Hp} {σ : L2.St} (s : Same F F') {vs : List V} {ps : List P} (h : PsOk K F σ vs ps) : PsOk K F' σ vs ps := by
  induction h with
  | nil => exact .nil
  | cons a _ ih => exact .cons (pv1_mono s a) ih

section
variable {α β γ δ : Type} {ρ : Rho α β} {ρ' : Rho γ δ} {k : Ck} {σ : L2.St} {F H : Hp} {n : En}
theorem Po.mono {o : Ou α} {Q Q' : β → Hp → Prop} (h : Po ρ k o σ F H n Q) (i : ∀ b H', Q b H' → Q' b H') : Po ρ k o σ F H n Q' := by
  cases o with
  | ok a n' => exact fun b F' H' s t r => i _ _ (h b F' H' s t r)
  | ex c d n' => exact h
  | st => exact h
theorem Po.shift {o : Ou α} {Q : β → Hp → Prop} {F1 H1 : Hp} {n1 : En} (h : Po ρ k o σ F H n Q) (t : Step σ F H n F1 H1 n1) : Po ρ k o σ F1 H1 n1 Q := by
  cases o with
  | ok a n' => exact fun b F' H' s u r => h b F' H' s (t.trans u) (ρ.an t.dom r)
  | ex c d n' => exact fun cl dd F' H' s u r => h cl dd F' H' s (t.trans u) r
  | st => exact h
/-- one thing after another -/
theorem Po.bd {m : Ou γ} {f : γ → En → Ou α} {Q : β → Hp → Prop} (h : Po ρ k (m.bd f) σ F H n Q) :
    Po ρ' k m σ F H n fun b H1 => ∃ F1 n1 a, SO k.K F1 H1 σ n1 ∧ Step σ F H n F1 H1 n1 ∧ ρ'.r H F1 H1 σ n1 b a ∧ Po ρ k (f a n1) σ F1 H1 n1 Q := by
  cases m with
  | ok a n1 => exact fun b F1 H1 s t r => ⟨F1, n1, a, s, t, r, Po.shift (show Po ρ k (f a n1) σ F H n Q from h) t⟩
  | ex c d n' => exact h
  | st => exact h
theorem Po.of {o : Option α} {m : En} {Q : β → Hp → Prop} (h : Po ρ k (Ou.of o m) σ F H n Q) : ∃ a, o = some a ∧ Po ρ k (.ok a m) σ F H n Q := by
  cases o with
  | none => exact h.elim
  | some a => exact ⟨a, rfl, h⟩
/-- a fresh list is frozen -/
theorem frz_so {d : D} {a : Addr} {F' H' : Hp} {n' : En} (s0 : SO k.K F H σ n) (s : SO k.K F' H' σ n') (t : Step σ F H n F' H' n') (m : Mo k.K F' H' a d) (z : H a = none) :
    ∃ F2, SO k.K F2 H' σ n' ∧ Step σ F H n F2 H' n' ∧ Dz k.K F2 (.ref a) d ∧ Same F' F2 := by
  obtain ⟨h0, ds, xs, rfl, h1, h2⟩ := m
  have no : ¬ own σ n' a := fun o => by
    obtain ⟨_, xs, q⟩ := own_lst s0 (t.ow a o)
    rw [z] at q; cases q
  have sm : Same F' (upd F' a (.lst xs)) := fun b o e => by
    rw [upd_ne (ne_of_none e h0)]; exact e
  refine ⟨upd F' a (.lst xs), ⟨fun b o e => ?_, s.len, fun i x e => ?_, s.ap⟩, ⟨t.f.trans sm, t.h, fun b o e => ?_, t.ow, t.dom⟩, .lst (.inl upd_same) (dpAll_mono sm h2), sm⟩
  · by_cases q : b = a
    · subst q; rw [upd_same] at e; cases e; exact h1
    · rw [upd_ne q] at e; exact s.sub b o e
  · have y := s.sl i x e
    have mo : ∀ b d, own σ n' b → Mo k.K F' H' b d → Mo k.K (upd F' a (.lst xs)) H' b d := by
      rintro b d ob ⟨m0, es, ys, rfl, m1, m2⟩
      refine ⟨?_, es, ys, rfl, m1, dpAll_mono sm m2⟩
      rw [upd_ne (show b ≠ a from fun q => no (by rw [← q]; exact ob))]; exact m0
    cases x with
    | un => trivial
    | fz d => obtain ⟨v, e1, e2⟩ := y; exact ⟨v, e1, dp_mono sm e2⟩
    | ow d => obtain ⟨b, e1, e2⟩ := y; exact ⟨b, e1, mo b d ⟨i, _, e, trivial, e1⟩ e2⟩
    | pn d => obtain ⟨b, e1, e2⟩ := y; exact ⟨b, e1, mo b d ⟨i, _, e, trivial, e1⟩ e2⟩
    | er c d => exact y
  · by_cases q : b = a
    · subst q; exact .inr (.inl z)
    · rw [upd_ne q] at e; exact t.nf b o e
theorem Po.frz {m : Ou R} {Q : V → Hp → Prop} (s0 : SO k.K F H σ n) (h : Po (rD k.K) k (m.bd fun r n1 => .ok r.d n1) σ F H n Q) : Po (rV k.K) k m σ F H n Q := by
  cases m with
  | st => exact h
  | ex c d n' => exact h
  | ok r n' =>
    intro v F' H' s t x
    cases r with
    | fr d => exact h v F' H' s t x
    | nw d =>
      obtain ⟨a, rfl, m, z⟩ := x
      obtain ⟨F2, s2, t2, d2, _⟩ := frz_so s0 s t m z
      exact h _ F2 H' s2 t2 d2
end

/-- a result that leaves the slots alone -/
def rX (K : PySem.W.Frag) (F' H' H : Hp) (v : V) : R → Prop
  | .fr d => Dz K F' v d
  | .nw d => ∃ a, v = .ref a ∧ Mo K F' H' a d ∧ H a = none
def Res (K : PySem.W.Frag) (F H : Hp) (r : R) (Q : VK) : Prop := ∀ v F' H', Ext F H F' H' → rX K F' H' H v r → Q v H'
section
variable {k : Ck} {K : PySem.W.Frag} {σ : L2.St} {F H : Hp} {n : En} {Q : VK}
theorem Po.res {r : R} (s : SO k.K F H σ n) (h : Po (rV k.K) k (.ok r n) σ F H n Q) : Res k.K F H r Q := by
  intro v F' H' e x
  refine h v F' H' (s.ext e) (Step.ext e) ?_
  cases r with
  | fr d => exact x
  | nw d => exact x
theorem Res.now {d : D} {v : V} (s : Same F H) (h : Res K F H (.fr d) Q) (x : Dz K F v d) : Q v H := h v F H (Ext.refl s) x
theorem Res.int {i : Int} (s : Same F H) (h : Res K F H (dint i) Q) : Q (.int i) H := h.now s (.int i)
theorem Res.bl {i : Bool} (s : Same F H) (h : Res K F H (dbl i) Q) : Q (.bl i) H := h.now s (.bl i)
theorem same_upd {p : Addr} {o : HO} (h : H p = none) : Same H (upd H p o) := fun b u e => by
  rw [upd_ne (ne_of_none e h)]; exact e
theorem upd_cases {p a : Addr} {o u : HO} (h : upd H p o a = some u) : (a = p ∧ u = o) ∨ (a ≠ p ∧ H a = some u) := by
  by_cases e : a = p
  · subst e; rw [upd_same] at h; cases h; exact .inl ⟨rfl, rfl⟩
  · rw [upd_ne e] at h; exact .inr ⟨e, h⟩
theorem Res.tup {ds : List D} {xs : List V} {p : Addr} (s : Same F H) (h : Res K F H (.fr (.tuple ds)) Q) (x : DzAll K F xs ds) (hp : H p = none) : Q (.ref p) (upd H p (.tup xs)) := by
  have fp : F p = none := s.free hp
  refine h _ (upd F p (.tup xs)) _ ⟨same_upd fp, same_upd hp, fun a o e => ?_, fun a o e => ?_⟩ (.tup (SqT.of upd_same) (dpAll_mono (same_upd fp) x))
  · rcases upd_cases e with ⟨rfl, _⟩ | ⟨_, q⟩
    · exact .inr hp
    · exact .inl q
  · rcases upd_cases e with ⟨rfl, rfl⟩ | ⟨q, q2⟩
    · exact upd_same
    · rw [upd_ne q]; exact s _ _ q2
theorem Res.lst {ds : List D} {xs : List V} {p : Addr} (s : Same F H) (h : Res K F H (.nw (.list ds)) Q) (x : DzAll K F xs ds) (hp : H p = none) : Q (.ref p) (upd H p (.lst xs)) := by
  have fp : F p = none := s.free hp
  exact h _ F _ ⟨.refl _, same_upd hp, fun a o e => .inl e, s.trans (same_upd hp)⟩ ⟨p, rfl, ⟨fp, ds, xs, rfl, upd_same, x⟩, hp⟩
/-- an operand's value -/
theorem rs_ok {p : P} {v : V} {d : D} (s : SO K F H σ n) (h : pv1 K F σ v p) (e : rs n p = some d) : Dq K F H v d := by
  cases p with
  | dd x => cases e; exact .inl h
  | io i => cases e
  | sl i =>
    have e : (n[i]?).bind slD = some d := e
    cases q : n[i]? with
    | none => rw [q] at e; cases e
    | some t =>
      rw [q] at e
      have z := s.sl i t q
      have h : σ[i]? = some (some v) := h
      cases t with
      | un => cases e
      | er c x => cases e
      | fz x => cases e; obtain ⟨w, e1, e2⟩ := z; rw [h] at e1; cases e1; exact .inl e2
      | ow x => cases e; obtain ⟨w, e1, e2⟩ := z; rw [h] at e1; cases e1; exact .inr ⟨w, rfl, e2⟩
      | pn x => cases e; obtain ⟨w, e1, e2⟩ := z; rw [h] at e1; cases e1; exact .inr ⟨w, rfl, e2⟩
inductive DqAll (K : PySem.W.Frag) (F H : Hp) : List V → List D → Prop where
  | nil : DqAll K F H [] []
  | cons {v : V} {vs : List V} {d : D} {ds : List D} : Dq K F H v d → DqAll K F H vs ds → DqAll K F H (v :: vs) (d :: ds)
theorem rsl_ok {vs : List V} {ps : List P} (s : SO K F H σ n) (h : PsOk K F σ vs ps) : ∀ {ds : List D}, rsl n ps = some ds → DqAll K F H vs ds := by
  induction h with
  | nil => intro ds e; cases e; exact .nil
  | cons a _ ih =>
    rename_i v vs p ps _
    intro ds e
    have e : ((rs n p).bind fun d => (rsl n ps).map (d :: ·)) = some ds := e
    cases q : rs n p with
    | none => rw [q] at e; cases e
    | some d =>
      rw [q] at e
      cases q2 : rsl n ps with
      | none => rw [q2] at e; cases e
      | some r => rw [q2] at e; cases e; exact .cons (rs_ok s a q) (ih q2)
theorem frl_ok {vs : List V} {ps : List P} (h : PsOk K F σ vs ps) : ∀ {ds : List D}, frl ps = some ds → DzAll K F vs ds := by
  induction h with
  | nil => intro ds e; cases e; exact .nil
  | cons a _ ih =>
    rename_i v vs p ps _
    intro ds e
    cases p with
    | sl i => cases e
    | io i => cases e
    | dd x =>
      have e : (frl ps).map (x :: ·) = some ds := e
      cases q2 : frl ps with
      | none => rw [q2] at e; cases e
      | some r => rw [q2] at e; cases e; exact .cons a (ih q2)
theorem Dq.dp {v : V} {d : D} (s : Same F H) (h : Dq K F H v d) : Dz K H v d := by
  rcases h with h | ⟨a, rfl, _, ds, xs, rfl, h1, h2⟩
  · exact dp_mono s h
  · exact .lst (.inl h1) (dpAll_mono s h2)
theorem Dq.int {v : V} {i : Int} (h : Dq K F H v (.int i)) : v = .int i := by
  rcases h with h | ⟨a, rfl, _, ds, xs, e, _⟩
  · cases h; rfl
  · cases e
theorem Dq.bool {v : V} {i : Bool} (h : Dq K F H v (.bool i)) : v = .bl i := by
  rcases h with h | ⟨a, rfl, _, ds, xs, e, _⟩
  · cases h; rfl
  · cases e
theorem Dq.none {v : V} (h : Dq K F H v .none) : v = .non := by
  rcases h with h | ⟨a, rfl, _, ds, xs, e, _⟩
  · cases h; rfl
  · cases e
theorem Dq.str {v : V} {x : Str} (h : Dq K F H v (.str x)) : v = .str x := by
  rcases h with h | ⟨a, rfl, _, ds, xs, e, _⟩
  · cases h; rfl
  · cases e
theorem Dq.tup {v : V} {ds : List D} (h : Dq K F H v (.tuple ds)) : ∃ a xs, v = .ref a ∧ SqT K F a xs ∧ DzAll K F xs ds := by
  rcases h with h | ⟨a, rfl, _, ds, xs, e, _⟩
  · cases h with | tup h1 h2 => exact ⟨_, _, rfl, h1, h2⟩
  · cases e
theorem Dq.lst {v : V} {ds : List D} (s : Same F H) (h : Dq K F H v (.list ds)) : ∃ a xs, v = .ref a ∧ Rd H a (.lst xs) ∧ DzAll K F xs ds := by
  rcases h with h | ⟨a, rfl, _, ds, xs, e, h1, h2⟩
  · cases h with | lst h1 h2 => exact ⟨_, _, rfl, rd_mono s h1, h2⟩
  · cases e; exact ⟨_, _, rfl, .inl h1, h2⟩
theorem dpAll_len {vs : List V} {ds : List D} (h : DzAll K F vs ds) : vs.length = ds.length := by
  induction ds generalizing vs with
  | nil => cases h; rfl
  | cons d ds ih => cases h with | cons a b => simp only [List.length_cons, ih b]
theorem dpAll_get {vs : List V} {ds : List D} (h : DzAll K F vs ds) : ∀ {i : Nat} {d : D}, ds[i]? = some d → ∃ v, vs[i]? = some v ∧ Dz K F v d := by
  induction ds generalizing vs with
  | nil => intro i d e; simp at e
  | cons x ds ih =>
    cases h with
    | cons a b =>
      intro i d e
      cases i with
      | zero => simp at e; subst e; exact ⟨_, by simp, a⟩
      | succ i => simp at e; obtain ⟨v, h1, h2⟩ := ih b e; exact ⟨v, by simpa using h1, h2⟩
theorem dpAll_app {vs ws : List V} {ds es : List D} (h : DzAll K F vs ds) (g : DzAll K F ws es) : DzAll K F (vs ++ ws) (ds ++ es) := by
  induction ds generalizing vs with
  | nil => cases h; exact g
  | cons x ds ih => cases h with | cons a b => exact .cons a (ih b)
theorem dpAll_take {vs : List V} {ds : List D} (h : DzAll K F vs ds) : ∀ (m : Nat), DzAll K F (vs.take m) (ds.take m) := by
  induction ds generalizing vs with
  | nil => cases h; intro m; simp; exact .nil
  | cons x ds ih => cases h with | cons a b => intro m; cases m with
    | zero => exact .nil
    | succ m => exact .cons a (ih b m)
theorem dpAll_drop {vs : List V} {ds : List D} (h : DzAll K F vs ds) : ∀ (m : Nat), DzAll K F (vs.drop m) (ds.drop m) := by
  induction ds generalizing vs with
  | nil => cases h; intro m; simp; exact .nil
  | cons x ds ih => cases h with | cons a b => intro m; cases m with
    | zero => exact .cons a b
    | succ m => exact ih b m
theorem dpAll_rev {vs : List V} {ds : List D} (h : DzAll K F vs ds) : DzAll K F vs.reverse ds.reverse := by
  induction ds generalizing vs with
  | nil => cases h; exact .nil
  | cons x ds ih => cases h with | cons a b => rw [List.reverse_cons, List.reverse_cons]; exact dpAll_app (ih b) (.cons a .nil)
theorem dpAll_nil {vs : List V} (h : DzAll K F vs []) : vs = [] := by cases h; rfl
end
end Z

set_option Elab.async false
set_option linter.all false
set_option maxRecDepth 100000
set_option maxHeartbeats 4000000
namespace Z
open PySem PySem.Spec PyProof.Rows L2

def BOp.py : BOp → Operator
  | .add => .Add
  | .sub => .Sub
  | .mul => .Mult
  | .fdiv => .FloorDiv
  | .mod => .Mod
  | .pow => .Pow
def COp.py : COp → CmpOp
  | .eq => .Eq
  | .ne => .NotEq
  | .lt => .Lt
  | .le => .LtE
  | .gt => .Gt
  | .ge => .GtE
  | .is => .Is
  | .isn => .IsNot
  | .isin => .In
  | .nin => .NotIn

theorem fitL_ok {n : Nat} (h : fitL n = true) : n ≤ sizeLine := of_decide_eq_true h
theorem ite_some {c : Bool} {α : Type} {a b : α} (h : (if c then some a else none) = some b) : c = true ∧ a = b := by
  cases c with
  | true => exact ⟨rfl, Option.some.inj h⟩
  | false => cases h

def rBin (K : PySem.W.Frag) (o : BOp) : R2 := fun v w H Q => ∃ F x y res, Same F H ∧ Dq K F H v x ∧ Dq K F H w y ∧ binD o x y = some res ∧ Res K F H res Q
def rCmp (K : PySem.W.Frag) (o : COp) : R2 := fun v w H Q => ∃ F x y b, Same F H ∧ Dq K F H v x ∧ Dq K F H w y ∧ cmpD o x y = some b ∧ Q (.bl b) H
def rOp (K : PySem.W.Frag) (o : Op) : List V → Hp → VK → Prop := fun vs H Q => ∃ F ds res, Same F H ∧ DqAll K F H vs ds ∧ opD o ds = some res ∧ Res K F H res Q

section
variable {X : Cx}
/-- list + list, tracked or locked -/
theorem op_catR : OpR X (binaryOp .Add) fun x y H Q => ∃ l b xs zs, x = .ref l ∧ y = .ref b ∧ Rd H l (.lst xs) ∧ Rd H b (.lst zs) ∧ xs.length + zs.length ≤ sizeLine ∧ ∀ p, H p = none → Q (.ref p) (upd H p (.lst (xs ++ zs))) := by
  intro pins s σ H x y v u Q I rx ry h
  obtain ⟨l, b, xs, zs, rfl, rfl, hl, hb, hz, q⟩ := h
  cases rx
  cases ry
  obtain ⟨_, i1, n1, r1, e1⟩ := hl.ok I.hok
  obtain ⟨_, i2, n2, r2, e2⟩ := hb.ok I.hok
  have l1 := r1.length
  have l2 := r2.length
  refine PySem.P.add_list e1 e2 ?_ (by rw [List.size_toArray, List.size_toArray]; omega)
  rw [show i1.toArray ++ i2.toArray = (i1 ++ i2).toArray by simp]
  exact ⟨.ref _, _, I.lnew (t' := s.toks) (r1.append r2) (by rw [List.length_append]; exact hz), rfl, q _ I.fresh⟩
/-- list * int, tracked or locked -/
theorem op_repR : OpR X (binaryOp .Mult) fun x y H Q => ∃ l k xs, x = .ref l ∧ y = .int k ∧ Rd H l (.lst xs) ∧ rngOk k = true ∧ xs.length * k.toNat ≤ sizeLine ∧ ∀ p, H p = none → Q (.ref p) (upd H p (.lst (List.replicate k.toNat xs).flatten)) := by
  intro pins s σ H x y v u Q I rx ry h
  obtain ⟨l, k, xs, rfl, rfl, hl, hk, hz, q⟩ := h
  obtain ⟨k1, k2⟩ := of_decide_eq_true hk
  rcases hl with hl | ⟨o, hl⟩
  · exact op_rep pins s σ H _ _ v u Q I rx ry ⟨l, k, xs, rfl, rfl, hl, by omega, by omega, hz, q⟩
  · cases rx
    obtain ⟨t, rfl⟩ := ry
    have hl2 : Rd H l (.lst xs) := .inr ⟨o, hl⟩
    obtain ⟨_, i1, n1, r1, e1⟩ := hl2.ok I.hok
    have l1 := r1.length
    have a1 : i1.toArray.size * k.toNat ≤ sizeLine := by rw [List.size_toArray, ← l1]; exact hz
    have a2 : ¬ i1.toArray.size * k.toNat > (2 ^ 63 - 1) / 8 := by
      have : (sizeLine : Nat) ≤ (2 ^ 63 - 1) / 8 := by decide
      omega
    have a3 : ¬ (!Builtin.List.listFitsIndex k) = true := by
      rw [fitsIndex_both (by omega) (by omega)]; decide
    have a4 : ¬ Builtin.List.listTooLong (i1.toArray.size * k.toNat) = true := by rw [notLongL a1]; decide
    have a5 : List.foldl (fun x1 x2 => x1 ++ x2) #[] (List.replicate (if i1.toArray.isEmpty = true then 0 else k.toNat) i1.toArray) = (List.replicate k.toNat i1).flatten.toArray := by
      rw [size_rep]
      cases i1 with
      | nil => simp
      | cons _ _ => rw [if_neg (by simp)]
    refine wpAny_binaryOp_repeat_ref (T := "list") (U := "int") (by decide) ⟨_, e1, rfl⟩ (fun s' => typeIs_int s' k t) noFill_list_mul F.fills_int_mul F.slot_int_rmul repeat_list F.slot_int_index.lookup ?_
    refine call_meets F.slot_int_rmul (typeIs_int s k t) F.entry_int_rmul (F.args_int_rmul_2 _ _) (int___rmul___int_list k t l i1.toArray n1) ⟨e1, rfl, ⟨_, e1, rfl⟩, ?_⟩
    refine call_meets F.slot_list_mul ⟨_, e1, rfl⟩ F.entry_list_mul (F.args_list_mul_2 _ _) (AutoListH.list___mul___list_int_3 l i1.toArray n1 k t a3 a2 a4) ⟨e1, ?_⟩
    rw [a5]
    exact ⟨.ref _, _, I.lnew (t' := s.toks) (r1.rep k.toNat) (by rw [PyProof.Rows.lm_len_rep_flat, Nat.mul_comm]; exact hz), rfl, q _ I.fresh⟩
theorem dpAll_rep {K : PySem.W.Frag} {F : Hp} {vs : List V} {ds : List D} (h : DzAll K F vs ds) : ∀ m : Nat, DzAll K F (List.replicate m vs).flatten (List.replicate m ds).flatten
  | 0 => .nil
  | m + 1 => by rw [List.replicate_succ, List.replicate_succ, List.flatten_cons, List.flatten_cons]; exact dpAll_app h (dpAll_rep h m)
theorem op_inT (hu : X.A.units + 65 < cLine) : OpR X (compareOp .In) (fun x y H Q => ∃ d ds, Dp X.K H x d ∧ Dp X.K H y (.tuple ds) ∧ SeqAt.shaped d = true ∧ SeqAt.shaped (.tuple ds) = true ∧ Q (.bl (ds.any fun z => PyData.eqv z d)) H) := by
  intro pins s σ H x y v u Q I rx ry h
  obtain ⟨d, ds, hx, hy, s1, s2, q⟩ := h
  obtain ⟨_, r1⟩ := Dp.reads I d x v hx rx
  obtain ⟨_, r2⟩ := Dp.reads I (.tuple ds) y u hy ry
  exact SeqAt.in_tuple_reads r2 r1 (SeqAt.canLay_of_shaped s2) (SeqAt.canLay_of_shaped s1) (room_in_shaped s1 hu) ⟨.bl _, H, I, rfl, q⟩
theorem op_ninT (hu : X.A.units + 65 < cLine) : OpR X (compareOp .NotIn) (fun x y H Q => ∃ d ds, Dp X.K H x d ∧ Dp X.K H y (.tuple ds) ∧ SeqAt.shaped d = true ∧ SeqAt.shaped (.tuple ds) = true ∧ Q (.bl (!ds.any fun z => PyData.eqv z d)) H) := by
  intro pins s σ H x y v u Q I rx ry h
  obtain ⟨d, ds, hx, hy, s1, s2, q⟩ := h
  obtain ⟨_, r1⟩ := Dp.reads I d x v hx rx
  obtain ⟨_, r2⟩ := Dp.reads I (.tuple ds) y u hy ry
  exact SeqAt.notIn_tuple_reads r2 r1 (SeqAt.canLay_of_shaped s2) (SeqAt.canLay_of_shaped s1) (room_in_shaped s1 hu) ⟨.bl _, H, I, rfl, q⟩
theorem op_bin (o : BOp) : OpR X (binaryOp o.py) (rBin X.K o) := by
  intro pins s σ H v w u1 u2 Q I rv rw' h
  obtain ⟨F, x, y, res, sub, dx, dy, e, q⟩ := h
  cases o with
  | add =>
    cases x <;> cases y <;> try (cases e; done)
    · cases e; rw [dx.int] at rv; rw [dy.int] at rw'
      exact op_add pins s σ H _ _ u1 u2 Q I rv rw' ⟨_, _, rfl, rfl, q.int sub⟩
    · obtain ⟨h1, h2⟩ := ite_some e; cases h2
      rw [dx.str] at rv; rw [dy.str] at rw'
      exact op_add_str pins s σ H _ _ u1 u2 Q I rv rw' ⟨_, _, rfl, rfl, fitL_ok h1, q.now sub (.str _)⟩
    · obtain ⟨h1, h2⟩ := ite_some e; cases h2
      obtain ⟨a, xs, rfl, ha, dxs⟩ := dx.lst sub
      obtain ⟨b, ys, rfl, hb, dys⟩ := dy.lst sub
      exact op_catR pins s σ H _ _ u1 u2 Q I rv rw' ⟨a, b, xs, ys, rfl, rfl, ha, hb, by rw [dpAll_len dxs, dpAll_len dys]; exact fitL_ok h1, fun p hp => q.lst sub (dpAll_app dxs dys) hp⟩
    · obtain ⟨h1, h2⟩ := ite_some e; cases h2
      obtain ⟨a, xs, rfl, ha, dxs⟩ := dx.tup
      obtain ⟨b, ys, rfl, hb, dys⟩ := dy.tup
      refine op_catA pins s σ H _ _ u1 u2 Q I rv rw' ⟨a, b, xs, ys, rfl, rfl, sqT_mono sub ha, sqT_mono sub hb, by rw [dpAll_len dxs, dpAll_len dys]; exact fitL_ok h1, fun z => ?_, fun _ z => ?_, fun _ _ p hp => q.tup sub (dpAll_app dxs dys) hp⟩
      · subst z
        have z2 : _ = [] := List.eq_nil_of_length_eq_zero (dpAll_len dxs).symm
        refine q.now sub ?_
        rw [z2, List.nil_append]
        exact .tup hb dys
      · subst z
        have z2 : _ = [] := List.eq_nil_of_length_eq_zero (dpAll_len dys).symm
        refine q.now sub ?_
        rw [z2, List.append_nil]
        exact .tup ha dxs
  | sub =>
    cases x <;> cases y <;> try (cases e; done)
    cases e; rw [dx.int] at rv; rw [dy.int] at rw'
    exact op_sub pins s σ H _ _ u1 u2 Q I rv rw' ⟨_, _, rfl, rfl, q.int sub⟩
  | mul =>
    cases x <;> cases y <;> try (cases e; done)
    · obtain ⟨h1, h2⟩ := ite_some e; cases h2
      rw [dx.int] at rv; rw [dy.int] at rw'
      refine op_mul pins s σ H _ _ u1 u2 Q I rv rw' ⟨_, _, rfl, rfl, ?_, q.int sub⟩
      rcases Bool.or_eq_true_iff.mp h1 with z | z
      · exact .inl (of_decide_eq_true z)
      · exact .inr (of_decide_eq_true z)
    · obtain ⟨h1, h2⟩ := ite_some e; cases h2
      obtain ⟨h3, h4⟩ := Bool.and_eq_true_iff.mp h1
      obtain ⟨a, xs, rfl, ha, dxs⟩ := dx.lst sub
      rw [dy.int] at rw'
      exact op_repR pins s σ H _ _ u1 u2 Q I rv rw' ⟨a, _, xs, rfl, rfl, ha, h3, by rw [dpAll_len dxs]; exact fitL_ok h4, fun p hp => by rw [dy.int] at *; exact q.lst sub (dpAll_rep dxs _) hp⟩
    · obtain ⟨h1, h2⟩ := ite_some e; cases h2
      obtain ⟨h3, h4⟩ := Bool.and_eq_true_iff.mp h1
      obtain ⟨h5, h6, h7⟩ := of_decide_eq_true h4
      obtain ⟨a, xs, rfl, ha, dxs⟩ := dx.tup
      rw [dy.int] at rw'
      have hl := dpAll_len dxs
      refine op_repT pins s σ H _ _ u1 u2 Q I rv rw' ⟨a, _, xs, rfl, rfl, sqT_mono sub ha, fun z => ?_, h5, h6, by omega, fun p hp => q.tup sub (dpAll_rep dxs _) hp⟩
      subst z
      have := List.eq_nil_of_length_eq_zero hl.symm
      subst this
      cases h3
  | fdiv =>
    cases x <;> cases y <;> try (cases e; done)
    obtain ⟨h1, h2⟩ := ite_some e; cases h2
    have h3 := of_decide_eq_true h1
    rw [dx.int] at rv; rw [dy.int] at rw'
    exact op_fdivN pins s σ H _ _ u1 u2 Q I rv rw' ⟨_, _, rfl, rfl, h3, q.int sub⟩
  | mod =>
    cases x <;> cases y <;> try (cases e; done)
    obtain ⟨h1, h2⟩ := ite_some e; cases h2
    have h3 := of_decide_eq_true h1
    rw [dx.int] at rv; rw [dy.int] at rw'
    exact op_modN pins s σ H _ _ u1 u2 Q I rv rw' ⟨_, _, rfl, rfl, h3, q.int sub⟩
  | pow =>
    cases x <;> cases y <;> try (cases e; done)
    obtain ⟨h1, h2⟩ := ite_some e; cases h2
    have h3 := of_decide_eq_true h1
    rw [dx.int] at rv; rw [dy.int] at rw'
    exact op_pow pins s σ H _ _ u1 u2 Q I rv rw' ⟨_, _, rfl, rfl, h3, q.int sub⟩
theorem isNone_dec {K : PySem.W.Frag} {F H : Hp} {v : V} {x : D} (h : Dq K F H v x) : decide (v = V.non) = isNone x := by
  rcases h with h | ⟨a, rfl, _, ds, xs, rfl, _⟩
  · cases h <;> rfl
  · rfl
theorem op_cmp (hu : X.A.units + 65 < cLine) (o : COp) : OpR X (compareOp o.py) (rCmp X.K o) := by
  intro pins s σ H v w u1 u2 Q I rv rw' h
  obtain ⟨F, x, y, b, sub, dx, dy, e, q⟩ := h
  cases o with
  | eq =>
    obtain ⟨h1, h2⟩ := ite_some (show (if SeqAt.shaped x && SeqAt.shaped y then some (PyData.eqv x y) else none) = some b from e)
    obtain ⟨h3, h4⟩ := Bool.and_eq_true_iff.mp h1
    subst h2
    exact op_eqD (by omega) pins s σ H _ _ u1 u2 Q I rv rw' ⟨x, y, (dx.dp sub).toDp, (dy.dp sub).toDp, h3, h4, q⟩
  | ne =>
    obtain ⟨h1, h2⟩ := ite_some (show (if SeqAt.shaped x && SeqAt.shaped y then some (!PyData.eqv x y) else none) = some b from e)
    obtain ⟨h3, h4⟩ := Bool.and_eq_true_iff.mp h1
    subst h2
    exact op_neD (by omega) pins s σ H _ _ u1 u2 Q I rv rw' ⟨x, y, (dx.dp sub).toDp, (dy.dp sub).toDp, h3, h4, q⟩
  | lt =>
    cases x <;> cases y <;> try (cases e; done)
    cases e; rw [dx.int] at rv; rw [dy.int] at rw'
    exact op_lt pins s σ H _ _ u1 u2 Q I rv rw' ⟨_, _, rfl, rfl, q⟩
  | le =>
    cases x <;> cases y <;> try (cases e; done)
    cases e; rw [dx.int] at rv; rw [dy.int] at rw'
    exact op_le pins s σ H _ _ u1 u2 Q I rv rw' ⟨_, _, rfl, rfl, q⟩
  | gt =>
    cases x <;> cases y <;> try (cases e; done)
    cases e; rw [dx.int] at rv; rw [dy.int] at rw'
    exact op_gt pins s σ H _ _ u1 u2 Q I rv rw' ⟨_, _, rfl, rfl, q⟩
  | ge =>
    cases x <;> cases y <;> try (cases e; done)
    cases e; rw [dx.int] at rv; rw [dy.int] at rw'
    exact op_ge pins s σ H _ _ u1 u2 Q I rv rw' ⟨_, _, rfl, rfl, q⟩
  | is =>
    cases y <;> try (cases x <;> (cases e; done))
    have e : isNone x = b := Option.some.inj (show some (isNone x) = some b by rw [← e] <;> cases x <;> rfl)
    subst e
    rw [dy.none] at rw'
    refine op_isN pins s σ H _ _ u1 u2 Q I rv rw' ⟨rfl, ?_⟩
    rw [isNone_dec dx]; exact q
  | isn =>
    cases y <;> try (cases x <;> (cases e; done))
    have e : (!isNone x) = b := Option.some.inj (show some (!isNone x) = some b by rw [← e] <;> cases x <;> rfl)
    subst e
    rw [dy.none] at rw'
    refine op_notN pins s σ H _ _ u1 u2 Q I rv rw' ⟨rfl, ?_⟩
    rw [isNone_dec dx]; exact q
  | isin =>
    cases y <;> try (cases x <;> (cases e; done))
    · rename_i ys
      obtain ⟨h1, h2⟩ := ite_some (show (if SeqAt.shaped x && SeqAt.shaped (.list ys) then some (ys.any fun z => PyData.eqv z x) else none) = some b by rw [← e] <;> cases x <;> rfl)
      obtain ⟨h3, h4⟩ := Bool.and_eq_true_iff.mp h1
      subst h2
      exact op_inD hu pins s σ H _ _ u1 u2 Q I rv rw' ⟨x, ys, (dx.dp sub).toDp, (dy.dp sub).toDp, h3, h4, q⟩
    · rename_i ys
      obtain ⟨h1, h2⟩ := ite_some (show (if SeqAt.shaped x && SeqAt.shaped (.tuple ys) then some (ys.any fun z => PyData.eqv z x) else none) = some b by rw [← e] <;> cases x <;> rfl)
      obtain ⟨h3, h4⟩ := Bool.and_eq_true_iff.mp h1
      subst h2
      exact op_inT hu pins s σ H _ _ u1 u2 Q I rv rw' ⟨x, ys, (dx.dp sub).toDp, (dy.dp sub).toDp, h3, h4, q⟩
  | nin =>
    cases y <;> try (cases x <;> (cases e; done))
    · rename_i ys
      obtain ⟨h1, h2⟩ := ite_some (show (if SeqAt.shaped x && SeqAt.shaped (.list ys) then some (!ys.any fun z => PyData.eqv z x) else none) = some b by rw [← e] <;> cases x <;> rfl)
      obtain ⟨h3, h4⟩ := Bool.and_eq_true_iff.mp h1
      subst h2
      exact op_notInD hu pins s σ H _ _ u1 u2 Q I rv rw' ⟨x, ys, (dx.dp sub).toDp, (dy.dp sub).toDp, h3, h4, q⟩
    · rename_i ys
      obtain ⟨h1, h2⟩ := ite_some (show (if SeqAt.shaped x && SeqAt.shaped (.tuple ys) then some (!ys.any fun z => PyData.eqv z x) else none) = some b by rw [← e] <;> cases x <;> rfl)
      obtain ⟨h3, h4⟩ := Bool.and_eq_true_iff.mp h1
      subst h2
      exact op_ninT hu pins s σ H _ _ u1 u2 Q I rv rw' ⟨x, ys, (dx.dp sub).toDp, (dy.dp sub).toDp, h3, h4, q⟩

def rNeg (K : PySem.W.Frag) : V → Hp → VK → Prop := fun v H Q => ∃ F x res, Same F H ∧ Dq K F H v x ∧ opD .neg [x] = some res ∧ Res K F H res Q
theorem un_negZ : UnR X (unaryOp .USub) (rNeg X.K) := by
  intro pins s σ H v u Q I rv h
  obtain ⟨F, x, res, sub, dx, e, q⟩ := h
  cases x <;> try (cases e; done)
  cases e; rw [dx.int] at rv
  exact un_neg pins s σ H _ u Q I rv ⟨_, rfl, q.int sub⟩
theorem dqAll1 {K : PySem.W.Frag} {F H : Hp} {vs : List V} {d : D} (h : DqAll K F H vs [d]) : ∃ v, vs = [v] ∧ Dq K F H v d := by
  cases h with
  | cons a b => cases b; exact ⟨_, rfl, a⟩
theorem dqAll2 {K : PySem.W.Frag} {F H : Hp} {vs : List V} {d e : D} (h : DqAll K F H vs [d, e]) : ∃ v w, vs = [v, w] ∧ Dq K F H v d ∧ Dq K F H w e := by
  cases h with
  | cons a b => obtain ⟨w, rfl, c⟩ := dqAll1 b; exact ⟨_, _, rfl, a, c⟩
theorem boolsD_ok {K : PySem.W.Frag} {F : Hp} : ∀ {ds : List D} {vs : List V} {bs : List Bool}, DzAll K F vs ds → boolsD ds = some bs → vs = bs.map V.bl
  | [], _, _, h, e => by cases h; cases e; rfl
  | d :: ds, _, _, h, e => by
    cases h with
    | cons a b =>
      cases d <;> try (cases e; done)
      rename_i k
      have e : (boolsD ds).map (k :: ·) = some _ := e
      cases q : boolsD ds with
      | none => rw [q] at e; cases e
      | some r => rw [q] at e; cases e; cases a; rw [boolsD_ok b q]; rfl
theorem intsD_ok {K : PySem.W.Frag} {F : Hp} : ∀ {ds : List D} {vs : List V} {bs : List Int}, DzAll K F vs ds → intsD ds = some bs → vs = bs.map V.int
  | [], _, _, h, e => by cases h; cases e; rfl
  | d :: ds, _, _, h, e => by
    cases h with
    | cons a b =>
      cases d <;> try (cases e; done)
      rename_i k
      have e : (intsD ds).map (k :: ·) = some _ := e
      cases q : intsD ds with
      | none => rw [q] at e; cases e
      | some r => rw [q] at e; cases e; cases a; rw [intsD_ok b q]; rfl
theorem opD1 {o : Op} {ds : List D} {res : R} (h : ∀ x, opD o [x] ≠ none → True) (e : opD o ds = some res) : True := trivial
section
variable {K : PySem.W.Frag}
theorem cl_len : CallR X (.builtin "len") (rOp X.K .len) := by
  intro pins s σ H vs us Q I rv h
  obtain ⟨F, ds, res, sub, dx, e, q⟩ := h
  cases ds with
  | nil => cases e
  | cons d r =>
    cases r with
    | cons _ _ => cases d <;> cases e
    | nil =>
      obtain ⟨v, rfl, dv⟩ := dqAll1 dx
      cases d <;> try (cases e; done)
      · obtain ⟨h1, h2⟩ := ite_some e; cases h2
        rw [dv.str] at rv
        exact call_len_str pins s σ H _ us Q I rv ⟨_, rfl, fitL_ok h1, q.int sub⟩
      · cases e
        obtain ⟨a, xs, rfl, ha, dxs⟩ := dv.lst sub
        refine call_len_seq pins s σ H _ us Q I rv ⟨a, xs, rfl, .inl (.inl ha), ?_⟩
        rw [dpAll_len dxs]; exact q.int sub
      · cases e
        obtain ⟨a, xs, rfl, ha, dxs⟩ := dv.tup
        refine call_len_seq pins s σ H _ us Q I rv ⟨a, xs, rfl, .inr (sqT_mono sub ha), ?_⟩
        rw [dpAll_len dxs]; exact q.int sub
theorem cl_all (hc : X.calm = true) : CallR X (.builtin "all") (rOp X.K .all) := by
  intro pins s σ H vs us Q I rv h
  obtain ⟨F, ds, res, sub, dx, e, q⟩ := h
  cases ds with
  | nil => cases e
  | cons d r =>
    cases r with
    | cons _ _ => cases d <;> cases e
    | nil =>
      obtain ⟨v, rfl, dv⟩ := dqAll1 dx
      cases d <;> try (cases e; done)
      rename_i xs
      have e : (boolsD xs).map (fun bs => dbl (bs.all id)) = some res := e
      cases z : boolsD xs with
      | none => rw [z] at e; cases e
      | some bs =>
        rw [z] at e; cases e
        obtain ⟨a, vs, rfl, ha, dxs⟩ := dv.lst sub
        rw [boolsD_ok dxs z] at ha
        exact cr_all hc pins s σ H _ us Q I rv ⟨a, bs, rfl, .inl ha, q.bl sub⟩
theorem cl_any (hc : X.calm = true) : CallR X (.builtin "any") (rOp X.K .any) := by
  intro pins s σ H vs us Q I rv h
  obtain ⟨F, ds, res, sub, dx, e, q⟩ := h
  cases ds with
  | nil => cases e
  | cons d r =>
    cases r with
    | cons _ _ => cases d <;> cases e
    | nil =>
      obtain ⟨v, rfl, dv⟩ := dqAll1 dx
      cases d <;> try (cases e; done)
      rename_i xs
      have e : (boolsD xs).map (fun bs => dbl (bs.any id)) = some res := e
      cases z : boolsD xs with
      | none => rw [z] at e; cases e
      | some bs =>
        rw [z] at e; cases e
        obtain ⟨a, vs, rfl, ha, dxs⟩ := dv.lst sub
        rw [boolsD_ok dxs z] at ha
        exact cr_any hc pins s σ H _ us Q I rv ⟨a, bs, rfl, .inl ha, q.bl sub⟩
theorem cl_sum (hc : X.calm = true) : CallR X (.builtin "sum") (rOp X.K .sum) := by
  intro pins s σ H vs us Q I rv h
  obtain ⟨F, ds, res, sub, dx, e, q⟩ := h
  cases ds with
  | nil => cases e
  | cons d r =>
    cases r with
    | cons _ _ => cases d <;> cases e
    | nil =>
      obtain ⟨v, rfl, dv⟩ := dqAll1 dx
      cases d <;> try (cases e; done)
      rename_i xs
      have e : (intsD xs).map (fun ns => dint ns.sum) = some res := e
      cases z : intsD xs with
      | none => rw [z] at e; cases e
      | some bs =>
        rw [z] at e; cases e
        obtain ⟨a, vs, rfl, ha, dxs⟩ := dv.lst sub
        rw [intsD_ok dxs z] at ha
        exact cr_sum hc pins s σ H _ us Q I rv ⟨a, bs, rfl, .inl ha, q.int sub⟩
theorem cl_abs : CallR X (.builtin "abs") (rOp X.K .abs) := by
  intro pins s σ H vs us Q I rv h
  obtain ⟨F, ds, res, sub, dx, e, q⟩ := h
  cases ds with
  | nil => cases e
  | cons d r =>
    cases r with
    | cons _ _ => cases d <;> cases e
    | nil =>
      obtain ⟨v, rfl, dv⟩ := dqAll1 dx
      cases d <;> try (cases e; done)
      cases e
      rw [dv.int] at rv
      exact call_abs pins s σ H _ us Q I rv ⟨_, rfl, q.int sub⟩
theorem cl_int1 : CallR X (.type "int") (rOp X.K .int1) := by
  intro pins s σ H vs us Q I rv h
  obtain ⟨F, ds, res, sub, dx, e, q⟩ := h
  cases ds with
  | nil => cases e
  | cons d r =>
    cases r with
    | cons _ _ => cases d <;> cases e
    | nil =>
      obtain ⟨v, rfl, dv⟩ := dqAll1 dx
      cases d <;> try (cases e; done)
      · cases e
        rw [dv.bool] at rv
        exact call_int1 pins s σ H _ us Q I rv (.inr ⟨_, rfl, q.int sub⟩)
      · cases e
        rw [dv.int] at rv
        exact call_int1 pins s σ H _ us Q I rv (.inl ⟨_, rfl, q.int sub⟩)
theorem cl_min2 (hc : X.calm = true) : CallR X (.builtin "min") (rOp X.K .min2) := by
  intro pins s σ H vs us Q I rv h
  obtain ⟨F, ds, res, sub, dx, e, q⟩ := h
  cases ds with
  | nil => cases e
  | cons d r =>
    cases r with
    | nil => cases d <;> cases e
    | cons d2 r =>
      cases r with
      | cons _ _ => cases d <;> cases d2 <;> cases e
      | nil =>
        obtain ⟨v, w', rfl, dv, dw⟩ := dqAll2 dx
        cases d <;> cases d2 <;> try (cases e; done)
        cases e
        rw [dv.int, dw.int] at rv
        exact call_min2 hc pins s σ H _ us Q I rv ⟨_, _, rfl, q.int sub⟩
theorem cl_max2 (hc : X.calm = true) : CallR X (.builtin "max") (rOp X.K .max2) := by
  intro pins s σ H vs us Q I rv h
  obtain ⟨F, ds, res, sub, dx, e, q⟩ := h
  cases ds with
  | nil => cases e
  | cons d r =>
    cases r with
    | nil => cases d <;> cases e
    | cons d2 r =>
      cases r with
      | cons _ _ => cases d <;> cases d2 <;> cases e
      | nil =>
        obtain ⟨v, w', rfl, dv, dw⟩ := dqAll2 dx
        cases d <;> cases d2 <;> try (cases e; done)
        cases e
        rw [dv.int, dw.int] at rv
        exact call_max2 hc pins s σ H _ us Q I rv ⟨_, _, rfl, q.int sub⟩
theorem cl_tup : CallR X (.type "tuple") (rOp X.K .tupOf) := by
  intro pins s σ H vs us Q I rv h
  obtain ⟨F, ds, res, sub, dx, e, q⟩ := h
  cases ds with
  | nil => cases e
  | cons d r =>
    cases r with
    | cons _ _ => cases d <;> cases e
    | nil =>
      obtain ⟨v, rfl, dv⟩ := dqAll1 dx
      cases d <;> try (cases e; done)
      · cases e
        obtain ⟨a, xs, rfl, ha, dxs⟩ := dv.lst sub
        exact call_tuple_of pins s σ H _ us Q I rv ⟨a, xs, rfl, .inl ⟨.inl ha, fun p hp => q.tup sub dxs hp⟩⟩
      · cases e
        obtain ⟨a, xs, rfl, ha, dxs⟩ := dv.tup
        exact call_tuple_of pins s σ H _ us Q I rv ⟨a, xs, rfl, .inr ⟨sqT_mono sub ha, q.now sub (.tup ha dxs)⟩⟩
theorem cl_lst : CallR X (.type "list") (rOp X.K .lstOf) := by
  intro pins s σ H vs us Q I rv h
  obtain ⟨F, ds, res, sub, dx, e, q⟩ := h
  cases ds with
  | nil => cases e
  | cons d r =>
    cases r with
    | cons _ _ => cases d <;> cases e
    | nil =>
      obtain ⟨v, rfl, dv⟩ := dqAll1 dx
      cases d <;> try (cases e; done)
      · cases e
        obtain ⟨a, xs, rfl, ha, dxs⟩ := dv.lst sub
        exact call_list_of pins s σ H _ us Q I rv ⟨a, xs, rfl, .inl (.inl ha), fun p hp => q.lst sub dxs hp⟩
      · cases e
        obtain ⟨a, xs, rfl, ha, dxs⟩ := dv.tup
        exact call_list_of pins s σ H _ us Q I rv ⟨a, xs, rfl, .inr (sqT_mono sub ha), fun p hp => q.lst sub dxs hp⟩
end

theorem srt_uniq : ∀ {a b : List Int}, a.Perm b → a.Pairwise (· ≤ ·) → b.Pairwise (· ≤ ·) → a = b
  | [], b, p, _, _ => (List.nil_perm.mp p).symm
  | x :: a, [], p, _, _ => (nomatch List.perm_nil.mp p)
  | x :: a, y :: b, p, h1, h2 => by
    obtain ⟨h3, h4⟩ := List.pairwise_cons.mp h1
    obtain ⟨h5, h6⟩ := List.pairwise_cons.mp h2
    have e : x = y := by
      rcases List.mem_cons.mp (p.mem_iff.mp List.mem_cons_self) with z | z
      · exact z
      · rcases List.mem_cons.mp (p.mem_iff.mpr (List.mem_cons_self (a := y) (l := b))) with w | w
        · exact w.symm
        · exact Int.le_antisymm (h3 _ w) (h5 _ z)
    subst e
    rw [srt_uniq ((List.perm_cons x).mp p) h4 h6]
theorem insI_perm (x : Int) : ∀ l : List Int, (insI x l).Perm (x :: l)
  | [] => .refl _
  | y :: r => by
    unfold insI
    by_cases h : x ≤ y
    · rw [if_pos h]
    · rw [if_neg h]; exact ((insI_perm x r).cons y).trans (.swap x y r)
theorem sortI_perm : ∀ l : List Int, (sortI l).Perm l
  | [] => .refl _
  | x :: r => (insI_perm x _).trans ((sortI_perm r).cons x)
theorem insI_srt (x : Int) : ∀ {l : List Int}, l.Pairwise (· ≤ ·) → (insI x l).Pairwise (· ≤ ·)
  | [], _ => List.pairwise_cons.mpr ⟨fun _ h => (nomatch h), .nil⟩
  | y :: r, h => by
    obtain ⟨h1, h2⟩ := List.pairwise_cons.mp h
    unfold insI
    by_cases hx : x ≤ y
    · rw [if_pos hx]
      exact List.pairwise_cons.mpr ⟨fun z hz => by
        rcases List.mem_cons.mp hz with e | e
        · subst e; exact hx
        · exact Int.le_trans hx (h1 z e), h⟩
    · rw [if_neg hx]
      refine List.pairwise_cons.mpr ⟨fun z hz => ?_, insI_srt x h2⟩
      rcases List.mem_cons.mp ((insI_perm x r).mem_iff.mp hz) with e | e
      · subst e; omega
      · exact h1 z e
theorem sortI_srt : ∀ l : List Int, (sortI l).Pairwise (· ≤ ·)
  | [] => .nil
  | x :: r => insI_srt x (sortI_srt r)
theorem dzAll_ints {K : PySem.W.Frag} {F : Hp} : ∀ ns : List Int, DzAll K F (ns.map V.int) (ns.map PyData.int)
  | [] => .nil
  | n :: r => .cons (.int n) (dzAll_ints r)
theorem min_uniq {ns : List Int} {k m : Int} (h : ns.min? = some k) (hm : m ∈ ns) (hl : ∀ y, y ∈ ns → m ≤ y) : m = k := by
  have h1 := List.min?_mem h
  have h2 := (List.le_min?_iff h (x := k)).mp (Int.le_refl _) m hm
  exact Int.le_antisymm (hl k h1) h2
theorem max_uniq {ns : List Int} {k m : Int} (h : ns.max? = some k) (hm : m ∈ ns) (hl : ∀ y, y ∈ ns → y ≤ m) : m = k := by
  have h1 := List.max?_mem h
  have h2 := (List.max?_le_iff h (x := k)).mp (Int.le_refl _) m hm
  exact Int.le_antisymm h2 (hl k h1)
section
variable {K : PySem.W.Frag}
theorem one_list {f : List Int → Option R} {o : Op} {vs : List V} {ds : List D} {F H : Hp} {res : R} (ho : ∀ xs, opD o [.list xs] = (intsD xs).bind f) (hn : ∀ ds, (∀ xs, ds ≠ [.list xs]) → opD o ds = none) (sub : Same F H) (dx : DqAll K F H vs ds) (e : opD o ds = some res) :
    ∃ a ns, vs = [V.ref a] ∧ Rd H a (.lst (ns.map V.int)) ∧ f ns = some res := by
  rcases Classical.em (∃ xs, ds = [.list xs]) with ⟨xs, rfl⟩ | no
  · obtain ⟨v, rfl, dv⟩ := dqAll1 dx
    rw [ho] at e
    cases z : intsD xs with
    | none => rw [z] at e; cases e
    | some ns =>
      rw [z] at e
      obtain ⟨a, ws, rfl, ha, dws⟩ := dv.lst sub
      rw [intsD_ok dws z] at ha
      exact ⟨a, ns, rfl, ha, e⟩
  · rw [hn ds fun xs q => no ⟨xs, q⟩] at e; cases e
theorem cl_minL (hc : X.calm = true) : CallR X (.builtin "min") (rOp X.K .minL) := by
  intro pins s σ H vs us Q I rv h
  obtain ⟨F, ds, res, sub, dx, e, q⟩ := h
  obtain ⟨a, ns, rfl, ha, e⟩ := one_list (o := .minL) (f := fun ns => ns.min?.map dint) (fun _ => rfl) (fun ds no => by
    rcases ds with _ | ⟨d, _ | ⟨_, _⟩⟩
    · rfl
    · cases d <;> first | rfl | exact absurd rfl (no _)
    · cases d <;> rfl) sub dx e
  cases z : ns.min? with
  | none => rw [z] at e; cases e
  | some k =>
    rw [z] at e; cases e
    refine cr_min hc pins s σ H _ us Q I rv ⟨a, ns, rfl, .inl ha, List.length_pos_of_mem (List.min?_mem z), fun m hm hl => ?_⟩
    rw [min_uniq z hm hl]; exact q.int sub
theorem cl_maxL (hc : X.calm = true) : CallR X (.builtin "max") (rOp X.K .maxL) := by
  intro pins s σ H vs us Q I rv h
  obtain ⟨F, ds, res, sub, dx, e, q⟩ := h
  obtain ⟨a, ns, rfl, ha, e⟩ := one_list (o := .maxL) (f := fun ns => ns.max?.map dint) (fun _ => rfl) (fun ds no => by
    rcases ds with _ | ⟨d, _ | ⟨_, _⟩⟩
    · rfl
    · cases d <;> first | rfl | exact absurd rfl (no _)
    · cases d <;> rfl) sub dx e
  cases z : ns.max? with
  | none => rw [z] at e; cases e
  | some k =>
    rw [z] at e; cases e
    refine cr_max hc pins s σ H _ us Q I rv ⟨a, ns, rfl, .inl ha, List.length_pos_of_mem (List.max?_mem z), fun m hm hl => ?_⟩
    rw [max_uniq z hm hl]; exact q.int sub
theorem cl_sorted : CallR X (.builtin "sorted") (rOp X.K .sorted) := by
  intro pins s σ H vs us Q I rv h
  obtain ⟨F, ds, res, sub, dx, e, q⟩ := h
  obtain ⟨a, ns, rfl, ha, e⟩ := one_list (o := .sorted) (f := fun ns => some (.nw (.list ((sortI ns).map .int)))) (fun xs => by
    show (intsD xs).map _ = _
    cases intsD xs <;> rfl) (fun ds no => by
    rcases ds with _ | ⟨d, _ | ⟨_, _⟩⟩
    · rfl
    · cases d <;> first | rfl | exact absurd rfl (no _)
    · cases d <;> rfl) sub dx e
  cases e
  refine cr_sortedI pins s σ H _ us Q I rv ⟨a, ns, rfl, .inl ha, fun ns' p h1 h2 h3 => ?_⟩
  rw [srt_uniq (h1.trans (sortI_perm ns).symm) h2 (sortI_srt ns)]
  exact q.lst sub (dzAll_ints _) h3
theorem cl_str1 : CallR X (.type "str") (rOp X.K .str1) := by
  intro pins s σ H vs us Q I rv h
  obtain ⟨F, ds, res, sub, dx, e, q⟩ := h
  rcases ds with _ | ⟨d, _ | ⟨_, _⟩⟩
  · cases e
  · obtain ⟨v, rfl, dv⟩ := dqAll1 dx
    cases d <;> try (cases e; done)
    rename_i i
    obtain ⟨h1, h2⟩ := ite_some (show (if smallI i then some (R.fr (.str (toString i))) else none) = some res from e)
    subst h2
    obtain ⟨h3, h4⟩ := of_decide_eq_true h1
    rw [dv.int] at rv
    refine call_str_int pins s σ H _ us Q I rv ⟨i, rfl, ?_, q.now sub (.str _)⟩
    by_cases z : i.natAbs = 0
    · rw [z]; decide
    · have : i.natAbs.log2 < 64 := (Nat.log2_lt z).mpr (by omega)
      omega
  · cases d <;> cases e
end
end
end Z

set_option Elab.async false
set_option linter.all false
set_option maxRecDepth 100000
set_option maxHeartbeats 4000000
namespace Z
open PySem PySem.Spec PyProof.Rows L2

/-! ## a tuple backwards -/
theorem fm_some {α β : Type} {f : α → Option β} {g : α → β} : ∀ {l : List α}, (∀ k, k ∈ l → f k = some (g k)) → l.filterMap f = l.map g
  | [], _ => rfl
  | x :: l, h => by
    rw [List.filterMap_cons, h x List.mem_cons_self, List.map_cons, fm_some fun k hk => h k (List.mem_cons_of_mem _ hk)]
theorem rev_pick (xs : List Value) : ((List.range xs.length).filterMap fun (k : Nat) => xs.toArray[((xs.length : Int) - 1 + (k : Int) * (-1)).toNat]?) = xs.reverse := by
  have h : ∀ k, k ∈ List.range xs.length → (xs.toArray[((xs.length : Int) - 1 + (k : Int) * (-1)).toNat]?) = some (xs.reverse.getD k .none) := by
    intro k hk
    have hk := List.mem_range.mp hk
    have e : ((xs.length : Int) - 1 + (k : Int) * (-1)).toNat = xs.length - 1 - k := by omega
    rw [e]
    have h2 : k < xs.reverse.length := by simpa using hk
    simp only [List.getElem?_toArray, List.getD_eq_getElem?_getD, List.getElem?_eq_getElem h2, List.getElem?_eq_getElem (show xs.length - 1 - k < xs.length by omega), Option.getD_some, List.getElem_reverse]
  rw [fm_some h]
  refine List.ext_getElem? fun i => ?_
  rw [List.getElem?_map]
  by_cases hi : i < xs.length
  · rw [List.getElem?_range hi]
    have h2 : i < xs.reverse.length := by simpa using hi
    simp [List.getElem?_eq_getElem h2, List.getD_eq_getElem?_getD]
  · rw [List.getElem?_eq_none (by simpa using hi), List.getElem?_eq_none (by simpa using hi)]
    rfl
section
variable {prog : Program} {w : World} {A : Around} {E : Value → Shared → Prop} {s : Shared}
theorem getItem_tuple_rev {t sl : Addr} {xs : List Value} {vs : Value} {Q : Value → Shared → Prop} (ht : IsTup s.heap t xs.toArray) (hs : s.heap.IsSliceOf sl .none .none vs) (ps : IsPart vs (some (-1)))
    (h : Q (.ref s.heap.objs.size) { s with heap := s.heap.push { cls := .type "tuple", data := .seq xs.reverse.toArray } }) (hz : xs.length ≤ sizeLine) : wpAny (model prog w) A (getItem (.ref t) (.ref sl)) Q E s := by
  obtain ⟨os, hos, hcs, hds⟩ := id hs
  have hTs : s.TypeIs (.ref sl) "slice" := ⟨os, hos, hcs⟩
  have fin : sizeOk (.seq xs.reverse.toArray) := by
    show xs.reverse.toArray.size ≤ sizeLine
    simpa using hz
  unfold getItem
  try with_reducible apply wpAny_holding
  first | refine wpAny_bind (wpAny_pure ?_) | skip
  apply wpAny_bind
  apply wpAny_sequenceKey ht.typeIs (by decide)
  apply wpAny_bind
  refine wpAny_callSpecial?_slot (name := Str.ofString "__getitem__") ht.typeIs PyProof.Rows.slot_tuple_getitem (wpAny_call_entry PyProof.Rows.slot_tuple_getitem ht.typeIs entry_tuple_getitem ?_ (args_tuple_getitem _ _))
  show wpAny _ _ (Builtin.Tuple.tupleItemsOf (.ref t) >>= _) _ _ s
  apply wpAny_bind
  apply tupleItemsOf_ ht
  apply wpAny_bind
  apply wpAny_typeOf hTs
  rw [if_pos (by decide)]
  apply wpAny_bind
  unfold Builtin.Slice.sliceApplied Builtin.Slice.sliceFields
  refine wpAny_bind (wpAny_bind (wpAny_field hos hds (x := .none) rfl (wpAny_bind (wpAny_field hos hds (x := .none) rfl (wpAny_bind (wpAny_field hos hds (x := vs) rfl (wpAny_pure ?_)))))))
  refine wpAny_bind (HT.slicePart_ ps ?_)
  show wpAny _ _ (if ((-1 : Int) == 0) = true then _ else _) _ _ s
  rw [if_neg (by decide)]
  refine wpAny_bind (HT.slicePart_ .none (wpAny_bind (HT.slicePart_ .none (wpAny_bind (wpAny_pure ?_)))))
  show wpAny _ _ (match Builtin.Slice.sliceAdjust none none (-1) (xs.toArray.size : Int) with | (lo, hi) => pure (lo, (-1 : Int), Builtin.Slice.slicePlaces lo hi (-1))) _ _ s
  have ea : Builtin.Slice.sliceAdjust none none (-1) (xs.toArray.size : Int) = ((xs.length : Int) - 1, -1) := by
    simp [Builtin.Slice.sliceAdjust]
  have ep : Builtin.Slice.slicePlaces ((xs.length : Int) - 1) (-1) (-1) = xs.length := by
    unfold Builtin.Slice.slicePlaces
    rw [if_neg (by decide)]
    by_cases h0 : xs.length = 0
    · rw [h0]; rfl
    · rw [if_pos (by omega)]
      have : ((xs.length : Int) - 1 - -1 - 1) / - -1 = (xs.length : Int) - 1 := by
        rw [show (- -1 : Int) = 1 by decide, Int.ediv_one]; omega
      rw [this]; omega
  rw [ea]
  show wpAny _ _ (pure ((xs.length : Int) - 1, (-1 : Int), Builtin.Slice.slicePlaces ((xs.length : Int) - 1) (-1) (-1))) _ _ s
  rw [ep]
  apply wpAny_pure
  have no : ¬ (((xs.length : Int) - 1 == 0 && (-1 : Int) == 1 && xs.length == xs.toArray.size) = true) := by
    rw [show ((-1 : Int) == 1) = false by decide]; simp
  show wpAny _ _ (if ((xs.length : Int) - 1 == 0 && (-1 : Int) == 1 && xs.length == xs.toArray.size) = true then _ else _) _ _ s
  rw [if_neg no, rev_pick xs]
  first
    | exact wpAny_bind (m := Builtin.Tuple.tupleExact _) (wpAny_newObj_type (wpAny_pure ⟨_, rfl, wpAny_pure h⟩) fin)
    | exact wpAny_bind (m := Builtin.Tuple.tupleExact _) (wpAny_newObj_type (wpAny_bind (wpAny_pure (wpAny_pure ⟨_, rfl, wpAny_pure h⟩))) fin)
    | exact wpAny_bind (wpAny_bind (m := Builtin.Tuple.tupleExact _) (wpAny_newObj_type (wpAny_pure (wpAny_pure ⟨_, rfl, wpAny_pure h⟩)) fin))
    | exact wpAny_bind (wpAny_bind (m := Builtin.Tuple.tupleExact _) (wpAny_newObj_type (wpAny_pure ⟨_, rfl, wpAny_pure h⟩) fin))
end
section
variable {X : Cx}
def rRev (K : PySem.W.Frag) : V → Hp → VK → Prop := fun v H Q => ∃ F x res, Same F H ∧ Dq K F H v x ∧ opD .rev [x] = some res ∧ Res K F H res Q
theorem pe_revZ {e : Expr} {te : TE} {k : Nat} {p1 p2 p3 pos : Pos} (he : PE X e te) : PE X (.Subscript e (.Slice none none (some (.UnaryOp .USub (.Constant (.int 1) k p1) p2)) p3) pos) (tUn (rRev X.K) te) := by
  constructor
  intro pins s σ H Q I h
  apply Subscript_
  refine thn (he.run pins s σ H _ I h) ?_
  rintro v s1 ⟨x, H1, I1, r1, F, d, res, sub, dx, e, q⟩
  have st : PO X (some (.UnaryOp .USub (.Constant (.int 1) k p1) p2)) (tPart (tUn (rU fun i => .int (-i)) (tC (.int 1)))) := po_some (pe_un un_neg pe_int)
  apply wpAny_Slice
  refine thn (po_none.run pins s1 σ H1 (fun o H2 => o = none ∧ H2 = H1) I1 ⟨rfl, rfl⟩) ?_
  rintro vl s2 ⟨l, H2, I2, pl, rfl, rfl⟩
  refine thn (po_none.run pins s2 σ H2 (fun o H3 => o = none ∧ H3 = H2) I2 ⟨rfl, rfl⟩) ?_
  rintro vu s3 ⟨u, H3, I3, pu, rfl, rfl⟩
  refine thn (st.run pins s3 σ H3 (fun o H4 => o = some (-1) ∧ H4 = H3) I3 ⟨1, rfl, -1, rfl, rfl, rfl⟩) ?_
  rintro vs s4 ⟨o, H4, I4, ps, rfl, rfl⟩
  have I5 : Inv X pins σ H4 { s4 with heap := s4.heap.push { cls := .type "slice", data := .fields #[vl, vu, vs] } } := I4.kept (t' := s4.toks) fun b ob q => Heap.get?_push_of_some _ q
  cases pl
  cases pu
  cases d <;> try (cases e; done)
  · rename_i ds
    cases e
    obtain ⟨a, xs, rfl, ha, dxs⟩ := dx.lst sub
    cases r1
    obtain ⟨hz, its, n, r, eo⟩ := ha.ok I5.hok
    obtain ⟨its', r', pl', hz'⟩ := I5.list (.inl ha : SqL X.K H4 a xs)
    have hlen := r'.length
    show wpAny (model X.prog X.w) X.A (subscriptTail _ (.Slice none none (some (.UnaryOp .USub (.Constant (.int 1) k p1) p2)) p3) (.ref a) (.ref s4.heap.objs.size)) (EP X pins σ Q) X.xe { s4 with heap := s4.heap.push { cls := .type "slice", data := .fields #[.none, .none, vs] } }
    refine tail_any (ops := [.ref a, .ref s4.heap.objs.size]) pl'.isList.typeIs (PySem.slot_list_getitem.lookup) ?_ (by with_unfolding_all rfl)
    refine wpAny_getItem_list_slice pl'.isList (Heap.IsSliceOf.new _ .none .none vs) .none .none ps (by decide) ?_ (by rw [List.size_toArray]; omega)
    rw [PySem.W.krv_pick]
    refine ⟨.ref _, _, I5.laid (t' := s4.toks) (o := .lst xs.reverse) (fun b ob q => Heap.get?_push_of_some _ q) (Nat.le_refl _) ?_, rfl, q.lst sub (dpAll_rev dxs) (I5.hok.fresh (Nat.le_refl _))⟩
    exact ⟨by rw [List.length_reverse]; exact hz', _, 0, r'.reverse, Heap.get?_push_size _ rfl⟩
  · rename_i ds
    cases e
    obtain ⟨a, xs, rfl, ha, dxs⟩ := dx.tup
    cases r1
    obtain ⟨its, r, ht, hz⟩ := I5.tuple (sqT_mono sub ha)
    have hlen := r.length
    show wpAny (model X.prog X.w) X.A (subscriptTail _ (.Slice none none (some (.UnaryOp .USub (.Constant (.int 1) k p1) p2)) p3) (.ref a) (.ref s4.heap.objs.size)) (EP X pins σ Q) X.xe { s4 with heap := s4.heap.push { cls := .type "slice", data := .fields #[.none, .none, vs] } }
    refine tail_any (ops := [.ref a, .ref s4.heap.objs.size]) ht.typeIs (PyProof.Rows.slot_tuple_getitem.lookup) ?_ (by with_unfolding_all rfl)
    refine getItem_tuple_rev ht (Heap.IsSliceOf.new _ .none .none vs) ps ?_ (by omega)
    refine ⟨.ref _, _, I5.laid (t' := s4.toks) (o := .tup xs.reverse) (fun b ob q => Heap.get?_push_of_some _ q) (Nat.le_refl _) ?_, rfl, q.tup sub (dpAll_rev dxs) (I5.hok.fresh (Nat.le_refl _))⟩
    exact ⟨by rw [List.length_reverse]; exact hz, _, r.reverse, IsTup.new _ _⟩

/-! ## items, slices -/
theorem atI_dz {K : PySem.W.Frag} {F : Hp} {vs : List V} {ds : List D} {i : Int} {d : D} (h : DzAll K F vs ds) (e : atI ds i = some d) : ∃ v, atI vs i = some v ∧ Dz K F v d := by
  unfold atI at e ⊢
  rw [dpAll_len h]
  cases q : ixN ds.length i with
  | none => rw [q] at e; cases e
  | some j => rw [q] at e; exact dpAll_get h e
def rIdx (K : PySem.W.Frag) : R2 := fun v w H Q => ∃ F x y res, Same F H ∧ Dq K F H v x ∧ Dq K F H w y ∧ opD .idx [x, y] = some res ∧ Res K F H res Q
theorem ix_Z : IxR X (rIdx X.K) := by
  intro value slice pins s σ H v w u1 u2 Q I rv rw' h hs
  obtain ⟨F, x, y, res, sub, dx, dy, e, q⟩ := h
  cases x <;> cases y <;> try (cases e; done)
  · rename_i ds i
    have e : (atI ds i).map R.fr = some res := e
    cases z : atI ds i with
    | none => rw [z] at e; cases e
    | some d =>
      rw [z] at e; cases e
      obtain ⟨a, xs, rfl, ha, dxs⟩ := dx.lst sub
      obtain ⟨v, ev, dv⟩ := atI_dz dxs z
      rw [dy.int] at rw'
      exact ix_list value slice pins s σ H _ _ u1 u2 Q I rv rw' ⟨a, xs, i, v, rfl, rfl, .inl ha, ev, q.now sub dv⟩ hs
  · rename_i ds i
    have e : (atI ds i).map R.fr = some res := e
    cases z : atI ds i with
    | none => rw [z] at e; cases e
    | some d =>
      rw [z] at e; cases e
      obtain ⟨a, xs, rfl, ha, dxs⟩ := dx.tup
      obtain ⟨v, ev, dv⟩ := atI_dz dxs z
      rw [dy.int] at rw'
      exact ix_tup value slice pins s σ H _ _ u1 u2 Q I rv rw' ⟨a, xs, i, v, rfl, rfl, sqT_mono sub ha, ev, q.now sub dv⟩ hs
theorem cut_dz {K : PySem.W.Frag} {F : Hp} {vs : List V} {ds : List D} (h : DzAll K F vs ds) (lo hi : Option Int) : DzAll K F (cutV vs lo hi) (cutD ds lo hi) := by
  unfold cutV cutD
  rw [dpAll_len h]
  exact dpAll_take (dpAll_drop h _) _
def rSlc (K : PySem.W.Frag) : V → Option Int → Option Int → Hp → VK → Prop := fun v lo hi H Q => ∃ F x res, Same F H ∧ Dq K F H v x ∧ slcD x lo hi = some res ∧ Res K F H res Q
theorem sl_Z : SlR X (rSlc X.K) := by
  intro pins s σ H x v vl vu lo hi sl Q I rx hs pl pu h
  obtain ⟨F, d, res, sub, dx, e, q⟩ := h
  cases d <;> try (cases e; done)
  · cases e
    obtain ⟨a, xs, rfl, ha, dxs⟩ := dx.lst sub
    exact sl_list pins s σ H _ v vl vu lo hi sl Q I rx hs pl pu ⟨a, xs, rfl, .inl ha, fun p hp => q.lst sub (cut_dz dxs lo hi) hp⟩
  · rename_i ds
    cases e
    obtain ⟨a, xs, rfl, ha, dxs⟩ := dx.tup
    refine sl_tupA pins s σ H _ v vl vu lo hi sl Q I rx hs pl pu ⟨a, xs, rfl, sqT_mono sub ha, fun z => ?_, fun _ p hp => q.tup sub (cut_dz dxs lo hi) hp⟩
    refine q.now sub ?_
    have e2 : cutD ds lo hi = ds := by
      unfold cutD
      rw [dpAll_len dxs] at z
      rw [z.1, z.2]
      simp
    rw [e2]
    exact .tup ha dxs

/-! ## kinds -/
def Ty.nm : Ty → String
  | .int => "int"
  | .bool => "bool"
  | .tuple => "tuple"
  | .list => "list"
  | .str => "str"
  | .none => "NoneType"
  | .dict => "dict"
def tyN : D → String
  | .none => "NoneType"
  | .bool _ => "bool"
  | .int _ => "int"
  | .str _ => "str"
  | .list _ => "list"
  | .tuple _ => "tuple"
  | .dict _ => "dict"
theorem dq_ty {K : PySem.W.Frag} {F H : Hp} {v : V} {d : D} (sub : Same F H) (h : Dq K F H v d) : TyX K H v (.type (tyN d)) := by
  rcases h with h | ⟨a, rfl, _, ds, xs, rfl, h1, _⟩
  · cases h with
    | non => exact .base .non
    | bl b => exact .base (.bl b)
    | int b => exact .base (.int b)
    | str b => exact .base (.str b)
    | lst a b =>
      rcases rd_mono sub a with z | ⟨o, z⟩
      · exact .base (.lst z)
      · exact .base (.frz z)
    | tup a b =>
      rcases sqT_mono sub a with (z | ⟨o, z⟩) | ⟨o, its, n, z, c, _⟩
      · exact .base (.tup z)
      · exact .fTuple z
      · exact .kTuple z c
  · exact .base (.lst h1)
theorem kit_D (t : Ty) (ht : t ≠ .none) (d : D) (hd : ∀ kvs, d ≠ .dict kvs) : kitB (tyN d) t.nm = some (isTy t d) := by
  cases t <;> cases d <;> first | exact absurd rfl ht | exact absurd rfl (hd _) | (simp only [tyN, Ty.nm, isTy]; decide +kernel)
theorem cl_isi (t : Ty) (ht : t ≠ .none) : CallR X (.builtin "isinstance") fun xs H Q => ∃ v, xs = [v, .ty t.nm] ∧ rOp X.K (.isi t) [v] H Q := by
  intro pins s σ H vs us Q I rv h
  obtain ⟨v, rfl, F, ds, res, sub, dx, e, q⟩ := h
  cases dx with
  | cons dv b =>
    cases b
    cases e
    rename_i d
    refine call_isi pins s σ H _ us Q I rv ⟨v, .ty t.nm, .type (tyN d), .type t.nm, isTy t d, rfl, .ty _, dq_ty sub dv, kit_ty (kit_D t ht d ?_), q.bl sub⟩
    rintro kvs rfl
    rcases dv with z | ⟨_, _, _, _, _, z, _⟩
    · cases z
    · cases z

/-! ## repr -/
mutual
theorem nodict {K : PySem.W.Frag} {F : Hp} : ∀ {d : D} {v : V}, Dz K F v d → d.hasDict = false
  | .none, _, _ => rfl
  | .bool _, _, _ => rfl
  | .int _, _, _ => rfl
  | .str _, _, _ => rfl
  | .list ds, _, h => by cases h with | lst a b => exact nodictAll b
  | .tuple ds, _, h => by cases h with | tup a b => exact nodictAll b
  | .dict _, _, h => by cases h
theorem nodictAll {K : PySem.W.Frag} {F : Hp} : ∀ {ds : List D} {vs : List V}, DzAll K F vs ds → PyData.hasDictAll ds = false
  | [], _, _ => rfl
  | d :: ds, _, h => by
    cases h with
    | cons a b =>
      show (d.hasDict || PyData.hasDictAll ds) = false
      rw [nodict a, nodictAll b]; rfl
end
theorem cl_repr (hg : X.A.guards = some []) (hu : X.A.units + 66 < cLine) : CallR X (.builtin "repr") (rOp X.K .repr) := by
  intro pins s σ H vs us Q I rv h
  obtain ⟨F, ds, res, sub, dx, e, q⟩ := h
  cases ds with
  | nil => cases e
  | cons d r =>
    cases r with
    | cons _ _ => cases d <;> cases e
    | nil =>
      obtain ⟨v, rfl, dv⟩ := dqAll1 dx
      have e : (if SeqAt.shaped d && (PyData.showable d && fitL d.shown.length) then some (R.fr (.str d.shown)) else none) = some res := by rw [← e] <;> cases d <;> rfl
      obtain ⟨h1, h2⟩ := ite_some e
      subst h2
      obtain ⟨h3, h4⟩ := Bool.and_eq_true_iff.mp h1
      obtain ⟨h5, h6⟩ := Bool.and_eq_true_iff.mp h4
      have h7 := fitL_ok h6
      have q' : Q (.str d.shown) H := q.now sub (.str _)
      have hd := SeqAt.depth_of_shaped h3
      have dz := dv.dp sub
      have big : ∀ a, v = .ref a → wpAny (model X.prog X.w) X.A (call (.builtin "repr") us) (EP X pins σ Q) X.xe s := by
        intro a ea
        subst ea
        obtain ⟨u, rfl, ru⟩ := vals1 rv
        cases ru
        obtain ⟨as, rd⟩ := Dp.reads I d (.ref a) (.ref a) dz.toDp rfl
        refine repr_of_reads' rd h5 (fun z => ?_) hg (by omega) (fun b o z => z) (fun h' u tk k => ?_) h7
        · rw [nodict dz] at z; cases z
        · exact ⟨.str d.shown, H, I.kept (t' := tk) k, ⟨u, rfl⟩, q'⟩
      cases d with
      | list xs => obtain ⟨a, xs, ea, _⟩ := dv.lst sub; exact big a ea
      | tuple xs => obtain ⟨a, xs, ea, _⟩ := dv.tup; exact big a ea
      | dict kvs => cases dz
      | none =>
        rw [dv.none] at rv
        obtain ⟨u, rfl, ru⟩ := vals1 rv
        cases ru
        exact PySem.P.repr_of_none ⟨.str PyData.none.shown, H, I.tok _, ⟨_, rfl⟩, q'⟩
      | bool b =>
        rw [dv.bool] at rv
        obtain ⟨u, rfl, ru⟩ := vals1 rv
        cases ru
        exact PySem.P.repr_of_bool ⟨.str (PyData.bool b).shown, H, I.tok _, ⟨_, rfl⟩, q'⟩
      | int i =>
        rw [dv.int] at rv
        obtain ⟨u, rfl, t, rfl⟩ := vals1 rv
        exact PySem.P.repr_of_int (of_decide_eq_true h5) ⟨.str (PyData.int i).shown, H, I.tok _, ⟨_, rfl⟩, q'⟩
      | str x =>
        rw [dv.str] at rv
        obtain ⟨u, rfl, t, rfl⟩ := vals1 rv
        exact PySem.P.repr_of_str ⟨.str (PyData.str x).shown, H, I.tok _, ⟨_, rfl⟩, q'⟩ h7
end
end Z

set_option Elab.async false
set_option linter.all false
set_option maxRecDepth 100000
set_option maxHeartbeats 4000000
namespace Z
open PySem PySem.Spec PyProof.Rows L2

/-! ## what is walked -/
section
variable {X : Cx} {tg : Expr}
/-- a list or a tuple -/
theorem pi_seqZ {l : Expr} {tl : TE} (hl : PE X l tl) : PI X tg l fun σ H R => tl σ H fun x H1 => ∃ a, x = .ref a ∧ (((∃ xs, SqL X.K H1 a xs) ∧ R (Itl X.K a) H1) ∨ ((∃ xs, SqT X.K H1 a xs) ∧ R (Itt X.K a) H1)) := by
  constructor
  intro pins s σ H R I h
  refine thn (hl.run pins s σ H _ I h) ?_
  rintro v s1 ⟨x, H1, I1, r1, a, rfl, q⟩
  cases r1
  have lift : ∀ {o : Obj}, Inv X pins σ H1 { s1 with heap := s1.heap.push o } := fun {o} => I1.kept (t' := s1.toks) fun b u e => Heap.get?_push_of_some _ e
  have fp : ∀ b ∈ [s1.heap.objs.size], FpOk X pins H1 b := fun b hb => by
    rw [List.mem_singleton.mp hb]
    exact I1.fpOk (Nat.le_refl _) (I1.hok.fresh (Nat.le_refl _))
  rcases q with ⟨⟨xs, hq⟩, q⟩ | ⟨⟨xs, hq⟩, q⟩
  · obtain ⟨its, rv, p, _⟩ := I1.list hq
    exact wpAny_pyIter_list p.isList ⟨s1.heap.objs.size, [s1.heap.objs.size], _, _, H1, rfl, lift, turn_list a _, ⟨_, Heap.get?_push_size _ rfl, rfl, rfl⟩, fp, q⟩
  · obtain ⟨its, rv, p, _⟩ := I1.tuple hq
    exact wpAny_pyIter_tuple (show s1.heap.IsTuple a its.toArray from p) ⟨s1.heap.objs.size, [s1.heap.objs.size], _, _, H1, rfl, lift, turn_tuple a _, ⟨_, Heap.get?_push_size _ rfl, rfl, rfl⟩, fp, q⟩
end
section
variable {K : PySem.W.Frag} {F : Hp} {a : Addr} {xs : List V} {ds : List D}
theorem walk_it {J : It} {G : Hp → Prop} (hl : xs.length = ds.length) (w : Walk J xs.length G (YAt xs)) (hG : ∀ H F', Same F F' → Same F' H → G H) (hd : DzAll K F xs ds) : ItOk K F J ds where
  go := fun i H F' s1 s2 hi => w.goes i H (by omega) (hG H F' s1 s2)
  stop := fun H F' s1 s2 => by rw [← hl]; exact w.stops H (hG H F' s1 s2)
  yld := fun i H F' x H' s1 s2 hi y => by
    obtain ⟨rfl, e⟩ := w.yields i H x H' (by omega) (hG H F' s1 s2) y
    have e2 : ds[i]? = some ds[i] := by simp [hi]
    obtain ⟨v, e3, dv⟩ := dpAll_get hd e2
    rw [e] at e3; cases e3
    exact ⟨F', ds[i], Ext.refl s2, e2, dp_mono s1 dv⟩
theorem it_list (h : Rd F a (.lst xs)) (hd : DzAll K F xs ds) : ItOk K F (Itl K a) ds :=
  walk_it (dpAll_len hd) walk_list (fun H F' s1 s2 => .inl (rd_mono s2 (rd_mono s1 h))) hd
theorem it_tup (h : SqT K F a xs) (hd : DzAll K F xs ds) : ItOk K F (Itt K a) ds :=
  walk_it (dpAll_len hd) walk_tup (fun H F' s1 s2 => sqT_mono s2 (sqT_mono s1 h)) hd
theorem it_range {lo : Int} {n : Nat} : ItOk K F (Itr lo n) ((List.range n).map fun (i : Nat) => .int (lo + (i : Int))) where
  go := fun i H F' _ _ hi => walk_range.goes i H (by simpa using hi) trivial
  stop := fun H F' _ _ => by
    rw [List.length_map, List.length_range]
    exact walk_range.stops H trivial
  yld := fun i H F' x H' s1 s2 hi y => by
    obtain ⟨rfl, rfl⟩ := walk_range.yields i H x H' (by simpa using hi) trivial y
    have hi' : i < n := by simpa using hi
    exact ⟨F', .int (lo + i), Ext.refl s2, by simp [hi'], .int _⟩
end

/-! ## rows of arguments -/
section
variable {K : PySem.W.Frag} {F H F' H' : Hp} {σ : L2.St} {n n' : En}
theorem psOk_len {vs : List V} {ps : List P} (h : PsOk K F σ vs ps) : vs.length = ps.length := by
  induction h with
  | nil => rfl
  | cons _ _ ih => simp [ih]
theorem psOk_get {vs : List V} {ps : List P} (h : PsOk K F σ vs ps) : ∀ {i : Nat} {p : P}, ps[i]? = some p → ∃ v, vs[i]? = some v ∧ pv1 K F σ v p := by
  induction h with
  | nil => intro i p e; simp at e
  | cons a _ ih =>
    intro i p e
    cases i with
    | zero => simp at e; subst e; exact ⟨_, by simp, a⟩
    | succ i => simp at e; obtain ⟨v, h1, h2⟩ := ih e; exact ⟨v, by simpa using h1, h2⟩
theorem argsS_len : ∀ {ps : List P} {ss : List Sl}, argsS n ps = some ss → ss.length = ps.length
  | [], _, e => by cases e; rfl
  | p :: r, ss, e => by
    have e : ((argS n p).bind fun s => (argsS n r).map (s :: ·)) = some ss := e
    cases q : argS n p with
    | none => rw [q] at e; cases e
    | some s =>
      rw [q] at e
      cases q2 : argsS n r with
      | none => rw [q2] at e; cases e
      | some t => rw [q2] at e; cases e; simp [argsS_len q2]
theorem argsS_get : ∀ {ps : List P} {ss : List Sl}, argsS n ps = some ss → ∀ {i : Nat} {s : Sl}, ss[i]? = some s → ∃ p, ps[i]? = some p ∧ argS n p = some s
  | [], _, e, i, s, h => by cases e; simp at h
  | p :: r, ss, e, i, s, h => by
    have e : ((argS n p).bind fun s => (argsS n r).map (s :: ·)) = some ss := e
    cases q : argS n p with
    | none => rw [q] at e; cases e
    | some s1 =>
      rw [q] at e
      cases q2 : argsS n r with
      | none => rw [q2] at e; cases e
      | some t =>
        rw [q2] at e; cases e
        cases i with
        | zero => simp at h; subst h; exact ⟨p, by simp, q⟩
        | succ i => simp at h; obtain ⟨p', h1, h2⟩ := argsS_get q2 h; exact ⟨p', by simpa using h1, h2⟩
theorem argS_pn {p : P} {d : D} (h : argS n p = some (.pn d)) : ∃ i, p = .io i ∧ (n[i]? = some (.ow d) ∨ n[i]? = some (.pn d)) := by
  cases p with
  | dd x => cases h
  | sl i => cases h
  | io i =>
    have h : (match n[i]? with
      | some (.ow d) => some (Sl.pn d)
      | some (.pn d) => some (.pn d)
      | _ => none) = some (.pn d) := h
    refine ⟨i, rfl, ?_⟩
    split at h
    · cases h; left; assumption
    · cases h; right; assumption
    · cases h
theorem argS_ok {p : P} {s : Sl} (h : argS n p = some s) : (∃ d, p = .dd d ∧ s = .fz d) ∨ ∃ d, s = .pn d := by
  cases p with
  | dd x => cases h; exact .inl ⟨x, rfl, rfl⟩
  | sl i => cases h
  | io i =>
    have h : (match n[i]? with
      | some (.ow d) => some (Sl.pn d)
      | some (.pn d) => some (.pn d)
      | _ => none) = some s := h
    split at h
    · cases h; exact .inr ⟨_, rfl⟩
    · cases h; exact .inr ⟨_, rfl⟩
    · cases h
theorem mem_ioIx : ∀ {ps : List P} {q j : Nat}, ps[q]? = some (.io j) → j ∈ ioIx ps
  | [], q, j, h => by simp at h
  | p :: r, 0, j, h => by simp at h; subst h; exact List.mem_cons_self
  | p :: r, q + 1, j, h => by
    have := mem_ioIx (ps := r) (q := q) (j := j) (by simpa using h)
    cases p with
    | dd x => exact this
    | sl i => exact this
    | io i => exact List.mem_cons_of_mem _ this
theorem ioIx_mem : ∀ {ps : List P} {j : Nat}, j ∈ ioIx ps → ∃ q : Nat, ps[q]? = some (P.io j)
  | [], _, h => by cases h
  | .dd x :: r, j, h => by obtain ⟨q, e⟩ := ioIx_mem (ps := r) h; exact ⟨q + 1, by simpa using e⟩
  | .sl x :: r, j, h => by obtain ⟨q, e⟩ := ioIx_mem (ps := r) h; exact ⟨q + 1, by simpa using e⟩
  | .io x :: r, j, h => by
    rcases List.mem_cons.mp h with rfl | h
    · exact ⟨0, by simp⟩
    · obtain ⟨q, e⟩ := ioIx_mem (ps := r) h; exact ⟨q + 1, by simpa using e⟩
theorem io_inj : ∀ {ps : List P}, (ioIx ps).Nodup → ∀ {q r j : Nat}, ps[q]? = some (.io j) → ps[r]? = some (.io j) → q = r
  | [], _, q, r, j, h, _ => by simp at h
  | p :: t, nd, q, r, j, h1, h2 => by
    have tl : (ioIx t).Nodup := by
      cases p with
      | dd x => exact nd
      | sl i => exact nd
      | io i => exact (List.nodup_cons.mp nd).2
    cases q with
    | zero =>
      simp at h1; subst h1
      cases r with
      | zero => rfl
      | succ r => exact absurd (mem_ioIx (show t[r]? = some (.io j) by simpa using h2)) (List.nodup_cons.mp nd).1
    | succ q =>
      cases r with
      | zero => simp at h2; subst h2; exact absurd (mem_ioIx (show t[q]? = some (.io j) by simpa using h1)) (List.nodup_cons.mp nd).1
      | succ r => rw [io_inj tl (show t[q]? = some (.io j) by simpa using h1) (show t[r]? = some (.io j) by simpa using h2)]
/-- what putBack makes -/
theorem putBack_spec : ∀ {ps : List P} {ds : List D} {n n' : En}, putBack n ps ds = some n' → (ioIx ps).Nodup → n'.length = n.length ∧ (∀ j : Nat, j ∉ ioIx ps → n'[j]? = n[j]?) ∧
    ∀ q j : Nat, ps[q]? = some (.io j) → ∃ d, ds[q]? = some d ∧ ((∃ e, n[j]? = some (.ow e) ∧ n'[j]? = some (.ow d)) ∨ (∃ e, n[j]? = some (.pn e) ∧ n'[j]? = some (.pn d)))
  | [], ds, n, n', e, _ => by cases e; exact ⟨rfl, fun _ _ => rfl, fun q j h => by simp at h⟩
  | p :: r, ds, n, n', e, nd => by
    have skip : ∀ {ds' : List D}, putBack n r ds' = some n' → (ioIx r).Nodup → (∀ i, p ≠ .io i) → (∀ q : Nat, ds[q + 1]? = ds'[q]?) → ioIx (p :: r) = ioIx r → n'.length = n.length ∧ (∀ j : Nat, j ∉ ioIx (p :: r) → n'[j]? = n[j]?) ∧
        ∀ q j : Nat, (p :: r)[q]? = some (.io j) → ∃ d, ds[q]? = some d ∧ ((∃ e, n[j]? = some (.ow e) ∧ n'[j]? = some (.ow d)) ∨ (∃ e, n[j]? = some (.pn e) ∧ n'[j]? = some (.pn d))) := by
      intro ds' e nd np hq hx
      obtain ⟨a, b, c⟩ := putBack_spec e nd
      refine ⟨a, by rw [hx]; exact b, fun q j h => ?_⟩
      cases q with
      | zero => simp at h; exact absurd h (np j)
      | succ q => rw [hq]; exact c q j (by simpa using h)
    cases p with
    | dd x =>
      cases ds with
      | nil => exact skip (ds' := []) e nd (fun i z => by cases z) (fun q => rfl) rfl
      | cons d ds => exact skip (ds' := ds) e nd (fun i z => by cases z) (fun q => by simp) rfl
    | sl x =>
      cases ds with
      | nil => exact skip (ds' := []) e nd (fun i z => by cases z) (fun q => rfl) rfl
      | cons d ds => exact skip (ds' := ds) e nd (fun i z => by cases z) (fun q => by simp) rfl
    | io i =>
      cases ds with
      | nil => cases e
      | cons d ds =>
        have e : (match n[i]? with
          | some (.ow _) => putBack (n.set i (.ow d)) r ds
          | some (.pn _) => putBack (n.set i (.pn d)) r ds
          | _ => none) = some n' := e
        obtain ⟨ni, nr⟩ := List.nodup_cons.mp (show (i :: ioIx r).Nodup from nd)
        have main : ∀ s s0 : Sl, n[i]? = some s0 → putBack (n.set i s) r ds = some n' → (∃ e, s0 = .ow e ∧ s = .ow d) ∨ (∃ e, s0 = .pn e ∧ s = .pn d) → n'.length = n.length ∧ (∀ j : Nat, j ∉ ioIx (.io i :: r) → n'[j]? = n[j]?) ∧
            ∀ q j : Nat, (P.io i :: r)[q]? = some (.io j) → ∃ d', (d :: ds)[q]? = some d' ∧ ((∃ e, n[j]? = some (.ow e) ∧ n'[j]? = some (.ow d')) ∨ (∃ e, n[j]? = some (.pn e) ∧ n'[j]? = some (.pn d'))) := by
          intro s s0 h0 e hs
          obtain ⟨a, b, c⟩ := putBack_spec e nr
          have li : i < n.length := (List.getElem?_eq_some_iff.mp h0).1
          refine ⟨by rw [a, List.length_set], fun j hj => ?_, fun q j h => ?_⟩
          · have hj' : j ≠ i ∧ j ∉ ioIx r := by
              have : j ∉ i :: ioIx r := hj
              simpa using this
            rw [b j hj'.2, List.getElem?_set_ne (Ne.symm hj'.1)]
          · cases q with
            | zero =>
              simp at h; subst h
              refine ⟨d, by simp, ?_⟩
              rw [b _ ni, List.getElem?_set_self li]
              rcases hs with ⟨x, rfl, rfl⟩ | ⟨x, rfl, rfl⟩
              · exact .inl ⟨x, h0, rfl⟩
              · exact .inr ⟨x, h0, rfl⟩
            | succ q =>
              have h : r[q]? = some (.io j) := by simpa using h
              have ji : i ≠ j := fun z => ni (z ▸ mem_ioIx h)
              obtain ⟨d', h1, h2⟩ := c q j h
              refine ⟨d', by simpa using h1, ?_⟩
              rw [List.getElem?_set_ne ji] at h2
              exact h2
        cases q : n[i]? with
        | none => rw [q] at e; cases e
        | some t =>
          rw [q] at e
          cases t with
          | ow x => exact main (.ow d) (.ow x) q e (Or.inl ⟨x, rfl, rfl⟩)
          | pn x => exact main (.pn d) (.pn x) q e (Or.inr ⟨x, rfl, rfl⟩)
          | un => cases e
          | fz x => cases e
          | er c x => cases e

/-! ## a call by values -/
/-- what stands behind a call -/
structure After (K : PySem.W.Frag) (F H : Hp) (vs : List V) (ss : List Sl) (F' H' : Hp) (ds : List D) : Prop where
  sub : Same F' H'
  f : Same F F'
  h : ∀ a o, H a = some o → (∀ (i : Nat) (d : D), ss[i]? = some (.pn d) → vs[i]? ≠ some (.ref a)) → H' a = some o
  nf : ∀ a o, F' a = some o → F a = some o ∨ H a = none
  dom : ∀ a, H' a = none → H a = none
  ds : ∀ (i : Nat) (d : D), ss[i]? = some (.pn d) → ∃ a d', vs[i]? = some (.ref a) ∧ ds[i]? = some d' ∧ Mo K F' H' a d'
def argOk : Sl → Prop
  | .fz _ => True
  | .pn _ => True
  | _ => False
def spOf (K : PySem.W.Frag) (X9 : Nat → Addr × Str) (m : Nat) (fm : Fm) : Sp := fun vs H Q E => vs.length = m ∧ ∃ F ss, SO K F H (vs.map some) ss ∧ (∀ s ∈ ss, argOk s) ∧ match fm ss with
  | .ret r ds => ∀ v F' H', After K F H vs ss F' H' ds → rvOk K H F' H' v r → Q v H'
  | .ex c d ds => ∀ cls dd F' H', After K F H vs ss F' H' ds → ExOk K X9 F' H' c d cls dd → E cls dd H'
  | .st => False
theorem args_so {vs : List V} {ps : List P} {ss : List Sl} (s : SO K F H σ n) (r : PsOk K F σ vs ps) (e : argsS n ps = some ss) (nd : (ioIx ps).Nodup) : SO K F H (vs.map some) ss ∧ ∀ t ∈ ss, argOk t := by
  have hl : ss.length = vs.length := by rw [argsS_len e, psOk_len r]
  have io : ∀ {i : Nat} {d : D}, ss[i]? = some (.pn d) → ∃ j a, ps[i]? = some (.io j) ∧ vs[i]? = some (.ref a) ∧ σ[j]? = some (some (.ref a)) ∧ Mo K F H a d ∧ ∃ t, n[j]? = some t ∧ isOwn t := by
    intro i d hi
    obtain ⟨p, hp, ha⟩ := argsS_get e hi
    obtain ⟨j, rfl, hj⟩ := argS_pn ha
    obtain ⟨v, hv, pv⟩ := psOk_get r hp
    have pv : σ[j]? = some (some v) := pv
    rcases hj with hj | hj
    · obtain ⟨a, ea, m⟩ := s.sl j _ hj
      rw [pv] at ea; cases ea
      exact ⟨j, a, hp, hv, pv, m, _, hj, trivial⟩
    · obtain ⟨a, ea, m⟩ := s.sl j _ hj
      rw [pv] at ea; cases ea
      exact ⟨j, a, hp, hv, pv, m, _, hj, trivial⟩
  refine ⟨⟨s.sub, by rw [hl, List.length_map], fun i t hi => ?_, fun i j t u hij hi hj ht hu => ?_⟩, fun t ht => ?_⟩
  · obtain ⟨p, hp, ha⟩ := argsS_get e hi
    obtain ⟨v, hv, pv⟩ := psOk_get r hp
    rcases argS_ok ha with ⟨d, rfl, rfl⟩ | ⟨d, rfl⟩
    · exact ⟨v, by simp [hv], pv⟩
    · obtain ⟨j, a, _, hva, _, m, _⟩ := io hi
      exact ⟨a, by simp [hva], m⟩
  · obtain ⟨p, hp, ha⟩ := argsS_get e hi
    obtain ⟨p', hp', ha'⟩ := argsS_get e hj
    rcases argS_ok ha with ⟨d, rfl, rfl⟩ | ⟨d, rfl⟩
    · exact ht.elim
    · rcases argS_ok ha' with ⟨d', rfl, rfl⟩ | ⟨d', rfl⟩
      · exact hu.elim
      · obtain ⟨x, a, hx, hva, hsa, _, w, hw, ow⟩ := io hi
        obtain ⟨y, b, hy, hvb, hsb, _, w', hw', ow'⟩ := io hj
        intro z
        simp [hva, hvb] at z
        subst z
        by_cases q : x = y
        · subst q; exact hij (io_inj nd hx hy)
        · exact s.ap x y w w' q hw hw' ow ow' (hsa.trans hsb.symm)
  · obtain ⟨i, hi⟩ := List.mem_iff_getElem?.mp ht
    obtain ⟨p, hp, ha⟩ := argsS_get e hi
    rcases argS_ok ha with ⟨d, rfl, rfl⟩ | ⟨d, rfl⟩
    · trivial
    · trivial
theorem io_pn {ps : List P} {ss : List Sl} (e : argsS n ps = some ss) {i j : Nat} (hi : ps[i]? = some (.io j)) : ∃ d, ss[i]? = some (.pn d) := by
  have li : i < ss.length := by rw [argsS_len e]; exact (List.getElem?_eq_some_iff.mp hi).1
  obtain ⟨p, hp, ha⟩ := argsS_get e (List.getElem?_eq_getElem li)
  rw [hi] at hp; cases hp
  rcases argS_ok ha with ⟨d, z, _⟩ | ⟨d, z⟩
  · cases z
  · exact ⟨d, by rw [List.getElem?_eq_getElem li, z]⟩
theorem after_so {vs : List V} {ps : List P} {ss : List Sl} {ds : List D} (s : SO K F H σ n) (r : PsOk K F σ vs ps) (e : argsS n ps = some ss) (nd : (ioIx ps).Nodup) (A : After K F H vs ss F' H' ds) (pb : putBack n ps ds = some n') :
    SO K F' H' σ n' ∧ Step σ F H n F' H' n' := by
  obtain ⟨p1, p2, p3⟩ := putBack_spec pb nd
  -- an owned address of ours that was not handed on
  have keepM : ∀ {j : Nat} {t : Sl} {a : Addr} {d : D}, j ∉ ioIx ps → n[j]? = some t → isOwn t → σ[j]? = some (some (.ref a)) → Mo K F H a d → Mo K F' H' a d := by
    rintro j t a d hj ht ow hσ ⟨m0, es, xs, rfl, m1, m2⟩
    refine ⟨?_, es, xs, rfl, A.h a _ m1 fun i d' hi hv => ?_, dpAll_mono A.f m2⟩
    · cases q : F' a with
      | none => rfl
      | some o =>
        rcases A.nf a o q with z | z
        · rw [m0] at z; cases z
        · rw [m1] at z; cases z
    · obtain ⟨p, hp, ha⟩ := argsS_get e hi
      obtain ⟨x, rfl, hx⟩ := argS_pn ha
      obtain ⟨v, hv', pv⟩ := psOk_get r hp
      rw [hv] at hv'; cases hv'
      have pv : σ[x]? = some (some (.ref a)) := pv
      have xj : j ≠ x := fun z => hj (z ▸ mem_ioIx hp)
      rcases hx with hx | hx
      · exact s.ap j x t _ xj ht hx ow trivial (hσ.trans pv.symm)
      · exact s.ap j x t _ xj ht hx ow trivial (hσ.trans pv.symm)
  -- a slot behind the call: as it was, or one that was handed on
  have cases' : ∀ {j : Nat} {t : Sl}, n'[j]? = some t → (j ∉ ioIx ps ∧ n[j]? = some t) ∨ ∃ (q : Nat) (d : D) (a : Addr), ps[q]? = some (P.io j) ∧ σ[j]? = some (some (V.ref a)) ∧ Mo K F' H' a d ∧ ((∃ e, n[j]? = some (Sl.ow e) ∧ t = .ow d) ∨ (∃ e, n[j]? = some (Sl.pn e) ∧ t = .pn d)) := by
    intro j t ht
    by_cases hj : j ∈ ioIx ps
    · obtain ⟨q, hq⟩ := ioIx_mem hj
      obtain ⟨d, hd, alt⟩ := p3 q j hq
      obtain ⟨d0, hpn⟩ := io_pn e hq
      obtain ⟨a, d', hva, hd', m⟩ := A.ds q d0 hpn
      rw [hd] at hd'; cases hd'
      obtain ⟨v, hv', pv⟩ := psOk_get r hq
      rw [hva] at hv'; cases hv'
      refine .inr ⟨q, d, a, hq, pv, m, ?_⟩
      rcases alt with ⟨e1, h1, h2⟩ | ⟨e1, h1, h2⟩
      · rw [ht] at h2; cases h2; exact .inl ⟨e1, h1, rfl⟩
      · rw [ht] at h2; cases h2; exact .inr ⟨e1, h1, rfl⟩
    · exact .inl ⟨hj, by rw [← p2 j hj]; exact ht⟩
  have ownIn : ∀ {j : Nat} {t : Sl}, n'[j]? = some t → isOwn t → ∃ u, n[j]? = some u ∧ isOwn u := by
    intro j t ht ow
    rcases cases' ht with ⟨_, h⟩ | ⟨q, d, a, _, _, _, ⟨e1, h, _⟩ | ⟨e1, h, _⟩⟩
    · exact ⟨t, h, ow⟩
    · exact ⟨_, h, trivial⟩
    · exact ⟨_, h, trivial⟩
  refine ⟨⟨A.sub, by rw [p1, s.len], fun j t ht => ?_, fun i j t u hij hi hj ht hu => ?_⟩, ⟨A.f, fun a o ho no => ?_, fun a o ho => ?_, ?_, A.dom⟩⟩
  · rcases cases' ht with ⟨hj, h⟩ | ⟨q, d, a, _, hs, m, ⟨e1, h, rfl⟩ | ⟨e1, h, rfl⟩⟩
    · have y := s.sl j t h
      cases t with
      | un => trivial
      | fz d => obtain ⟨v, e1, e2⟩ := y; exact ⟨v, e1, dp_mono A.f e2⟩
      | ow d => obtain ⟨a, e1, e2⟩ := y; exact ⟨a, e1, keepM hj h trivial e1 e2⟩
      | pn d => obtain ⟨a, e1, e2⟩ := y; exact ⟨a, e1, keepM hj h trivial e1 e2⟩
      | er c d => exact y
    · exact ⟨a, hs, m⟩
    · exact ⟨a, hs, m⟩
  · obtain ⟨u1, h1, o1⟩ := ownIn hi ht
    obtain ⟨u2, h2, o2⟩ := ownIn hj hu
    exact s.ap i j u1 u2 hij h1 h2 o1 o2
  · refine A.h a o ho fun i d hi hv => ?_
    obtain ⟨p, hp, ha⟩ := argsS_get e hi
    obtain ⟨x, rfl, hx⟩ := argS_pn ha
    obtain ⟨v, hv', pv⟩ := psOk_get r hp
    rw [hv] at hv'; cases hv'
    rcases hx with hx | hx
    · exact no ⟨x, _, hx, trivial, pv⟩
    · exact no ⟨x, _, hx, trivial, pv⟩
  · rcases A.nf a o ho with z | z
    · exact .inl z
    · exact .inr (.inl z)
  · rintro a ⟨i, t, hi, ot, ev⟩
    obtain ⟨u, h1, o1⟩ := ownIn hi ot
    exact ⟨i, u, h1, o1, ev⟩
/-- the promise of the callee, from what is wanted behind the call -/
theorem call_po {k : Ck} {vs : List V} {ps : List P} {fm : Fm} {ss : List Sl} {Q : V → Hp → Prop} (hm : vs.length = m) (s : SO k.K F H σ n) (r : PsOk k.K F σ vs ps) (e : argsS n ps = some ss) (nd : (ioIx ps).Nodup)
    (h : Po (rV k.K) k (afterCall n ps (fm ss)) σ F H n Q) : spOf k.K k.X9 m fm vs H Q fun c d H' => k.W c d σ H' := by
  obtain ⟨s1, s2⟩ := args_so s r e nd
  refine ⟨hm, F, ss, s1, s2, ?_⟩
  cases q : fm ss with
  | st => rw [q] at h; exact h
  | ret rr ds =>
    rw [q] at h
    intro v F' H' A x
    have h : Po (rV k.K) k (match putBack n ps ds with
      | some n' => .ok rr n'
      | none => .st) σ F H n Q := h
    cases pb : putBack n ps ds with
    | none => rw [pb] at h; exact h.elim
    | some n' =>
      rw [pb] at h
      obtain ⟨a, b⟩ := after_so s r e nd A pb
      exact h v F' H' a b x
  | ex c d ds =>
    rw [q] at h
    intro cls dd F' H' A x
    have h : Po (rV k.K) k (match putBack n ps ds with
      | some n' => .ex c d n'
      | none => .st) σ F H n Q := h
    cases pb : putBack n ps ds with
    | none => rw [pb] at h; exact h.elim
    | some n' =>
      rw [pb] at h
      obtain ⟨a, b⟩ := after_so s r e nd A pb
      exact h cls dd F' H' a b x
end
end Z

set_option Elab.async false
set_option linter.all false
set_option maxRecDepth 100000
set_option maxHeartbeats 4000000
namespace Z
open PySem PySem.Spec PyProof.Rows L2

/-! ## slots set and forgotten -/
theorem wipeN_len (n : En) : ∀ vs : List Nat, (wipeN n vs).length = n.length
  | [] => rfl
  | v :: vs => by unfold wipeN; rw [List.length_set, wipeN_len n vs]
theorem wipeN_out {n : En} {j : Nat} : ∀ {vs : List Nat}, j ∉ vs → (wipeN n vs)[j]? = n[j]?
  | [], _ => rfl
  | v :: vs, h => by
    have h : j ≠ v ∧ j ∉ vs := by simpa using h
    unfold wipeN
    rw [List.getElem?_set_ne (Ne.symm h.1), wipeN_out h.2]
theorem wipeN_in {n : En} {j : Nat} {s : Sl} : ∀ {vs : List Nat}, j ∈ vs → (wipeN n vs)[j]? = some s → s = .un
  | [], h, _ => by cases h
  | v :: vs, h, e => by
    unfold wipeN at e
    by_cases hv : v = j
    · subst hv
      by_cases l : v < (wipeN n vs).length
      · rw [List.getElem?_set_self l] at e; exact (Option.some.inj e).symm
      · rw [List.getElem?_eq_none (by simpa using l)] at e; cases e
    · rw [List.getElem?_set_ne hv] at e
      rcases List.mem_cons.mp h with z | z
      · exact absurd z.symm hv
      · exact wipeN_in z e
theorem wipe_in {σ : L2.St} {j : Nat} : ∀ {vs : List Nat}, j ∈ vs → j < σ.length → (wipe σ vs)[j]? = some none
  | [], h, _ => by cases h
  | v :: vs, h, l => by
    unfold wipe
    by_cases hv : v = j
    · subst hv; rw [List.getElem?_set_self (by rw [wipe_length]; exact l)]
    · rw [List.getElem?_set_ne hv]
      rcases List.mem_cons.mp h with z | z
      · exact absurd z.symm hv
      · exact wipe_in z l
theorem wipe_out' {σ : L2.St} {j : Nat} : ∀ {vs : List Nat}, j ∉ vs → (wipe σ vs)[j]? = σ[j]?
  | [], _ => rfl
  | v :: vs, h => by
    have h : j ≠ v ∧ j ∉ vs := by simpa using h
    unfold wipe
    rw [List.getElem?_set_ne (Ne.symm h.1), wipe_out' h.2]
theorem wipe_eq {σ τ : L2.St} {vs : List Nat} (hl : σ.length = τ.length) (h : ∀ j : Nat, j ∉ vs → σ[j]? = τ[j]?) : wipe σ vs = wipe τ vs := by
  apply List.ext_getElem?
  intro j
  by_cases hj : j ∈ vs
  · by_cases l : j < σ.length
    · rw [wipe_in hj l, wipe_in hj (hl ▸ l)]
    · rw [List.getElem?_eq_none (by rw [wipe_length]; omega), List.getElem?_eq_none (by rw [wipe_length]; omega)]
  · rw [wipe_out' hj, wipe_out' hj, h j hj]
section
variable {K : PySem.W.Frag} {F H F' H' : Hp} {σ τ : L2.St} {n m : En} {vs : List Nat}
/-- fewer owned slots, the others alike -/
theorem so_of (s : SO K F H σ n) (hl : m.length = n.length) (hs : τ.length = σ.length) (h : ∀ (j : Nat) (t : Sl), m[j]? = some t → t = .un ∨ (n[j]? = some t ∧ τ[j]? = σ[j]?)) : SO K F H τ m := by
  refine ⟨s.sub, by rw [hl, hs, s.len], fun j t e => ?_, fun i j t u hij hi hj ot ou => ?_⟩
  · rcases h j t e with rfl | ⟨q, r⟩
    · trivial
    · rw [r]; exact s.sl j t q
  · rcases h i t hi with rfl | ⟨q, r⟩
    · exact ot.elim
    · rcases h j u hj with rfl | ⟨q', r'⟩
      · exact ou.elim
      · rw [r, r']; exact s.ap i j t u hij q q' ot ou
theorem own_of (h : ∀ (j : Nat) (t : Sl), m[j]? = some t → t = .un ∨ (n[j]? = some t ∧ τ[j]? = σ[j]?)) {a : Addr} (o : own τ m a) : own σ n a := by
  obtain ⟨i, t, e, ot, ev⟩ := o
  rcases h i t e with rfl | ⟨q, r⟩
  · exact ot.elim
  · exact ⟨i, t, q, ot, by rw [← r]; exact ev⟩
theorem wipe_alike (σ : L2.St) (n : En) (vs : List Nat) (j : Nat) (t : Sl) (e : (wipeN n vs)[j]? = some t) : t = .un ∨ (n[j]? = some t ∧ (wipe σ vs)[j]? = σ[j]?) := by
  by_cases hj : j ∈ vs
  · exact .inl (wipeN_in hj e)
  · exact .inr ⟨by rw [← wipeN_out hj]; exact e, wipe_out' hj⟩
theorem wipe_alike2 (σ : L2.St) (n : En) (vs : List Nat) (j : Nat) (t : Sl) (e : (wipeN n vs)[j]? = some t) : t = .un ∨ ((wipeN n vs)[j]? = some t ∧ σ[j]? = (wipe σ vs)[j]?) := by
  by_cases hj : j ∈ vs
  · exact .inl (wipeN_in hj e)
  · exact .inr ⟨e, (wipe_out' hj).symm⟩
theorem wipe_alike3 (σ : L2.St) (n : En) (vs : List Nat) (j : Nat) (t : Sl) (e : (wipeN n vs)[j]? = some t) : t = .un ∨ (n[j]? = some t ∧ σ[j]? = σ[j]?) := by
  by_cases hj : j ∈ vs
  · exact .inl (wipeN_in hj e)
  · exact .inr ⟨by rw [← wipeN_out hj]; exact e, rfl⟩
theorem Step.change (s : Step σ F H n F' H' m) {σ' : L2.St} {n' m' : En} (h1 : ∀ a, own σ n a → own σ' n' a) (h2 : ∀ a, own σ' m' a → own σ' n' a) : Step σ' F H n' F' H' m' :=
  ⟨s.f, fun a o h no => s.h a o h fun w => no (h1 a w), fun a o h => (s.nf a o h).imp_right fun z => z.imp_right (h1 a), h2, s.dom⟩
/-- one slot set -/
theorem so_set {i : Nat} {v : V} {d : D} (s : SO K F H σ n) (hi : i < n.length) (x : Dz K F v d) : SO K F H (σ.set i (some v)) (n.set i (.fz d)) ∧ ∀ a, own (σ.set i (some v)) (n.set i (.fz d)) a → own σ n a := by
  have hs : i < σ.length := by rw [← s.len]; exact hi
  have key : ∀ (j : Nat) (t : Sl), (n.set i (.fz d))[j]? = some t → (j = i ∧ t = .fz d) ∨ (j ≠ i ∧ n[j]? = some t ∧ (σ.set i (some v))[j]? = σ[j]?) := fun j t e => by
    by_cases q : j = i
    · subst q; rw [List.getElem?_set_self hi] at e; exact .inl ⟨rfl, (Option.some.inj e).symm⟩
    · rw [List.getElem?_set_ne (Ne.symm q)] at e
      exact .inr ⟨q, e, List.getElem?_set_ne (Ne.symm q)⟩
  refine ⟨⟨s.sub, by simp [s.len], fun j t e => ?_, fun j l t u hjl hj hl' ot ou => ?_⟩, ?_⟩
  · rcases key j t e with ⟨rfl, rfl⟩ | ⟨_, q, r⟩
    · exact ⟨v, List.getElem?_set_self hs, x⟩
    · rw [r]; exact s.sl j t q
  · rcases key j t hj with ⟨rfl, rfl⟩ | ⟨_, q, r⟩
    · exact ot.elim
    · rcases key l u hl' with ⟨rfl, rfl⟩ | ⟨_, q', r'⟩
      · exact ou.elim
      · rw [r, r']; exact s.ap j l t u hjl q q' ot ou
  · rintro a ⟨j, t, e, ot, ev⟩
    rcases key j t e with ⟨rfl, rfl⟩ | ⟨_, q, r⟩
    · exact ot.elim
    · exact ⟨j, t, q, ot, by rw [← r]; exact ev⟩
end

/-! ## targets -/
def gsOf : List Nat → TGs
  | [] => gNil
  | i :: is => gCons (gName i) (gsOf is)
def gTg (K : PySem.W.Frag) : Tg → TG
  | .nm i => gName i
  | .tp is => gTup K is.length (gsOf is)
def Tg.slots : Tg → List Nat
  | .nm i => [i]
  | .tp is => is
section
variable {K : PySem.W.Frag} {F H : Hp}
theorem gs_ok : ∀ {is : List Nat} {ds : List D} {vs : List V} {σ : L2.St} {n n' : En} {Q : L2.St → Hp → Prop}, SO K F H σ n → setAll n is ds = some n' → DzAll K F vs ds →
    (∀ σ', SO K F H σ' n' → (∀ a, own σ' n' a → own σ n a) → σ'.length = σ.length → (∀ j : Nat, j ∉ is → σ'[j]? = σ[j]? ∧ n'[j]? = n[j]?) → (∀ j : Nat, j ∈ is → ∃ d, n'[j]? = some (.fz d)) → Q σ' H) → gsOf is vs σ H Q
  | [], [], vs, σ, n, n', Q, s, e, hd, h => by
    cases hd; cases e
    exact ⟨rfl, h σ s (fun _ o => o) rfl (fun _ _ => ⟨rfl, rfl⟩) (fun j hj => by cases hj)⟩
  | [], d :: ds, vs, σ, n, n', Q, s, e, hd, h => by cases e
  | i :: is, [], vs, σ, n, n', Q, s, e, hd, h => by cases e
  | i :: is, d :: ds, vs, σ, n, n', Q, s, e, hd, h => by
    cases hd with
    | cons a b =>
      have go : ∀ t, n[i]? = some t → setAll (n.set i (.fz d)) is ds = some n' → gsOf (i :: is) (_ :: _) σ H Q := fun t ht e => by
        obtain ⟨s1, o1⟩ := so_set s (List.getElem?_eq_some_iff.mp ht).1 a
        refine ⟨_, _, rfl, gs_ok s1 e b fun σ' s2 o2 l2 k2 f2 => h σ' s2 (fun x z => o1 x (o2 x z)) (by rw [l2, List.length_set]) (fun j hj => ?_) (fun j hj => ?_)⟩
        · have hj : j ≠ i ∧ j ∉ is := by simpa using hj
          obtain ⟨k3, k4⟩ := k2 j hj.2
          rw [List.getElem?_set_ne (Ne.symm hj.1)] at k3 k4
          exact ⟨k3, k4⟩
        · by_cases q : j ∈ is
          · exact f2 j q
          · rcases List.mem_cons.mp hj with z | z
            · subst z
              refine ⟨d, ?_⟩
              rw [(k2 j q).2, List.getElem?_set_self (List.getElem?_eq_some_iff.mp ht).1]
            · exact absurd z q
      have e : (match n[i]? with
        | some (.pn _) => none
        | some _ => setAll (n.set i (.fz d)) is ds
        | none => none) = some n' := e
      cases q : n[i]? with
      | none => rw [q] at e; cases e
      | some t =>
        rw [q] at e
        cases t with
        | pn x => cases e
        | un => exact go _ q e
        | fz x => exact go _ q e
        | ow x => exact go _ q e
        | er c x => exact go _ q e
theorem setAll_nopn : ∀ {is : List Nat} {ds : List D} {n n' : En}, setAll n is ds = some n' → ∀ j : Nat, j ∈ is → ∀ d, n[j]? ≠ some (.pn d)
  | [], _, _, _, _, j, h, _ => by cases h
  | i :: is, [], n, n', e, j, h, d => by cases e
  | i :: is, x :: ds, n, n', e, j, h, d => by
    have e : (match n[i]? with
      | some (.pn _) => none
      | some _ => setAll (n.set i (.fz x)) is ds
      | none => none) = some n' := e
    have go : ∀ t, n[i]? = some t → (∀ y, t ≠ .pn y) → setAll (n.set i (.fz x)) is ds = some n' → n[j]? ≠ some (.pn d) := fun t ht np e => by
      by_cases q : j = i
      · subst q; rw [ht]; intro z; cases z; exact np _ rfl
      · rcases List.mem_cons.mp h with z | z
        · exact absurd z q
        · have := setAll_nopn e j z d
          rw [List.getElem?_set_ne (Ne.symm q)] at this
          exact this
    cases q : n[i]? with
    | none => rw [q] at e; cases e
    | some t =>
      rw [q] at e
      cases t with
      | pn y => cases e
      | un => exact go _ q (fun y z => by cases z) e
      | fz y => exact go _ q (fun y z => by cases z) e
      | ow y => exact go _ q (fun y z => by cases z) e
      | er c y => exact go _ q (fun y z => by cases z) e
theorem tg_ok {t : Tg} {d : D} {v : V} {σ : L2.St} {n n' : En} {Q : L2.St → Hp → Prop} (s : SO K F H σ n) (e : t.put d n = some n') (hd : Dz K F v d)
    (h : ∀ σ', SO K F H σ' n' → (∀ a, own σ' n' a → own σ n a) → σ'.length = σ.length → (∀ j : Nat, j ∉ t.slots → σ'[j]? = σ[j]? ∧ n'[j]? = n[j]?) → (∀ j : Nat, j ∈ t.slots → ∃ d, n'[j]? = some (.fz d)) → Q σ' H) : gTg K t v σ H Q := by
  cases t with
  | nm i =>
    have g := gs_ok (is := [i]) (Q := Q) s e (.cons hd .nil) h
    obtain ⟨x, r, ev, g2⟩ := g
    cases ev
    exact g2.2
  | tp is =>
    cases d with
    | tuple ds =>
      cases hd with
      | tup a b =>
        have hl : ∀ {is : List Nat} {ds : List D} {n n' : En}, setAll n is ds = some n' → ds.length = is.length := by
          intro is
          induction is with
          | nil => intro ds n n' e; cases ds with
            | nil => rfl
            | cons _ _ => cases e
          | cons i is ih =>
            intro ds n n' e
            cases ds with
            | nil => cases e
            | cons d ds =>
              have e : (match n[i]? with
                | some (.pn _) => none
                | some _ => setAll (n.set i (.fz d)) is ds
                | none => none) = some n' := e
              split at e
              · cases e
              · simp [ih e]
              · cases e
        refine ⟨_, _, rfl, sqT_mono s.sub a, ?_, gs_ok s e b h⟩
        rw [dpAll_len b]; exact hl e
    | none => cases e
    | bool _ => cases e
    | int _ => cases e
    | str _ => cases e
    | list _ => cases e
    | dict _ => cases e
end

/-! ## a comprehension -/
section
variable {K : PySem.W.Frag} {X9 : Nat → Addr × Str} {W : WX}
theorem bd_ok {α β : Type} {m : Ou α} {f : α → En → Ou β} {b : β} {n : En} (h : m.bd f = .ok b n) : ∃ a n1, m = .ok a n1 ∧ f a n1 = .ok b n := by
  cases m with
  | ok a n1 => exact ⟨a, n1, rfl, h⟩
  | ex c d n1 => cases h
  | st => cases h
theorem lc_tz {tg : Tg} {vs : List Nat} {fi : En → Ou (List D)} {fc : En → Ou Bool} {fe : En → Ou R} (hsub : ∀ i ∈ tg.slots, i ∈ vs) {σ : L2.St} {H : Hp} {Q : V → Hp → Prop}
    (h : tz (rV K) ⟨K, X9, W⟩ (zLc tg vs fi fc fe) σ H Q) : tLc (tz (rI K) ⟨K, X9, W⟩ fi) (gTg K tg) (tz rB ⟨K, X9, fun _ _ _ _ => False⟩ fc) (tz (rV K) ⟨K, X9, fun _ _ _ _ => False⟩ fe) vs σ H Q := by
  obtain ⟨F, n, s, h⟩ := h
  refine ⟨F, n, s, Po.mono (Po.bd h) ?_⟩
  rintro J H1 ⟨F1, n1, ds, s1, t1, it, h⟩ D hD
  have h : Po (rV K) ⟨K, X9, W⟩ (if noPn n1 vs then match lcGo tg vs fc fe ds [] (wipeN n1 vs) with
    | .ok ds n2 => .ok (.nw (.list ds)) (wipeN n2 vs)
    | _ => .st else .st) σ F1 H1 n1 Q := h
  have hp : noPn n1 vs = true := Classical.byContradiction fun q => by rw [if_neg q] at h; exact h
  rw [if_pos hp] at h
  cases hgo : lcGo tg vs fc fe ds [] (wipeN n1 vs) with
  | st => rw [hgo] at h; exact h.elim
  | ex c d n' => rw [hgo] at h; exact h.elim
  | ok res n2 =>
  rw [hgo] at h
  have FD : F1 D = none := s1.sub.free hD
  have s1w : SO K F1 H1 (wipe σ vs) (wipeN n1 vs) := so_of s1 (wipeN_len _ _) (wipe_length _ _) (wipe_alike σ n1 vs)
  -- the words between the turns
  let Pv : Nat → Hp → Prop := fun i Hc => ∃ (Fc : Hp) (nc : En) (acc : List PyData) (av : List V), lcGo tg vs fc fe (ds.drop i) acc nc = .ok res n2 ∧ SO K Fc Hc (wipe σ vs) (wipeN nc vs) ∧
    Step (wipe σ vs) F1 H1 (wipeN n1 vs) Fc Hc (wipeN nc vs) ∧ Hc D = some (.lst av) ∧ Fc D = none ∧ DzAll K Fc av acc
  refine ⟨fun i m Hc => m = ds.length - i ∧ i ≤ ds.length ∧ Pv i Hc, ⟨ds.length, rfl, Nat.zero_le _, F1, wipeN n1 vs, [], [], hgo, ?_, ?_, upd_same, FD, .nil⟩, ?_⟩
  · have e : wipeN (wipeN n1 vs) vs = wipeN n1 vs := by
      apply List.ext_getElem?
      intro j
      by_cases hj : j ∈ vs
      · by_cases l : j < n1.length
        · have l1 : j < (wipeN n1 vs).length := by rw [wipeN_len]; exact l
          have l2 : j < (wipeN (wipeN n1 vs) vs).length := by rw [wipeN_len]; exact l1
          rw [List.getElem?_eq_getElem l1, List.getElem?_eq_getElem l2, wipeN_in hj (List.getElem?_eq_getElem l1), wipeN_in hj (List.getElem?_eq_getElem l2)]
        · rw [List.getElem?_eq_none (by rw [wipeN_len, wipeN_len]; omega), List.getElem?_eq_none (by rw [wipeN_len]; omega)]
      · rw [wipeN_out hj]
    rw [e]
    exact s1w.ext ⟨.refl _, same_upd hD, fun _ _ q => .inl q, s1w.sub.trans (same_upd hD)⟩
  · have e : ∀ a, own (wipe σ vs) (wipeN (wipeN n1 vs) vs) a → own (wipe σ vs) (wipeN n1 vs) a := fun a o => own_of (wipe_alike3 (wipe σ vs) (wipeN n1 vs) vs) o
    exact ⟨.refl _, fun a o q _ => same_upd hD a o q, fun a o q => .inl q, e, fun a q => by
      cases z : H1 a with
      | none => rfl
      | some o => rw [same_upd hD a o z] at q; cases q⟩
  rintro i m Hc ⟨rfl, hi, Fc, nc, acc, av, e, sc, tc, eD, eF, da⟩
  have nD : ∀ {m : En} {τ : L2.St}, (∀ a, own τ m a → own (wipe σ vs) (wipeN n1 vs) a) → ¬ own τ m D := fun k o => by
    obtain ⟨_, xs, q⟩ := own_lst s1w (k D o)
    rw [hD] at q; cases q
  rcases (Nat.lt_or_ge i ds.length).symm with hge | hlt
  · -- the end
    have ei : i = ds.length := by omega
    subst ei
    rw [List.drop_length] at e
    cases e
    refine .inl ⟨it.stop Hc Fc tc.f sc.sub, ?_⟩
    have sb : SO K Fc Hc σ (wipeN n2 vs) := so_of sc rfl (by rw [wipe_length]) (wipe_alike2 σ n2 vs)
    have tb : Step σ F1 H1 n1 Fc Hc (wipeN n2 vs) := by
      have oo : ∀ a, own σ (wipeN n2 vs) a → own σ n1 a := fun a o => own_of (wipe_alike σ n1 vs) (tc.ow a (own_of (wipe_alike2 σ n2 vs) o))
      exact ⟨tc.f, fun a o q no => tc.h a o q fun w => no (own_of (wipe_alike σ n1 vs) w), fun a o q => (tc.nf a o q).imp_right fun z => z.imp_right fun w => own_of (wipe_alike σ n1 vs) w, oo, tc.dom⟩
    exact h _ Fc Hc sb tb ⟨D, rfl, ⟨eF, res, av, rfl, eD, da⟩, hD⟩
  · -- a turn
    refine .inr ⟨it.go i Hc Fc tc.f sc.sub hlt, Pv (i + 1), fun H' p' => ⟨ds.length - (i + 1), by omega, rfl, hlt, p'⟩, fun x H' y => ?_⟩
    obtain ⟨F2, d, ex, ed, dx⟩ := it.yld i Hc Fc x H' tc.f sc.sub hlt y
    have e0 : ds.drop i = d :: ds.drop (i + 1) := by
      rw [List.drop_eq_getElem_cons hlt]
      rw [List.getElem?_eq_getElem hlt] at ed
      rw [Option.some.inj ed]
    rw [e0] at e
    have e : (match tg.put d (wipeN nc vs) with
      | none => Ou.st
      | some n1 => (fc n1).bd fun b n2 => if b then (fe n2).bd fun r n3 => if decide (acc.length < sizeLine) then lcGo tg vs fc fe (ds.drop (i + 1)) (acc ++ [r.d]) n3 else .st
        else lcGo tg vs fc fe (ds.drop (i + 1)) acc n2) = Ou.ok res n2 := e
    have s2 : SO K F2 H' (wipe σ vs) (wipeN nc vs) := sc.ext ex
    have tx : Step (wipe σ vs) Fc Hc (wipeN nc vs) F2 H' (wipeN nc vs) := Step.ext ex
    cases hput : tg.put d (wipeN nc vs) with
    | none => rw [hput] at e; cases e
    | some np =>
    rw [hput] at e
    obtain ⟨b, n3, ec, e⟩ := bd_ok e
    refine tg_ok s2 hput dx fun σ' s3 o3 l3 k3 _ => ?_
    have wp : wipe σ' vs = wipe σ vs := by
      have q : wipe σ' vs = wipe (wipe σ vs) vs := wipe_eq l3 fun j hj => (k3 j fun z => hj (hsub j z)).1
      rw [q]
      exact wipe_eq (wipe_length _ _) fun j hj => wipe_out' hj
    refine ⟨by rw [wp], F2, np, s3, ?_⟩
    rw [ec]
    rintro b' F3 H3 s4 t4 rfl
    have back : ∀ {m : En} {a : Addr}, own (wipe σ vs) (wipeN m vs) a → own σ' m a := fun {m a} o => own_of (n := m) (σ := σ') (τ := wipe σ vs) (fun j t q => by
      by_cases hj : j ∈ vs
      · exact .inl (wipeN_in hj q)
      · exact .inr ⟨by rw [← wipeN_out hj]; exact q, by rw [← wp, wipe_out' hj]⟩) o
    have soBack : ∀ {F H : Hp} {m : En}, SO K F H σ' m → SO K F H (wipe σ vs) (wipeN m vs) := fun {F H m} s => by
      rw [← wp]
      exact so_of s (wipeN_len _ _) (wipe_length _ _) (wipe_alike σ' m vs)
    have stepBack : ∀ {F' H' : Hp} {m : En}, Step σ' F2 H3 np F' H' m → True := fun _ => trivial
    have T3 : Step (wipe σ vs) F1 H1 (wipeN n1 vs) F3 H3 (wipeN n3 vs) := by
      refine (tc.trans tx).trans ?_
      exact t4.change o3 fun a o => o3 a (t4.ow a (back o))
    have keepD : H3 D = some (.lst av) := by
      refine t4.h D _ (ex.h _ _ eD) fun o => nD (fun a o => tc.ow a (o3 a o)) o
    have keepF : F3 D = none := by
      cases q : F3 D with
      | none => rfl
      | some o =>
        rcases T3.nf D o q with z | z | z
        · rw [FD] at z; cases z
        · exfalso
          rcases t4.nf D o q with z' | z' | z'
          · rcases ex.nf D o z' with z'' | z''
            · rw [eF] at z''; cases z''
            · rw [eD] at z''; cases z''
          · rw [ex.h _ _ eD] at z'; cases z'
          · exact nD (fun a o => tc.ow a (o3 a o)) z'
        · exact absurd z (nD fun a o => o)
    cases b' with
    | false =>
      rw [if_neg Bool.false_ne_true]
      rw [if_neg Bool.false_ne_true] at e
      exact ⟨F3, n3, acc, av, e, soBack s4, T3, keepD, keepF, dpAll_mono (ex.f.trans t4.f) da⟩
    | true =>
      rw [if_pos rfl]
      rw [if_pos rfl] at e
      obtain ⟨r, n4, er, e⟩ := bd_ok e
      have hz : acc.length < sizeLine := Classical.byContradiction fun q => by rw [if_neg (by simpa using q)] at e; cases e
      rw [if_pos (by simpa using hz)] at e
      refine ⟨F3, n3, s4, Po.frz s4 ?_⟩
      rw [er]
      intro v F4 H4 s5 t5 dv
      have own5 : ∀ a, own σ' n3 a → own (wipe σ vs) (wipeN n1 vs) a := fun a o => tc.ow a (o3 a (t4.ow a o))
      have keepD4 : H4 D = some (.lst av) := t5.h D _ keepD (nD own5)
      have keepF4 : F4 D = none := by
        cases q : F4 D with
        | none => rfl
        | some o =>
          rcases t5.nf D o q with z | z | z
          · rw [keepF] at z; cases z
          · rw [keepD] at z; cases z
          · exact absurd z (nD own5)
      have dz : DzAll K F4 av acc := dpAll_mono ((ex.f.trans t4.f).trans t5.f) da
      refine ⟨av, keepD4, by rw [dpAll_len da]; exact hz, F4, n4, acc ++ [r.d], av ++ [v], e, ?_, ?_, upd_same, keepF4, dpAll_app dz (.cons dv .nil)⟩
      · have s6 := soBack s5
        have nd6 : ¬ own (wipe σ vs) (wipeN n4 vs) D := nD fun a o => own5 a (t5.ow a (back o))
        have mo : ∀ {j : Nat} {t : Sl} {a : Addr} {d : PyData}, (wipeN n4 vs)[j]? = some t → isOwn t → (wipe σ vs)[j]? = some (some (V.ref a)) → Mo K F4 H4 a d → Mo K F4 (upd H4 D (.lst (av ++ [v]))) a d := by
          rintro j t a d ht ot ha ⟨m0, es, xs, rfl, m1, m2⟩
          refine ⟨m0, es, xs, rfl, ?_, m2⟩
          rw [upd_ne (show a ≠ D from fun z => nd6 ⟨j, t, ht, ot, by rw [ha, z]⟩)]
          exact m1
        refine ⟨fun a o q => ?_, s6.len, fun j t q => ?_, s6.ap⟩
        · rw [upd_ne (show a ≠ D from fun z => by rw [z, keepF4] at q; cases q)]
          exact s6.sub a o q
        · have y := s6.sl j t q
          cases t with
          | un => trivial
          | fz d => exact y
          | ow d => obtain ⟨a, e1, e2⟩ := y; exact ⟨a, e1, mo q trivial e1 e2⟩
          | pn d => obtain ⟨a, e1, e2⟩ := y; exact ⟨a, e1, mo q trivial e1 e2⟩
          | er c d => exact y
      · have T5 : Step (wipe σ vs) F1 H1 (wipeN n1 vs) F4 H4 (wipeN n4 vs) :=
          (tc.trans tx).trans ((t4.trans t5).change o3 fun a o => o3 a ((t4.trans t5).ow a (back o)))
        refine ⟨T5.f, fun a o q no => ?_, T5.nf, T5.ow, fun a q => ?_⟩
        · rw [upd_ne (show a ≠ D from fun z => by rw [z, hD] at q; cases q)]
          exact T5.h a o q no
        · by_cases z : a = D
          · subst z; rw [upd_same] at q; cases q
          · rw [upd_ne z] at q; exact T5.dom a q
end
end Z

set_option Elab.async false
set_option linter.all false
set_option maxRecDepth 100000
set_option maxHeartbeats 4000000
namespace Z
open PySem PySem.Spec PyProof.Rows L2

/-! ## the code against the text -/
structure Nx where
  N : List Str
  fn : List Str
  gc : List Str
  xc : Nat → Option Str
structure Cks where
  e : PySem.Expr → Bool
  t : PySem.Expr → Bool
  l : List PySem.Expr → Bool
  i : PySem.Expr → Bool
  o : PySem.Expr → Bool
def Cks.no : Cks := ⟨fun _ => false, fun _ => false, fun _ => false, fun _ => false, fun _ => false⟩
def notStar : PySem.Expr → Bool
  | .Starred _ _ => false
  | _ => true
def plainT : PySem.Expr → Bool
  | .UnaryOp .Not _ _ => false
  | .BoolOp _ _ _ => false
  | .IfExp _ _ _ _ => false
  | .Compare _ _ _ _ => false
  | _ => true
def noSet : PySem.Expr → Bool
  | .Set _ _ _ => false
  | _ => true
def plainIx : PySem.Expr → Bool
  | .Slice _ _ _ _ => false
  | _ => true
def kB (sc : Scope) (x : Str) (k : NameKind) : Bool := decide (sc.names.lookup x = some k)
def visB (sc : Scope) (x : Str) : Bool := (kB sc x .local || (kB sc x .cell || kB sc x .free)) && (!(x == ("__debug__" : Str)) && !(x == ("__classdict__" : Str)))
def glB (sc : Scope) (x : Str) : Bool := kB sc x .globalImplicit && !(x == ("__debug__" : Str))
def nameB (nx : Nx) (sc : Scope) (i : Nat) : PySem.Expr → Bool
  | .Name x _ => decide (nx.N[i]? = some x) && visB sc x
  | _ => false
def constB : D → PySem.Expr → Bool
  | .none, .Constant .none _ _ => true
  | .bool b, .Constant (.bool c) _ _ => b == c
  | .int i, .Constant (.int j) _ _ => decide (i = j)
  | .str x, .Constant (.str y) _ _ => decide (x = y)
  | _, _ => false
/-- built-in functions and classes that are called -/
def bfN : Op → Option Str
  | .len => some "len"
  | .all => some "all"
  | .any => some "any"
  | .tupOf => some "tuple"
  | .lstOf => some "list"
  | .abs => some "abs"
  | .int1 => some "int"
  | .min2 => some "min"
  | .max2 => some "max"
  | .sum => some "sum"
  | .repr => some "repr"
  | .minL => some "min"
  | .maxL => some "max"
  | .sorted => some "sorted"
  | .str1 => some "str"
  | _ => none
def slcB (l : List PySem.Expr → Bool) (x : PySem.Expr) : Bool → Bool → Option PySem.Expr → Option PySem.Expr → Bool
  | false, false, none, none => l [x]
  | true, false, some p, none => l [x, p]
  | false, true, none, some q => l [x, q]
  | _, _, _, _ => false
def opCmpB (l : List PySem.Expr → Bool) (c : COp) : PySem.Expr → Bool
  | .Compare x [op] [y] _ => decide (op = c.py) && (noSet y && l [x, y])
  | _ => false
def opRevB (l : List PySem.Expr → Bool) : PySem.Expr → Bool
  | .Subscript x (.Slice none none (some (.UnaryOp .USub (.Constant (.int 1) _ _) _)) _) _ => l [x]
  | _ => false
def opSlcB (l : List PySem.Expr → Bool) (a b : Bool) : PySem.Expr → Bool
  | .Subscript x (.Slice lo hi none _) _ => slcB l x a b lo hi
  | _ => false
def opIsiB (sc : Scope) (l : List PySem.Expr → Bool) (t : Ty) : PySem.Expr → Bool
  | .Call (.Name f _) [x, .Name g _] [] _ => decide (f = "isinstance") && (glB sc f && (decide (g = Str.ofString t.nm) && (glB sc g && (decide (t ≠ .none) && l [x]))))
  | _ => false
def opBfB (sc : Scope) (l : List PySem.Expr → Bool) (nm : Option Str) : PySem.Expr → Bool
  | .Call (.Name f _) args [] _ => match nm with
    | some nm => decide (f = nm) && (glB sc f && (!args.isEmpty && l args))
    | none => false
  | _ => false
def opB (sc : Scope) (l : List PySem.Expr → Bool) (o : Op) (e : PySem.Expr) : Bool := match o with
  | .bin b => match e with
    | .BinOp x op y _ => decide (op = b.py) && l [x, y]
    | _ => false
  | .neg => match e with
    | .UnaryOp .USub x _ => l [x]
    | _ => false
  | .cmp c => opCmpB l c e
  | .tup => match e with
    | .Tuple es _ _ => l es
    | _ => false
  | .lst => match e with
    | .List es _ => l es
    | _ => false
  | .idx => match e with
    | .Subscript x y _ => plainIx y && l [x, y]
    | _ => false
  | .slc a b => opSlcB l a b e
  | .rev => opRevB l e
  | .isi t => opIsiB sc l t e
  | o => opBfB sc l (bfN o) e
section
variable {l : List PySem.Expr → Bool} {e : PySem.Expr} {sc : Scope}
theorem opCmp_inv {c : COp} (h : opCmpB l c e = true) : ∃ x y pos, e = .Compare x [c.py] [y] pos ∧ noSet y = true ∧ l [x, y] = true := by
  unfold opCmpB at h
  split at h
  · obtain ⟨h1, h⟩ := Bool.and_eq_true_iff.mp h
    obtain ⟨h2, h3⟩ := Bool.and_eq_true_iff.mp h
    have := of_decide_eq_true h1
    subst this
    exact ⟨_, _, _, rfl, h2, h3⟩
  · cases h
theorem opRev_inv (h : opRevB l e = true) : ∃ x k p1 p2 p3 pos, e = .Subscript x (.Slice none none (some (.UnaryOp .USub (.Constant (.int 1) k p1) p2)) p3) pos ∧ l [x] = true := by
  unfold opRevB at h
  split at h
  · exact ⟨_, _, _, _, _, _, rfl, h⟩
  · cases h
theorem opSlc_inv {a b : Bool} (h : opSlcB l a b e = true) : ∃ x lo hi p2 pos, e = .Subscript x (.Slice lo hi none p2) pos ∧ slcB l x a b lo hi = true := by
  unfold opSlcB at h
  split at h
  · exact ⟨_, _, _, _, _, rfl, h⟩
  · cases h
theorem opIsi_inv {t : Ty} (h : opIsiB sc l t e = true) : ∃ fp x gp pos, e = .Call (.Name "isinstance" fp) [x, .Name (Str.ofString t.nm) gp] [] pos ∧ glB sc "isinstance" = true ∧ glB sc (Str.ofString t.nm) = true ∧ t ≠ .none ∧ l [x] = true := by
  unfold opIsiB at h
  split at h
  · obtain ⟨h1, h⟩ := Bool.and_eq_true_iff.mp h
    obtain ⟨h2, h⟩ := Bool.and_eq_true_iff.mp h
    obtain ⟨h3, h⟩ := Bool.and_eq_true_iff.mp h
    obtain ⟨h4, h⟩ := Bool.and_eq_true_iff.mp h
    obtain ⟨h5, h6⟩ := Bool.and_eq_true_iff.mp h
    have e1 := of_decide_eq_true h1
    have e3 := of_decide_eq_true h3
    subst e1 e3
    exact ⟨_, _, _, _, rfl, h2, h4, of_decide_eq_true h5, h6⟩
  · cases h
theorem opBf_inv {nm : Str} (h : opBfB sc l (some nm) e = true) : ∃ p args pos, e = .Call (.Name nm p) args [] pos ∧ glB sc nm = true ∧ (!args.isEmpty) = true ∧ l args = true := by
  unfold opBfB at h
  split at h
  · obtain ⟨h1, h⟩ := Bool.and_eq_true_iff.mp h
    obtain ⟨h2, h⟩ := Bool.and_eq_true_iff.mp h
    obtain ⟨h3, h4⟩ := Bool.and_eq_true_iff.mp h
    have := of_decide_eq_true h1
    subst this
    exact ⟨_, _, _, rfl, h2, h3, h4⟩
  · cases h
theorem opBf_none (h : opBfB sc l none e = true) : False := by
  unfold opBfB at h
  split at h <;> cases h
end
/-- stores within a comprehension's scope, or a def's -/
def locB (sc : Scope) (x : Str) : Bool := kB sc x .local || kB sc x .cell
def tgNamesB (nx : Nx) (loc : Str → Bool) : List Nat → List PySem.Expr → Bool
  | [], [] => true
  | i :: is, .Name x _ :: es => decide (nx.N[i]? = some x) && (loc x && tgNamesB nx loc is es)
  | _, _ => false
def tgB (nx : Nx) (loc : Str → Bool) : Tg → PySem.Expr → Bool
  | .nm i, .Name x _ => decide (nx.N[i]? = some x) && loc x
  | .tp is, .Tuple es _ _ => tgNamesB nx loc is es
  | _, _ => false
def ownN (nx : Nx) (vs : List Nat) : List (Str × Nat) := vs.map fun i => (nx.N.getD i ⟨#[]⟩, i)
def ifsB (t : PySem.Expr → Bool) (c : E) : List PySem.Expr → Bool
  | [] => match c with
    | .yes => true
    | _ => false
  | [x] => match c with
    | .yes => false
    | _ => t x
  | _ => false
/-- walks that make a tuple each turn want a target that is one -/
def ezB : E → PySem.Expr → Bool
  | .enm _, .Tuple _ _ _ => true
  | .enm _, _ => false
  | .zip _ _, .Tuple _ _ _ => true
  | .zip _ _, _ => false
  | _, _ => true
def lcB (nx : Nx) (elt it cond : Scope → Cks) (cc ic : E) (tg : Tg) (vs : List Nat) (sc : Scope) : PySem.Expr → Bool
  | .ListComp x [⟨tge, iter, ifs, 0⟩] scope _ => blkC nx.N sc scope (ownN nx vs) && ((it sc).i iter && (noSet iter && (tgB nx (fun y => locB (relS scope sc) y && locB scope y) tg tge && (tg.slots.all (fun i => decide (i ∈ vs)) &&
      (ifsB (cond (relS scope sc)).t cc ifs && ((elt (relS scope sc)).e x && ezB ic tge))))))
  | _ => false
def noLc : PySem.Expr → Bool
  | .ListComp _ _ _ _ => false
  | _ => true
def ck (nx : Nx) : E → Scope → Cks
  | .var i => fun sc => { Cks.no with e := nameB nx sc i, i := nameB nx sc i, o := nameB nx sc i }
  | .pk i => fun sc => { Cks.no with t := nameB nx sc i, o := nameB nx sc i }
  | .io i => fun sc => { Cks.no with o := nameB nx sc i }
  | .cst d => fun _ => { Cks.no with e := constB d, o := constB d }
  | .glb g => fun sc => let b : PySem.Expr → Bool := fun
      | .Name x _ => decide (nx.gc[g]? = some x) && glB sc x
      | _ => false
    { Cks.no with e := b, i := b, o := b }
  | .op o as => fun sc => let b := opB sc (ck nx as sc).l o
    ⟨b, fun e => b e && (plainT e || match o with | .cmp _ => true | _ => false), fun _ => false, b, b⟩
  | .nil => fun _ => { Cks.no with l := fun es => es.isEmpty }
  | .cons a r => fun sc => { Cks.no with l := fun
      | e :: es => notStar e && ((ck nx a sc).o e && (ck nx r sc).l es)
      | [] => false }
  | .chn o1 o2 a b c => fun sc => let f : PySem.Expr → Bool := fun
      | .Compare x [p, q] [y, z] _ => decide (p = o1.py) && (decide (q = o2.py) && (noSet z && ((ck nx a sc).o x && ((ck nx b sc).o y && (ck nx c sc).o z))))
      | _ => false
    ⟨f, f, fun _ => false, fun _ => false, f⟩
  | .slc a b c => fun sc => let f : PySem.Expr → Bool := fun
      | .Subscript x (.Slice (some y) (some z) none _) _ => (ck nx a sc).o x && ((ck nx b sc).o y && (ck nx c sc).o z)
      | _ => false
    ⟨f, fun e => f e && plainT e, fun _ => false, f, f⟩
  | .and a b => fun sc => let f : PySem.Expr → Bool := fun
      | .BoolOp .And (x :: y :: rest) pos => (ck nx a sc).e x && (match rest with | [] => (ck nx b sc).e y | _ => (ck nx b sc).e (.BoolOp .And (y :: rest) pos))
      | _ => false
    let g : PySem.Expr → Bool := fun
      | .BoolOp .And (x :: y :: rest) pos => (ck nx a sc).t x && (match rest with | [] => (ck nx b sc).t y | _ => (ck nx b sc).t (.BoolOp .And (y :: rest) pos))
      | _ => false
    ⟨f, g, fun _ => false, fun _ => false, f⟩
  | .or a b => fun sc => let f : PySem.Expr → Bool := fun
      | .BoolOp .Or (x :: y :: rest) pos => (ck nx a sc).e x && (match rest with | [] => (ck nx b sc).e y | _ => (ck nx b sc).e (.BoolOp .Or (y :: rest) pos))
      | _ => false
    let g : PySem.Expr → Bool := fun
      | .BoolOp .Or (x :: y :: rest) pos => (ck nx a sc).t x && (match rest with | [] => (ck nx b sc).t y | _ => (ck nx b sc).t (.BoolOp .Or (y :: rest) pos))
      | _ => false
    ⟨f, g, fun _ => false, fun _ => false, f⟩
  | .not a => fun sc => let f : PySem.Expr → Bool := fun
      | .UnaryOp .Not x _ => (ck nx a sc).t x
      | _ => false
    ⟨fun e => match e with
      | .UnaryOp .Not x _ => (ck nx a sc).e x
      | _ => false, f, fun _ => false, fun _ => false, fun e => match e with
      | .UnaryOp .Not x _ => (ck nx a sc).e x
      | _ => false⟩
  | .ife t a b => fun sc => let f : PySem.Expr → Bool := fun
      | .IfExp c x y _ => (ck nx t sc).t c && ((ck nx a sc).e x && (ck nx b sc).e y)
      | _ => false
    ⟨f, fun _ => false, fun _ => false, f, f⟩
  | .call f as => fun sc => let b : PySem.Expr → Bool := fun
      | .Call (.Name x _) args [] _ => decide (nx.fn[f]? = some x) && (glB sc x && (ck nx as sc).l args)
      | _ => false
    ⟨b, b, fun _ => false, b, b⟩
  | .lc elt tg it cond own => fun sc => let b := lcB nx (ck nx elt) (ck nx it) (ck nx cond) cond it tg own sc
    ⟨b, b, fun _ => false, b, b⟩
  | .yes => fun _ => Cks.no
  | .rng1 a => fun sc => { Cks.no with i := fun
      | .Call (.Name x _) [p] [] _ => decide (x = "range") && (glB sc x && (notStar p && (ck nx a sc).o p))
      | _ => false }
  | .rng2 a b => fun sc => { Cks.no with i := fun
      | .Call (.Name x _) [p, q] [] _ => decide (x = "range") && (glB sc x && (notStar p && (notStar q && ((ck nx a sc).o p && (ck nx b sc).o q))))
      | _ => false }
  | .any => fun _ => ⟨noLc, fun _ => true, fun _ => false, fun _ => true, fun _ => true⟩
  | .enm a => fun sc => { Cks.no with i := fun
      | .Call (.Name x _) [p] [] _ => decide (x = "enumerate") && (glB sc x && (notStar p && (ck nx a sc).e p))
      | _ => false }
  | .zip a b => fun sc => { Cks.no with i := fun
      | .Call (.Name x _) [p, q] [] _ => decide (x = "zip") && (glB sc x && (notStar p && (notStar q && ((ck nx a sc).e p && (ck nx b sc).e q))))
      | _ => false }
  | .chn3 o1 o2 o3 a b c d => fun sc => let f : PySem.Expr → Bool := fun
      | .Compare x [p, q, r] [y, z, u] _ => decide (p = o1.py) && (decide (q = o2.py) && (decide (r = o3.py) && (noSet u && ((ck nx a sc).o x && ((ck nx b sc).o y && ((ck nx c sc).o z && (ck nx d sc).o u))))))
      | _ => false
    ⟨f, f, fun _ => false, fun _ => false, f⟩
  | .lrg1 a => fun sc => let f : PySem.Expr → Bool := fun
      | .Call (.Name w _) [.Call (.Name x _) [p] [] _] [] _ => decide (w = "list") && (glB sc w && (decide (x = "range") && (glB sc x && (notStar p && (ck nx a sc).o p))))
      | _ => false
    ⟨f, fun _ => false, fun _ => false, f, f⟩
  | .lrg2 a b => fun sc => let f : PySem.Expr → Bool := fun
      | .Call (.Name w _) [.Call (.Name x _) [p, q] [] _] [] _ => decide (w = "list") && (glB sc w && (decide (x = "range") && (glB sc x && (notStar p && (notStar q && ((ck nx a sc).o p && (ck nx b sc).o q))))))
      | _ => false
    ⟨f, fun _ => false, fun _ => false, f, f⟩
  | _ => fun _ => Cks.no

/-! ## syntax facts -/
section
variable {env : Env}
theorem star_ok {e : PySem.Expr} {es : List PySem.Expr} (h : notStar e = true) : starEach (e :: es) env = (false, eval e env) :: starEach es env := by
  cases e <;> first | rfl | cases h
theorem isTrue_ok {e : PySem.Expr} (h : plainT e = true) (whole : Sem Value) : isTrue e env whole = (do let v ← whole; standAt e.pos; holding [v] (truthy v)) := by
  cases e <;> first | rfl | (cases h; done) | skip
  case UnaryOp op x pos => cases op <;> first | rfl | (cases h; done)
theorem ix_ok {e : PySem.Expr} (h : plainIx e = true) : PlainIx e := by
  intro o i
  cases e <;> first | rfl | (cases h; done)
theorem fold_ok {e : PySem.Expr} (h : noSet e = true) (x : Value) : foldedSetIterable e env x = pure x := by
  cases e <;> first | rfl | (cases h; done)
theorem mark_ok {op : CmpOp} {e : PySem.Expr} (h : noSet e = true) : behindInMarks op e = false := by
  cases e <;> first | rfl | (cases h; done)
theorem kB_ok {sc : Scope} {x : Str} {k : NameKind} (h : kB sc x k = true) : sc.names.lookup x = some k := of_decide_eq_true h
theorem gl_ok {X : Cx} {x : Str} (h : glB X.env.scope x = true) : Gl X x ∧ (x == ("__debug__" : Str)) = false := by
  obtain ⟨a, b⟩ := Bool.and_eq_true_iff.mp h
  exact ⟨kB_ok a, by simpa using b⟩
theorem vis_ok {X : Cx} {x : Str} (h : visB X.env.scope x = true) : Vis X.env.scope x ∧ (x == ("__debug__" : Str)) = false ∧ (x == ("__classdict__" : Str)) = false := by
  obtain ⟨a, b⟩ := Bool.and_eq_true_iff.mp h
  obtain ⟨c, d⟩ := Bool.and_eq_true_iff.mp b
  refine ⟨?_, by simpa using c, by simpa using d⟩
  rcases Bool.or_eq_true_iff.mp a with z | z
  · exact .inl (kB_ok z)
  · rcases Bool.or_eq_true_iff.mp z with z | z
    · exact .inr (.inl (kB_ok z))
    · exact .inr (.inr (kB_ok z))
theorem pl_ok : ∀ {es : List PySem.Expr} {pos : Pos}, es.all notStar = true → (backTo pos (starEach es env)).any (·.1) = false
  | [], _, _ => rfl
  | e :: es, pos, h => by
    obtain ⟨a, b⟩ := Bool.and_eq_true_iff.mp (show (notStar e && es.all notStar) = true from h)
    rw [star_ok a]
    show (false || (backTo pos (starEach es env)).any (·.1)) = false
    rw [pl_ok b]; rfl
end
section
variable {X : Cx} {e : PySem.Expr}
theorem PE.imp {t t' : TE} (h : PE X e t) (i : ∀ σ H Q, t' σ H Q → t σ H Q) : PE X e t' := ⟨fun pins s σ H Q I q => h.run pins s σ H Q I (i _ _ _ q)⟩
theorem PT.imp {t t' : TT} (h : PT X e t) (i : ∀ σ H Q, t' σ H Q → t σ H Q) : PT X e t' := ⟨fun pins s σ H Q I q => h.run pins s σ H Q I (i _ _ _ q)⟩
theorem PA.imp {es : List PySem.Expr} {t t' : TA} (h : PA X es t) (i : ∀ σ H Q, t' σ H Q → t σ H Q) : PA X es t' := ⟨fun pos pins s σ H Q I q => h.run pos pins s σ H Q I (i _ _ _ q)⟩
theorem PI.imp {tg : PySem.Expr} {t t' : TI} (h : PI X tg e t) (i : ∀ σ H Q, t' σ H Q → t σ H Q) : PI X tg e t' := ⟨fun pins s σ H Q I q => h.run pins s σ H Q I (i _ _ _ q)⟩
end

/-! ## what a body knows -/
abbrev kk (X : Cx) (X9 : Nat → Addr × Str) (W : WX) : Ck := ⟨X.K, X9, W⟩
def biNames : List Str := ["len", "isinstance", "all", "any", "tuple", "list", "range", "min", "max", "sum", "sorted", "abs", "int", "bool", "str", "dict", "repr", "type", "enumerate", "zip"]
structure Bd (nx : Nx) (T : Tb) (C : Nat → Option D) (X9 : Nat → Addr × Str) (lv : Nat) (X : Cx) (W : WX) : Prop where
  eN : X.N = nx.N
  nd : X.N.Nodup
  calm : X.calm = true
  gd : X.A.guards = some []
  room : Room lv X.A
  tk : Takes X W
  fn : ∀ id m fm, T id = some (m, fm) → ∃ x f fd ps, ps.length = m ∧ nx.fn[id]? = some x ∧ X.mg x = some (.ref f) ∧ PySem.W.keepIn X.K (.ref f) = true ∧ Binds X.K fd ps [] ∧ FnG X.prog X.w X.K X.mg X.base lv f fd ps (spOf X.K X9 m fm)
  gl : ∀ g d, C g = some d → ∃ x u v, nx.gc[g]? = some x ∧ X.mg x = some u ∧ RelV v u ∧ Dz X.K (fun _ => none) v d
  bi : ∀ x ∈ biNames, X.mg x = none

section
variable {T : Tb} {C : Nat → Option D}
def AllJ (T : Tb) (C : Nat → Option D) (k : Ck) (X : Cx) : E → List PySem.Expr → Prop
  | .nil, [] => True
  | .cons a r, e :: es => notStar e = true ∧ PE X e (tz (rP X.K) k (opd a (ev T C a).e)) ∧ AllJ T C k X r es
  | _, _ => False
theorem bd_assoc {α β γ : Type} (m : Ou α) (f : α → En → Ou β) (g : β → En → Ou γ) : (m.bd f).bd g = m.bd fun a n => (f a n).bd g := by
  cases m <;> rfl
variable {X : Cx} {X9 : Nat → Addr × Str} {W : WX}
theorem allJ_star {k : Ck} : ∀ {as : E} {es : List PySem.Expr}, AllJ T C k X as es → es.all notStar = true
  | .nil, [], _ => rfl
  | .nil, _ :: _, h => h.elim
  | .cons a r, [], h => h.elim
  | .cons a r, e :: es, h => by
    show (notStar e && es.all notStar) = true
    rw [h.1, allJ_star h.2.2]; rfl
  | .var _, [], h | .var _, _ :: _, h | .pk _, [], h | .pk _, _ :: _, h | .io _, [], h | .io _, _ :: _, h | .cst _, [], h | .cst _, _ :: _, h | .glb _, [], h | .glb _, _ :: _, h | .op _ _, [], h | .op _ _, _ :: _, h
  | .chn _ _ _ _ _, [], h | .chn _ _ _ _ _, _ :: _, h | .and _ _, [], h | .and _ _, _ :: _, h | .or _ _, [], h | .or _ _, _ :: _, h | .slc _ _ _, [], h | .slc _ _ _, _ :: _, h | .not _, [], h | .not _, _ :: _, h | .ife _ _ _, [], h | .ife _ _ _, _ :: _, h
  | .call _ _, [], h | .call _ _, _ :: _, h | .lc _ _ _ _ _, [], h | .lc _ _ _ _ _, _ :: _, h | .yes, [], h | .yes, _ :: _, h | .rng1 _, [], h | .rng1 _, _ :: _, h | .rng2 _ _, [], h | .rng2 _ _, _ :: _, h
  | .enm _, [], h | .enm _, _ :: _, h | .zip _ _, [], h | .zip _ _, _ :: _, h | .eat _, [], h | .eat _, _ :: _, h | .eis _ _, [], h | .eis _ _, _ :: _, h
  | .any, [], h | .any, _ :: _, h | .chn3 _ _ _ _ _ _ _, [], h | .chn3 _ _ _ _ _ _ _, _ :: _, h | .lrg1 _, [], h | .lrg1 _, _ :: _, h | .lrg2 _ _, [], h | .lrg2 _ _, _ :: _, h => h.elim
theorem allJ_nil {k : Ck} {as : E} (h : AllJ T C k X as []) : as = .nil := by
  cases as <;> first | rfl | exact h.elim
theorem allJ_cons {k : Ck} {as : E} {e : PySem.Expr} {es : List PySem.Expr} (h : AllJ T C k X as (e :: es)) : ∃ a r, as = .cons a r ∧ notStar e = true ∧ PE X e (tz (rP X.K) k (opd a (ev T C a).e)) ∧ AllJ T C k X r es := by
  cases as <;> first | exact h.elim | exact ⟨_, _, rfl, h⟩
theorem pa_all {k : Ck} (hk : k.K = X.K) : ∀ {es : List PySem.Expr} {as : E}, AllJ T C k X as es → PA X es (tz (rL X.K) k (ev T C as).l)
  | [], as, h => by
    rw [allJ_nil h]
    refine PA.imp pa_nil ?_
    rintro σ H Q ⟨F, n, s, q⟩
    exact q [] F H s Step.refl .nil
  | e :: es, as, h => by
    obtain ⟨a, r, rfl, ns, pe, hr⟩ := allJ_cons h
    refine PA.imp (pa_cons pe (pa_all hk hr) (star_ok ns)) ?_
    rintro σ H Q ⟨F, n, s, q⟩
    refine ⟨F, n, s, Po.mono (Po.bd (ρ' := rP X.K) q) ?_⟩
    rintro v H1 ⟨F1, n1, p, s1, t1, pv, q⟩
    refine ⟨F1, n1, s1, Po.mono (Po.bd (ρ' := rL X.K) q) ?_⟩
    rintro vs H2 ⟨F2, n2, ps, s2, t2, pvs, q⟩
    exact q (v :: vs) F2 H2 s2 Step.refl (.cons (pv1_mono t2.f pv) pvs)
end
end Z

set_option Elab.async false
set_option linter.all false
set_option maxRecDepth 100000
set_option maxHeartbeats 8000000
namespace Z
open PySem PySem.Spec PyProof.Rows L2

section
variable {nx : Nx} {T : Tb} {C : Nat → Option D} {X9 : Nat → Addr × Str} {lv : Nat} {X : Cx} {W : WX}
/-! ## names and constants -/
theorem z_name {i : Nat} {e : PySem.Expr} (B : Bd nx T C X9 lv X W) (h : nameB nx X.env.scope i e = true) : PE X e (tVar i) := by
  cases e <;> try (cases h; done)
  rename_i x pos
  obtain ⟨a, b⟩ := Bool.and_eq_true_iff.mp (show (decide (nx.N[i]? = some x) && visB X.env.scope x) = true from h)
  obtain ⟨v, d1, d2⟩ := vis_ok b
  exact pe_var (by rw [B.eN]; exact of_decide_eq_true a) v d1 d2
theorem z_nameT {i : Nat} {e : PySem.Expr} (h : nameB nx X.env.scope i e = true) : plainT e = true := by
  cases e <;> first | rfl | (cases h; done)
theorem z_var {i : Nat} {e : PySem.Expr} (B : Bd nx T C X9 lv X W) (h : nameB nx X.env.scope i e = true) : PE X e (tz (rV X.K) (kk X X9 W) (zVar i)) := by
  refine PE.imp (z_name B h) ?_
  rintro σ H Q ⟨F, n, s, q⟩
  unfold zVar at q
  cases z : n[i]? with
  | none => rw [z] at q; exact q.elim
  | some t =>
    rw [z] at q
    have y := s.sl i t z
    cases t with
    | un => exact q.elim
    | pn d => exact q.elim
    | er c d => exact q.elim
    | fz d =>
      obtain ⟨v, e1, e2⟩ := y
      exact ⟨v, e1, q v F H s Step.refl e2⟩
    | ow d =>
      obtain ⟨a, e1, m⟩ := y
      obtain ⟨m0, ds, xs, rfl, m1, m2⟩ := m
      have li : i < n.length := (List.getElem?_eq_some_iff.mp z).1
      -- the slot is frozen
      have key : ∀ (j : Nat) (t : Sl), (n.set i (.fz (.list ds)))[j]? = some t → (j = i ∧ t = .fz (.list ds)) ∨ (j ≠ i ∧ n[j]? = some t) := fun j t e => by
        by_cases q : j = i
        · subst q; rw [List.getElem?_set_self li] at e; exact .inl ⟨rfl, (Option.some.inj e).symm⟩
        · rw [List.getElem?_set_ne (Ne.symm q)] at e; exact .inr ⟨q, e⟩
      have no : ∀ (j : Nat) (t : Sl) (b : Addr), j ≠ i → n[j]? = some t → isOwn t → σ[j]? = some (some (V.ref b)) → b ≠ a := fun j t b hj ht ot hb q => by
        subst q; exact s.ap j i t _ hj ht z ot trivial (hb.trans e1.symm)
      have sm : Same F (upd F a (.lst xs)) := same_upd m0
      have s2 : SO X.K (upd F a (.lst xs)) H σ (n.set i (.fz (.list ds))) := by
        refine ⟨fun b o e => ?_, by rw [List.length_set, s.len], fun j t e => ?_, fun j l t u hjl hj hl ot ou => ?_⟩
        · rcases upd_cases e with ⟨rfl, rfl⟩ | ⟨_, e⟩
          · exact m1
          · exact s.sub b o e
        · rcases key j t e with ⟨rfl, rfl⟩ | ⟨hj, e⟩
          · exact ⟨.ref a, e1, .lst (.inl upd_same) (dpAll_mono sm m2)⟩
          · have y := s.sl j t e
            have mo : ∀ b d, isOwn t → σ[j]? = some (some (V.ref b)) → Mo X.K F H b d → Mo X.K (upd F a (.lst xs)) H b d := by
              rintro b d ot hb ⟨k0, es, ys, rfl, k1, k2⟩
              exact ⟨by rw [upd_ne (no j t b hj e ot hb)]; exact k0, es, ys, rfl, k1, dpAll_mono sm k2⟩
            cases t with
            | un => trivial
            | fz d => obtain ⟨v, y1, y2⟩ := y; exact ⟨v, y1, dp_mono sm y2⟩
            | ow d => obtain ⟨b, y1, y2⟩ := y; exact ⟨b, y1, mo b d trivial y1 y2⟩
            | pn d => obtain ⟨b, y1, y2⟩ := y; exact ⟨b, y1, mo b d trivial y1 y2⟩
            | er c d => exact y
        · rcases key j t hj with ⟨rfl, rfl⟩ | ⟨_, h1⟩
          · exact ot.elim
          · rcases key l u hl with ⟨rfl, rfl⟩ | ⟨_, h2⟩
            · exact ou.elim
            · exact s.ap j l t u hjl h1 h2 ot ou
      have t2 : Step σ F H n (upd F a (.lst xs)) H (n.set i (.fz (.list ds))) := by
        refine ⟨sm, fun _ _ h _ => h, fun b o e => ?_, ?_, fun _ h => h⟩
        · rcases upd_cases e with ⟨rfl, rfl⟩ | ⟨_, e⟩
          · exact .inr (.inr ⟨i, _, z, trivial, e1⟩)
          · exact .inl e
        · rintro b ⟨j, t, e, ot, ev⟩
          rcases key j t e with ⟨rfl, rfl⟩ | ⟨_, e⟩
          · exact ot.elim
          · exact ⟨j, t, e, ot, ev⟩
      exact ⟨.ref a, e1, q (.ref a) _ H s2 t2 (.lst (.inl upd_same) (dpAll_mono sm m2))⟩
theorem z_slot {i : Nat} {e : PySem.Expr} {p : P} (B : Bd nx T C X9 lv X W) (h : nameB nx X.env.scope i e = true) {f : En → Ou P} (hp : ∀ v σ F, pv1 X.K F σ v p ↔ σ[i]? = some (some v))
    (hf : ∀ n : En, (∃ d, (n[i]?).bind slD = some d ∧ f n = .ok p n) ∨ f n = .st) : PE X e (tz (rP X.K) (kk X X9 W) f) := by
  refine PE.imp (z_name B h) ?_
  rintro σ H Q ⟨F, n, s, q⟩
  rcases hf n with ⟨d, z, e⟩ | e
  · rw [e] at q
    cases z' : n[i]? with
    | none => rw [z'] at z; cases z
    | some t =>
      rw [z'] at z
      have y := s.sl i t z'
      have fin : ∀ v, σ[i]? = some (some v) → tVar i σ H Q := fun v e1 => ⟨v, e1, q v F H s Step.refl ((hp v σ F).mpr e1)⟩
      cases t with
      | un => cases z
      | er c d => cases z
      | fz d => obtain ⟨v, e1, _⟩ := y; exact fin v e1
      | ow d => obtain ⟨v, e1, _⟩ := y; exact fin _ e1
      | pn d => obtain ⟨v, e1, _⟩ := y; exact fin _ e1
  · rw [e] at q; exact q.elim
theorem z_pk {i : Nat} {e : PySem.Expr} {f : En → Ou R} (B : Bd nx T C X9 lv X W) (h : nameB nx X.env.scope i e = true) : PE X e (tz (rP X.K) (kk X X9 W) (opd (.pk i) f)) := by
  refine z_slot (p := .sl i) B h (fun _ _ _ => Iff.rfl) fun n => ?_
  dsimp only [opd]
  cases z : n[i]? with
  | none => exact .inr rfl
  | some t => cases t <;> first | exact .inr rfl | exact .inl ⟨_, rfl, rfl⟩
theorem z_io {i : Nat} {e : PySem.Expr} {f : En → Ou R} (B : Bd nx T C X9 lv X W) (h : nameB nx X.env.scope i e = true) : PE X e (tz (rP X.K) (kk X X9 W) (opd (.io i) f)) := by
  refine z_slot (p := .io i) B h (fun _ _ _ => Iff.rfl) fun n => ?_
  dsimp only [opd]
  cases z : n[i]? with
  | none => exact .inr rfl
  | some t => cases t <;> first | exact .inr rfl | exact .inl ⟨_, rfl, rfl⟩
/-- an operand by its value -/
theorem z_val {e : PySem.Expr} {f : En → Ou R} {g : En → Ou P} (h : PE X e (tz (rV X.K) (kk X X9 W) f)) (hg : ∀ n, g n = (f n).bd fun r n1 => .ok (.dd r.d) n1) : PE X e (tz (rP X.K) (kk X X9 W) g) := by
  refine PE.imp h ?_
  rintro σ H Q ⟨F, n, s, q⟩
  refine ⟨F, n, s, Po.frz s ?_⟩
  rw [hg] at q
  cases z : f n with
  | st => rw [z] at q; exact q
  | ex c d n' => rw [z] at q; exact q
  | ok r n' => rw [z] at q; exact q
theorem z_cst {d : D} {e : PySem.Expr} (h : constB d e = true) : PE X e (tz (rV X.K) (kk X X9 W) fun n => .ok (.fr d) n) := by
  have fin : ∀ {v : V}, (∀ F, Dz X.K F v d) → PE X e (tC v) → PE X e (tz (rV X.K) (kk X X9 W) fun n => .ok (.fr d) n) := fun {v} hv p => by
    refine PE.imp p ?_
    rintro σ H Q ⟨F, n, s, q⟩
    exact q v F H s Step.refl (hv F)
  cases d <;> cases e <;> try (cases h; done)
  · rename_i c j pos
    cases c <;> try (cases h; done)
    exact fin (fun _ => .non) pe_non
  · rename_i b c j pos
    cases c <;> try (cases h; done)
    have e : b = _ := eq_of_beq (show (b == _) = true from h)
    subst e
    exact fin (fun _ => .bl _) pe_bl
  · rename_i b c j pos
    cases c <;> try (cases h; done)
    have e := of_decide_eq_true (show decide (b = _) = true from h)
    subst e
    exact fin (fun _ => .int _) pe_int
  · rename_i b c j pos
    cases c <;> try (cases h; done)
    have e := of_decide_eq_true (show decide (b = _) = true from h)
    subst e
    exact fin (fun _ => .str _) pe_str
theorem z_glb {g : Nat} {e : PySem.Expr} (B : Bd nx T C X9 lv X W) (h : (match e with
    | .Name x _ => decide (nx.gc[g]? = some x) && glB X.env.scope x
    | _ => false) = true) : PE X e (tz (rV X.K) (kk X X9 W) fun n => match C g with
    | some d => .ok (.fr d) n
    | none => .st) := by
  cases e <;> try (cases h; done)
  rename_i x pos
  obtain ⟨a, b⟩ := Bool.and_eq_true_iff.mp (show (decide (nx.gc[g]? = some x) && glB X.env.scope x) = true from h)
  obtain ⟨gl, dbg⟩ := gl_ok b
  cases z : C g with
  | none => exact ⟨fun pins s σ H Q I q => by obtain ⟨F, n, _, q⟩ := q; exact q.elim⟩
  | some d =>
    obtain ⟨y, u, v, e1, e2, e3, e4⟩ := B.gl g d z
    rw [of_decide_eq_true a] at e1; cases e1
    refine PE.imp (pe_glob (pos := pos) gl e2 e3 dbg) ?_
    rintro σ H Q ⟨F, n, s, q⟩
    exact q v F H s Step.refl (dp_mono (fun _ _ z => by cases z) e4)

/-! ## operations -/
theorem zOp_two {a b : E} {o : Op} {n : En} : zOp o (ev T C (.cons a (.cons b .nil))).l n = (opd a (ev T C a).e n).bd fun p n1 => (opd b (ev T C b).e n1).bd fun q n2 => match opdl o n2 [p, q] with
    | some ds => .of (opD o ds) n2
    | none => .st := by
  show ((opd a (ev T C a).e n).bd fun p n1 => ((opd b (ev T C b).e n1).bd fun q n2 => (Ou.ok [] n2).bd fun ps n3 => .ok (q :: ps) n3).bd fun ps n2 => .ok (p :: ps) n2).bd _ = _
  rw [bd_assoc]
  congr 1
  funext p n1
  rw [bd_assoc]
  rw [bd_assoc]
  try rfl
theorem zOp_one {a : E} {o : Op} {n : En} : zOp o (ev T C (.cons a .nil)).l n = (opd a (ev T C a).e n).bd fun p n1 => match opdl o n1 [p] with
    | some ds => .of (opD o ds) n1
    | none => .st := by
  show ((opd a (ev T C a).e n).bd fun p n1 => (Ou.ok [] n1).bd fun ps n2 => .ok (p :: ps) n2).bd _ = _
  rw [bd_assoc]
  try rfl
/-- two operands, a rule by values -/
theorem z_two {a b : E} {o : Op} {r : R2} (hr : retains o = false)
    (h : ∀ F H v w x y res Q, Same F H → Dq X.K F H v x → Dq X.K F H w y → opD o [x, y] = some res → Res X.K F H res Q → r v w H Q) {σ : L2.St} {H : Hp} {Q : V → Hp → Prop}
    (q : tz (rV X.K) (kk X X9 W) (zOp o (ev T C (.cons a (.cons b .nil))).l) σ H Q) : tOp r (tz (rP X.K) (kk X X9 W) (opd a (ev T C a).e)) (tz (rP X.K) (kk X X9 W) (opd b (ev T C b).e)) σ H Q := by
  obtain ⟨F, n, s, q⟩ := q
  rw [zOp_two] at q
  refine ⟨F, n, s, Po.mono (Po.bd (ρ' := rP X.K) q) ?_⟩
  rintro v H1 ⟨F1, n1, p, s1, t1, pv, q⟩
  refine ⟨F1, n1, s1, Po.mono (Po.bd (ρ' := rP X.K) q) ?_⟩
  rintro w H2 ⟨F2, n2, p2, s2, t2, pw, q⟩
  unfold opdl at q
  rw [hr, if_neg Bool.false_ne_true] at q
  cases z : rsl n2 [p, p2] with
  | none => rw [z] at q; exact q.elim
  | some ds =>
    rw [z] at q
    obtain ⟨res, e, q9⟩ := Po.of q
    have all := rsl_ok s2 (.cons (pv1_mono t2.f pv) (.cons pw .nil)) z
    cases all with
    | cons d1 r1 =>
      cases r1 with
      | cons d2 r2 =>
        cases r2
        exact h F2 H2 v w _ _ res Q s2.sub d1 d2 e (q9.res s2)
theorem z_one {a : E} {o : Op} {r : V → Hp → VK → Prop} (hr : retains o = false)
    (h : ∀ F H v x res Q, Same F H → Dq X.K F H v x → opD o [x] = some res → Res X.K F H res Q → r v H Q) {σ : L2.St} {H : Hp} {Q : V → Hp → Prop}
    (q : tz (rV X.K) (kk X X9 W) (zOp o (ev T C (.cons a .nil)).l) σ H Q) : tUn r (tz (rP X.K) (kk X X9 W) (opd a (ev T C a).e)) σ H Q := by
  obtain ⟨F, n, s, q⟩ := q
  rw [zOp_one] at q
  refine ⟨F, n, s, Po.mono (Po.bd (ρ' := rP X.K) q) ?_⟩
  rintro v H1 ⟨F1, n1, p, s1, t1, pv, q⟩
  unfold opdl at q
  rw [hr, if_neg Bool.false_ne_true] at q
  cases z : rsl n1 [p] with
  | none => rw [z] at q; exact q.elim
  | some ds =>
    rw [z] at q
    obtain ⟨res, e, q9⟩ := Po.of q
    have all := rsl_ok s1 (.cons pv .nil) z
    cases all with
    | cons d1 r1 =>
      cases r1
      exact h F1 H1 v _ res Q s1.sub d1 e (q9.res s1)
/-- a row of operands, a rule by values -/
theorem z_row {as : E} {o : Op} {r : List V → Hp → VK → Prop} (hr : retains o = false) (h : ∀ vs H Q, rOp X.K o vs H Q → r vs H Q) {σ : L2.St} {H : Hp} {Q : V → Hp → Prop}
    (q : tz (rV X.K) (kk X X9 W) (zOp o (ev T C as).l) σ H Q) : tCB r (tz (rL X.K) (kk X X9 W) (ev T C as).l) σ H Q := by
  obtain ⟨F, n, s, q⟩ := q
  refine ⟨F, n, s, Po.mono (Po.bd (ρ' := rL X.K) q) ?_⟩
  rintro vs H1 ⟨F1, n1, ps, s1, t1, pv, q⟩
  unfold opdl at q
  rw [hr, if_neg Bool.false_ne_true] at q
  cases z : rsl n1 ps with
  | none => rw [z] at q; exact q.elim
  | some ds =>
    rw [z] at q
    obtain ⟨res, e, q9⟩ := Po.of q
    exact h vs H1 Q ⟨F1, ds, res, s1.sub, rsl_ok s1 pv z, e, q9.res s1⟩
theorem ne_nil {args : List PySem.Expr} (h : (!args.isEmpty) = true) : ∃ e es, args = e :: es := by
  cases args with
  | nil => cases h
  | cons e es => exact ⟨e, es, rfl⟩
/-- a built-in function called -/
theorem z_callB {as : E} {o : Op} {nm : Str} {id : String} {args : List PySem.Expr} {p pos : Pos} (B : Bd nx T C X9 lv X W) (hr : retains o = false) (hc : CallR X (.builtin id) (rOp X.K o)) (hv : bootBuiltins nm = some (.builtin id)) (hb : nm ∈ biNames)
    (hn : nm ≠ "__name__") (hdb : (nm == ("__debug__" : Str)) = false) (g : glB X.env.scope nm = true) (ne : (!args.isEmpty) = true) (J : AllJ T C (kk X X9 W) X as args) : PE X (.Call (.Name nm p) args [] pos) (tz (rV X.K) (kk X X9 W) (zOp o (ev T C as).l)) := by
  obtain ⟨e, es, rfl⟩ := ne_nil ne
  have st := allJ_star J
  obtain ⟨s1, s2⟩ := Bool.and_eq_true_iff.mp (show (notStar e && es.all notStar) = true from st)
  refine PE.imp (pe_callB hc (gl_ok g).1 (B.bi nm hb) hv (pa_all rfl J) hn hdb (star_ok s1) (pl_ok s2)) ?_
  intro σ H Q q
  exact z_row hr (fun _ _ _ z => z) q
theorem z_callTy {as : E} {o : Op} {nm : Str} {id : String} {args : List PySem.Expr} {p pos : Pos} (B : Bd nx T C X9 lv X W) (hr : retains o = false) (hc : CallR X (.type id) (rOp X.K o)) (hv : bootBuiltins nm = some (.type id)) (hb : nm ∈ biNames)
    (hn : nm ≠ "__name__") (hdb : (nm == ("__debug__" : Str)) = false) (g : glB X.env.scope nm = true) (ne : (!args.isEmpty) = true) (J : AllJ T C (kk X X9 W) X as args) : PE X (.Call (.Name nm p) args [] pos) (tz (rV X.K) (kk X X9 W) (zOp o (ev T C as).l)) := by
  obtain ⟨e, es, rfl⟩ := ne_nil ne
  have st := allJ_star J
  obtain ⟨s1, s2⟩ := Bool.and_eq_true_iff.mp (show (notStar e && es.all notStar) = true from st)
  refine PE.imp (pe_callTy hc (gl_ok g).1 (B.bi nm hb) hv (pa_all rfl J) hn hdb (star_ok s1) (pl_ok s2)) ?_
  intro σ H Q q
  exact z_row hr (fun _ _ _ z => z) q
end
end Z

set_option Elab.async false
set_option linter.all false
set_option maxRecDepth 100000
set_option maxHeartbeats 8000000
namespace Z
open PySem PySem.Spec PyProof.Rows L2

section
variable {nx : Nx} {T : Tb} {C : Nat → Option D} {X9 : Nat → Addr × Str} {lv : Nat} {X : Cx} {W : WX}
theorem ba {a b : Bool} (h : (a && b) = true) : a = true ∧ b = true := Bool.and_eq_true_iff.mp h

/-- displays -/
theorem z_disp {as : E} {o : Op} {es : List PySem.Expr} {e : PySem.Expr} {t : TA → TE} (hr : retains o = true) (J : AllJ T C (kk X X9 W) X as es) (hp : ∀ {t0 : TA}, PA X es t0 → PE X e (t t0))
    (h : ∀ {F H : Hp} {n : En} {σ : L2.St} {vs : List V} {ds : List D} {Q : VK}, SO X.K F H σ n → DzAll X.K F vs ds → (∃ res, opD o ds = some res ∧ Res X.K F H res Q) → t (fun _ H Q => Q vs H) σ H Q)
    (hm : ∀ (σ : L2.St) (H : Hp) (Q : VK) (t0 : TA), t0 σ H (fun vs H1 => t (fun _ H Q => Q vs H) σ H1 Q) → t t0 σ H Q) : PE X e (tz (rV X.K) (kk X X9 W) (zOp o (ev T C as).l)) := by
  refine PE.imp (hp (pa_all rfl J)) ?_
  rintro σ H Q ⟨F, n, s, q⟩
  refine hm σ H Q _ ⟨F, n, s, Po.mono (Po.bd (ρ' := rL X.K) q) ?_⟩
  rintro vs H1 ⟨F1, n1, ps, s1, t1, pv, q⟩
  unfold opdl at q
  rw [hr, if_pos rfl] at q
  cases z : frl ps with
  | none => rw [z] at q; exact q.elim
  | some ds =>
    rw [z] at q
    obtain ⟨res, e, q9⟩ := Po.of q
    exact h s1 (frl_ok pv z) ⟨res, e, q9.res s1⟩

theorem z_op {as : E} {o : Op} {e : PySem.Expr} (B : Bd nx T C X9 lv X W) (J : ∀ es, (ck nx as X.env.scope).l es = true → AllJ T C (kk X X9 W) X as es) (h : opB X.env.scope (ck nx as X.env.scope).l o e = true) :
    PE X e (tz (rV X.K) (kk X X9 W) (zOp o (ev T C as).l)) := by
  have hu := B.room.un
  cases o with
  | bin b =>
    cases e <;> try (cases h; done)
    obtain ⟨h1, h2⟩ := ba h
    have := of_decide_eq_true h1
    subst this
    obtain ⟨a, r, rfl, _, pa, J2⟩ := allJ_cons (J _ h2)
    obtain ⟨c, r, rfl, _, pc, J3⟩ := allJ_cons J2
    cases allJ_nil J3
    exact PE.imp (pe_op (op_bin b) pa pc) fun σ H Q q => z_two rfl (fun F H v w x y res Q sm dx dy e r => ⟨F, x, y, res, sm, dx, dy, e, r⟩) q
  | neg =>
    cases e <;> try (cases h; done)
    rename_i op x pos
    cases op <;> try (cases h; done)
    obtain ⟨a, r, rfl, _, pa, J2⟩ := allJ_cons (J _ h)
    cases allJ_nil J2
    exact PE.imp (pe_un un_negZ pa) fun σ H Q q => z_one rfl (fun F H v x res Q sm dx e r => ⟨F, x, res, sm, dx, e, r⟩) q
  | cmp c =>
    obtain ⟨x, y, pos, rfl, h2, h3⟩ := opCmp_inv h
    obtain ⟨a, r, rfl, _, pa, J2⟩ := allJ_cons (J _ h3)
    obtain ⟨d, r, rfl, _, pd, J3⟩ := allJ_cons J2
    cases allJ_nil J3
    refine PE.imp (pe_cmpR (op_cmp (by omega) c) pa pd (mark_ok h2)) fun σ H Q q => z_two rfl (fun F H v w x y res Q sm dx dy e r => ?_) q
    have e : (cmpD c x y).map dbl = some res := e
    cases z : cmpD c x y with
    | none => rw [z] at e; cases e
    | some b => rw [z] at e; cases e; exact ⟨F, x, y, b, sm, dx, dy, z, r.bl sm⟩
  | tup =>
    cases e <;> try (cases h; done)
    refine z_disp rfl (J _ h) (t := tTup) (fun p => pe_tup p) (fun {F H n σ vs ds Q} s dz ⟨res, e, q⟩ => ?_) (fun _ _ _ _ z => z)
    obtain ⟨h1, h2⟩ := ite_some e
    subst h2
    exact ⟨by rw [dpAll_len dz]; exact fitL_ok h1, fun p hp => q.tup s.sub dz hp⟩
  | lst =>
    cases e <;> try (cases h; done)
    refine z_disp rfl (J _ h) (t := tLst) (fun p => pe_lst p) (fun {F H n σ vs ds Q} s dz ⟨res, e, q⟩ => ?_) (fun _ _ _ _ z => z)
    obtain ⟨h1, h2⟩ := ite_some e
    subst h2
    exact ⟨by rw [dpAll_len dz]; exact fitL_ok h1, fun p hp => q.lst s.sub dz hp⟩
  | idx =>
    cases e <;> try (cases h; done)
    obtain ⟨h1, h2⟩ := ba h
    obtain ⟨a, r, rfl, _, pa, J2⟩ := allJ_cons (J _ h2)
    obtain ⟨c, r, rfl, _, pc, J3⟩ := allJ_cons J2
    cases allJ_nil J3
    exact PE.imp (pe_ix ix_Z pa pc (ix_ok h1)) fun σ H Q q => z_two rfl (fun F H v w x y res Q sm dx dy e r => ⟨F, x, y, res, sm, dx, dy, e, r⟩) q
  | rev =>
    obtain ⟨x, k, p1, p2, p3, pos, rfl, h⟩ := opRev_inv h
    obtain ⟨a, r, rfl, _, pa, J2⟩ := allJ_cons (J _ h)
    cases allJ_nil J2
    exact PE.imp (pe_revZ pa) fun σ H Q q => z_one rfl (fun F H v x res Q sm dx e r => ⟨F, x, res, sm, dx, e, r⟩) q
  | slc lo hi =>
    obtain ⟨x, l, u, p2, pos, rfl, h⟩ := opSlc_inv h
    cases lo <;> cases hi <;> cases l <;> cases u <;> try (cases h; done)
    · obtain ⟨a, r, rfl, _, pa, J2⟩ := allJ_cons (J _ h)
      cases allJ_nil J2
      refine PE.imp (pe_slice sl_Z pa po_none po_none) fun σ H Q q => ?_
      exact z_one (o := .slc false false) (r := fun v H Q => rSlc X.K v none none H Q) rfl (fun F H v x res Q sm dx e r => ⟨F, x, res, sm, dx, e, r⟩) q
    · obtain ⟨a, r, rfl, _, pa, J2⟩ := allJ_cons (J _ h)
      obtain ⟨c, r, rfl, _, pc, J3⟩ := allJ_cons J2
      cases allJ_nil J3
      refine PE.imp (pe_slice sl_Z pa po_none (po_some pc)) fun σ H Q q => ?_
      exact z_two (o := .slc false true) (r := fun v w H Q => ∃ i, w = .int i ∧ rSlc X.K v none (some i) H Q) rfl (fun F H v w x y res Q sm dx dy e r => by
        cases y <;> try (cases e; done)
        exact ⟨_, dy.int, F, x, res, sm, dx, e, r⟩) q
    · obtain ⟨a, r, rfl, _, pa, J2⟩ := allJ_cons (J _ h)
      obtain ⟨c, r, rfl, _, pc, J3⟩ := allJ_cons J2
      cases allJ_nil J3
      refine PE.imp (pe_slice sl_Z pa (po_some pc) po_none) fun σ H Q q => ?_
      exact z_two (o := .slc true false) (r := fun v w H Q => ∃ i, w = .int i ∧ rSlc X.K v (some i) none H Q) rfl (fun F H v w x y res Q sm dx dy e r => by
        cases y <;> try (cases e; done)
        exact ⟨_, dy.int, F, x, res, sm, dx, e, r⟩) q
  | isi t =>
    obtain ⟨fp, x, gp, pos, rfl, h2, h4, e5, h6⟩ := opIsi_inv h
    obtain ⟨a, r, rfl, st, pa, J2⟩ := allJ_cons (J _ h6)
    cases allJ_nil J2
    have ty : PE X (.Name (Str.ofString t.nm) gp) (tC (.ty t.nm)) := by
      have bt : bootBuiltins (Str.ofString t.nm) = some (.type t.nm) := by cases t <;> first | exact absurd rfl e5 | decide +kernel
      have bn : Str.ofString t.nm ∈ biNames := by cases t <;> first | exact absurd rfl e5 | decide +kernel
      exact pe_bltn (gl_ok h4).1 (B.bi _ bn) bt rfl (by cases t <;> decide) (gl_ok h4).2
    refine PE.imp (pe_callB (cl_isi t e5) (gl_ok h2).1 (B.bi _ (by decide +kernel)) (by decide +kernel) (pa_cons pa (pa_cons ty pa_nil (by rfl)) (star_ok st)) (by decide) (gl_ok h2).2 (star_ok st) (by rfl)) fun σ H Q q => ?_
    have q2 := z_one (r := fun v H Q => rOp X.K (.isi t) [v] H Q) rfl (fun F H v x res Q sm dx e r => ⟨F, [x], res, sm, .cons dx .nil, e, r⟩) q
    obtain ⟨F, n, s, q3⟩ := q2
    exact ⟨F, n, s, Po.mono q3 fun v H1 z => ⟨v, rfl, z⟩⟩
  | len =>
    obtain ⟨p, args, pos, rfl, g, ne, hl⟩ := opBf_inv (nm := "len") h
    exact z_callB B rfl cl_len (by decide +kernel) (by decide +kernel) (by decide) (by decide) g ne (J _ hl)
  | all =>
    obtain ⟨p, args, pos, rfl, g, ne, hl⟩ := opBf_inv (nm := "all") h
    exact z_callB B rfl (cl_all B.calm) (by decide +kernel) (by decide +kernel) (by decide) (by decide) g ne (J _ hl)
  | any =>
    obtain ⟨p, args, pos, rfl, g, ne, hl⟩ := opBf_inv (nm := "any") h
    exact z_callB B rfl (cl_any B.calm) (by decide +kernel) (by decide +kernel) (by decide) (by decide) g ne (J _ hl)
  | tupOf =>
    obtain ⟨p, args, pos, rfl, g, ne, hl⟩ := opBf_inv (nm := "tuple") h
    exact z_callTy B rfl cl_tup (by decide +kernel) (by decide +kernel) (by decide) (by decide) g ne (J _ hl)
  | lstOf =>
    obtain ⟨p, args, pos, rfl, g, ne, hl⟩ := opBf_inv (nm := "list") h
    exact z_callTy B rfl cl_lst (by decide +kernel) (by decide +kernel) (by decide) (by decide) g ne (J _ hl)
  | abs =>
    obtain ⟨p, args, pos, rfl, g, ne, hl⟩ := opBf_inv (nm := "abs") h
    exact z_callB B rfl cl_abs (by decide +kernel) (by decide +kernel) (by decide) (by decide) g ne (J _ hl)
  | int1 =>
    obtain ⟨p, args, pos, rfl, g, ne, hl⟩ := opBf_inv (nm := "int") h
    exact z_callTy B rfl cl_int1 (by decide +kernel) (by decide +kernel) (by decide) (by decide) g ne (J _ hl)
  | min2 =>
    obtain ⟨p, args, pos, rfl, g, ne, hl⟩ := opBf_inv (nm := "min") h
    exact z_callB B rfl (cl_min2 B.calm) (by decide +kernel) (by decide +kernel) (by decide) (by decide) g ne (J _ hl)
  | max2 =>
    obtain ⟨p, args, pos, rfl, g, ne, hl⟩ := opBf_inv (nm := "max") h
    exact z_callB B rfl (cl_max2 B.calm) (by decide +kernel) (by decide +kernel) (by decide) (by decide) g ne (J _ hl)
  | sum =>
    obtain ⟨p, args, pos, rfl, g, ne, hl⟩ := opBf_inv (nm := "sum") h
    exact z_callB B rfl (cl_sum B.calm) (by decide +kernel) (by decide +kernel) (by decide) (by decide) g ne (J _ hl)
  | repr =>
    obtain ⟨p, args, pos, rfl, g, ne, hl⟩ := opBf_inv (nm := "repr") h
    exact z_callB B rfl (cl_repr B.gd (by omega)) (by decide +kernel) (by decide +kernel) (by decide) (by decide) g ne (J _ hl)
  | lstRng => exact (opBf_none (sc := X.env.scope) (l := (ck nx as X.env.scope).l) (e := e) h).elim
  | sorted =>
    obtain ⟨p, args, pos, rfl, g, ne, hl⟩ := opBf_inv (nm := "sorted") h
    exact z_callB B rfl cl_sorted (by decide +kernel) (by decide +kernel) (by decide) (by decide) g ne (J _ hl)
  | str1 =>
    obtain ⟨p, args, pos, rfl, g, ne, hl⟩ := opBf_inv (nm := "str") h
    exact z_callTy B rfl cl_str1 (by decide +kernel) (by decide +kernel) (by decide) (by decide) g ne (J _ hl)
  | minL =>
    obtain ⟨p, args, pos, rfl, g, ne, hl⟩ := opBf_inv (nm := "min") h
    exact z_callB B rfl (cl_minL B.calm) (by decide +kernel) (by decide +kernel) (by decide) (by decide) g ne (J _ hl)
  | maxL =>
    obtain ⟨p, args, pos, rfl, g, ne, hl⟩ := opBf_inv (nm := "max") h
    exact z_callB B rfl (cl_maxL B.calm) (by decide +kernel) (by decide +kernel) (by decide) (by decide) g ne (J _ hl)
theorem rs_int {F H : Hp} {σ : L2.St} {n : En} {v : V} {p : P} {i : Int} (s : SO X.K F H σ n) (pv : pv1 X.K F σ v p) (e : rs n p = some (.int i)) : v = .int i := (rs_ok s pv e).int
theorem z_slc {a b c : En → Ou P} {x y z : PySem.Expr} {p2 pos : Pos} (ha : PE X x (tz (rP X.K) (kk X X9 W) a)) (hb : PE X y (tz (rP X.K) (kk X X9 W) b)) (hc : PE X z (tz (rP X.K) (kk X X9 W) c)) :
    PE X (.Subscript x (.Slice (some y) (some z) none p2) pos) (tz (rV X.K) (kk X X9 W) (zSlc a b c)) := by
  refine PE.imp (pe_slice sl_Z ha (po_some hb) (po_some hc)) ?_
  rintro σ H Q ⟨F, n, s, q⟩
  refine ⟨F, n, s, Po.mono (Po.bd (ρ' := rP X.K) q) ?_⟩
  rintro v H1 ⟨F1, n1, p, s1, t1, pv, q⟩
  refine ⟨F1, n1, s1, Po.mono (Po.bd (ρ' := rP X.K) q) ?_⟩
  rintro w H2 ⟨F2, n2, p2, s2, t2, pw, q⟩
  split at q
  · rename_i i ei
    refine ⟨i, rs_int s2 pw ei, F2, n2, s2, Po.mono (Po.bd (ρ' := rP X.K) q) ?_⟩
    rintro u H3 ⟨F3, n3, p3, s3, t3, pu, q⟩
    split at q
    · rename_i d j e1 e2
      obtain ⟨res, e, q9⟩ := Po.of q
      exact ⟨j, rs_int s3 pu e2, F3, d, res, s3.sub, rs_ok s3 (pv1_mono (t2.f.trans t3.f) pv) e1, e, q9.res s3⟩
    · exact q.elim
  · exact q.elim
theorem cmp_sem {F H : Hp} {v w : V} {x y : D} {o : COp} {b : Bool} {Q : VK} (sm : Same F H) (dx : Dq X.K F H v x) (dy : Dq X.K F H w y) (e : cmpD o x y = some b) (q : Q (.bl b) H) : rCmp X.K o v w H Q := ⟨F, x, y, b, sm, dx, dy, e, q⟩
theorem z_chain {a b c : En → Ou P} {o1 o2 : COp} {σ : L2.St} {H : Hp} {Q : V → Hp → Prop} (q : tz (rV X.K) (kk X X9 W) (zChn o1 o2 a b c) σ H Q) :
    tChain (rCmp X.K o1) (rCmp X.K o2) (tz (rP X.K) (kk X X9 W) a) (tz (rP X.K) (kk X X9 W) b) (tz (rP X.K) (kk X X9 W) c) σ H Q := by
  obtain ⟨F, n, s, q⟩ := q
  refine ⟨F, n, s, Po.mono (Po.bd (ρ' := rP X.K) q) ?_⟩
  rintro v H1 ⟨F1, n1, p, s1, t1, pv, q⟩
  refine ⟨F1, n1, s1, Po.mono (Po.bd (ρ' := rP X.K) q) ?_⟩
  rintro w H2 ⟨F2, n2, p2, s2, t2, pw, q⟩
  split at q
  · rename_i x y ex ey
    split at q
    · rename_i e1
      refine cmp_sem s2.sub (rs_ok s2 (pv1_mono t2.f pv) ex) (rs_ok s2 pw ey) e1 ⟨true, rfl, ?_⟩
      rw [if_pos rfl]
      refine ⟨F2, n2, s2, Po.mono (Po.bd (ρ' := rP X.K) q) ?_⟩
      rintro u H3 ⟨F3, n3, p3, s3, t3, pu, q⟩
      split at q
      · rename_i y' z ey' ez
        obtain ⟨res, e, q9⟩ := Po.of q
        cases e2 : cmpD o2 y' z with
        | none => rw [e2] at e; cases e
        | some k =>
          rw [e2] at e; cases e
          exact cmp_sem s3.sub (rs_ok s3 (pv1_mono t3.f pw) ey') (rs_ok s3 pu ez) e2 ((q9.res s3).bl s3.sub)
      · exact q.elim
    · rename_i e1
      refine cmp_sem s2.sub (rs_ok s2 (pv1_mono t2.f pv) ex) (rs_ok s2 pw ey) e1 ⟨false, rfl, ?_⟩
      rw [if_neg Bool.false_ne_true]
      exact (Po.res s2 q).bl s2.sub
    · exact q.elim
  · exact q.elim
/-- three comparisons in a row -/
def tCh3 (r1 r2 r3 : R2) (ta tb tc td : TE) : TE := fun σ H Q => ta σ H fun x H1 => tb σ H1 fun y H2 => r1 x y H2 fun z H3 => ∃ k, z = .bl k ∧
  (if k = true then tc σ H3 fun w H4 => r2 y w H4 fun z2 H5 => ∃ k2, z2 = .bl k2 ∧ (if k2 = true then td σ H5 fun u H6 => r3 w u H6 Q else Q (.bl false) H5) else Q (.bl false) H3)
theorem pe_ch3 {o1 o2 o3 : CmpOp} {r1 r2 r3 : R2} {a b c d : PySem.Expr} {ta tb tc td : TE} {pos : Pos} (h1 : OpR X (compareOp o1) r1) (h2 : OpR X (compareOp o2) r2) (h3 : OpR X (compareOp o3) r3) (ha : PE X a ta) (hb : PE X b tb) (hc : PE X c tc) (hd : PE X d td)
    (hm : lastMarks [o1, o2, o3] [b, c, d] = false) : PE X (.Compare a [o1, o2, o3] [b, c, d] pos) (tCh3 r1 r2 r3 ta tb tc td) := by
  constructor
  intro pins s σ H Q I h
  refine Compare_chain ?_ hm
  refine thn (ha.run pins s σ H _ I h) ?_
  rintro v s1 ⟨x, H1, I1, e1, q⟩
  refine chain_link (thn (hb.run pins s1 σ H1 _ I1 q) ?_)
  rintro u s2 ⟨y, H2, I2, e2, q⟩
  refine thn (h1 pins s2 σ H2 x y v u _ I2 e1 e2 q) ?_
  rintro b1 s3 ⟨z, H3, I3, e3, k, rfl, q⟩
  cases e3
  refine wpAny_truthy_bool ?_
  cases k with
  | false => exact ite_ff ⟨.bl false, H3, I3, rfl, q⟩
  | true =>
    rw [if_pos rfl] at q
    refine ite_tt (chain_link (thn (hc.run pins s3 σ H3 _ I3 q) ?_))
    rintro w s4 ⟨w', H4, I4, e4, q⟩
    refine thn (h2 pins s4 σ H4 y w' u w _ I4 e2 e4 q) ?_
    rintro b2 s5 ⟨z2, H5, I5, e5, k2, rfl, q⟩
    cases e5
    refine wpAny_truthy_bool ?_
    cases k2 with
    | false => exact ite_ff ⟨.bl false, H5, I5, rfl, q⟩
    | true =>
      rw [if_pos rfl] at q
      refine ite_tt (chain_last (thn (hd.run pins s5 σ H5 _ I5 q) ?_))
      rintro t s6 ⟨t', H6, I6, e6, q⟩
      exact h3 pins s6 σ H6 w' t' w t Q I6 e4 e6 q
theorem pt_ch3 {o1 o2 o3 : CmpOp} {r1 r2 r3 : R2} {a b c d : PySem.Expr} {ta tb tc td : TE} {pos : Pos} (h1 : OpR X (compareOp o1) r1) (h2 : OpR X (compareOp o2) r2) (h3 : OpR X (compareOp o3) r3) (ha : PE X a ta) (hb : PE X b tb) (hc : PE X c tc) (hd : PE X d td)
    (hm : lastMarks [o1, o2, o3] [b, c, d] = false) : PT X (.Compare a [o1, o2, o3] [b, c, d] pos) (tTest (tCh3 r1 r2 r3 ta tb tc td)) := by
  constructor
  intro pins s σ H Q I h
  refine isTrue_chain ?_ hm
  refine thn (ha.run pins s σ H _ I h) ?_
  rintro v s1 ⟨x, H1, I1, e1, q⟩
  refine test_link (thn (hb.run pins s1 σ H1 _ I1 q) ?_)
  rintro u s2 ⟨y, H2, I2, e2, q⟩
  refine thn (h1 pins s2 σ H2 x y v u _ I2 e1 e2 q) ?_
  rintro b1 s3 ⟨z, H3, I3, e3, k, rfl, q⟩
  cases e3
  refine wpAny_truthy_bool ?_
  cases k with
  | false =>
    obtain ⟨k', e', q'⟩ := q
    cases e'
    exact ite_ff ⟨H3, I3, q'⟩
  | true =>
    rw [if_pos rfl] at q
    refine ite_tt (test_link (thn (hc.run pins s3 σ H3 _ I3 q) ?_))
    rintro w s4 ⟨w', H4, I4, e4, q⟩
    refine thn (h2 pins s4 σ H4 y w' u w _ I4 e2 e4 q) ?_
    rintro b2 s5 ⟨z2, H5, I5, e5, k2, rfl, q⟩
    cases e5
    refine wpAny_truthy_bool ?_
    cases k2 with
    | false =>
      obtain ⟨k', e', q'⟩ := q
      cases e'
      exact ite_ff ⟨H5, I5, q'⟩
    | true =>
      rw [if_pos rfl] at q
      refine ite_tt (test_last (thn (hd.run pins s5 σ H5 _ I5 q) ?_))
      rintro t s6 ⟨t', H6, I6, e6, q⟩
      refine thn (h3 pins s6 σ H6 w' t' w t _ I6 e4 e6 q) ?_
      rintro b3 s7 ⟨z3, H7, I7, e7, k3, rfl, q⟩
      cases e7
      exact wpAny_truthy_bool ⟨H7, I7, q⟩
theorem z_ch3 {a b c d : En → Ou P} {o1 o2 o3 : COp} {σ : L2.St} {H : Hp} {Q : V → Hp → Prop} (q : tz (rV X.K) (kk X X9 W) (zChn3 o1 o2 o3 a b c d) σ H Q) :
    tCh3 (rCmp X.K o1) (rCmp X.K o2) (rCmp X.K o3) (tz (rP X.K) (kk X X9 W) a) (tz (rP X.K) (kk X X9 W) b) (tz (rP X.K) (kk X X9 W) c) (tz (rP X.K) (kk X X9 W) d) σ H Q := by
  obtain ⟨F, n, s, q⟩ := q
  refine ⟨F, n, s, Po.mono (Po.bd (ρ' := rP X.K) q) ?_⟩
  rintro v H1 ⟨F1, n1, p, s1, t1, pv, q⟩
  refine ⟨F1, n1, s1, Po.mono (Po.bd (ρ' := rP X.K) q) ?_⟩
  rintro w H2 ⟨F2, n2, p2, s2, t2, pw, q⟩
  split at q
  · rename_i x y ex ey
    split at q
    · rename_i e1
      refine cmp_sem s2.sub (rs_ok s2 (pv1_mono t2.f pv) ex) (rs_ok s2 pw ey) e1 ⟨true, rfl, ?_⟩
      rw [if_pos rfl]
      refine ⟨F2, n2, s2, Po.mono (Po.bd (ρ' := rP X.K) q) ?_⟩
      rintro u H3 ⟨F3, n3, p3, s3, t3, pu, q⟩
      split at q
      · rename_i y' z ey' ez
        split at q
        · rename_i e2
          refine cmp_sem s3.sub (rs_ok s3 (pv1_mono t3.f pw) ey') (rs_ok s3 pu ez) e2 ⟨true, rfl, ?_⟩
          rw [if_pos rfl]
          refine ⟨F3, n3, s3, Po.mono (Po.bd (ρ' := rP X.K) q) ?_⟩
          rintro t H4 ⟨F4, n4, p4, s4, t4, pt, q⟩
          split at q
          · rename_i z' k ez' ek
            obtain ⟨res, e, q9⟩ := Po.of q
            cases e3 : cmpD o3 z' k with
            | none => rw [e3] at e; cases e
            | some j =>
              rw [e3] at e; cases e
              exact cmp_sem s4.sub (rs_ok s4 (pv1_mono t4.f pu) ez') (rs_ok s4 pt ek) e3 ((q9.res s4).bl s4.sub)
          · exact q.elim
        · rename_i e2
          refine cmp_sem s3.sub (rs_ok s3 (pv1_mono t3.f pw) ey') (rs_ok s3 pu ez) e2 ⟨false, rfl, ?_⟩
          rw [if_neg Bool.false_ne_true]
          exact (Po.res s3 q).bl s3.sub
        · exact q.elim
      · exact q.elim
    · rename_i e1
      refine cmp_sem s2.sub (rs_ok s2 (pv1_mono t2.f pv) ex) (rs_ok s2 pw ey) e1 ⟨false, rfl, ?_⟩
      rw [if_neg Bool.false_ne_true]
      exact (Po.res s2 q).bl s2.sub
    · exact q.elim
  · exact q.elim
/-! ## list(range(..)) -/
theorem rg_dz {K : PySem.W.Frag} {F : Hp} {i j : Int} : DzAll K F (rgV i j) (rangeD i j) := by
  unfold rgV rangeD
  have h : ∀ l : List Nat, DzAll K F (l.map fun i_1 => V.int (i + ((i_1 : Nat) : Int))) (l.map fun i_1 => PyData.int (i + ((i_1 : Nat) : Int))) := fun l => by
    induction l with
    | nil => exact .nil
    | cons x r ih => exact .cons (.int _) ih
  exact h _
theorem z_lrg1 {a : E} {p : PySem.Expr} {wp pp pos pos2 : Pos} (B : Bd nx T C X9 lv X W) (g0 : glB X.env.scope "list" = true) (g : glB X.env.scope "range" = true) (ns : notStar p = true) (h : PE X p (tz (rP X.K) (kk X X9 W) (opd a (ev T C a).e))) :
    PE X (.Call (.Name "list" wp) [.Call (.Name "range" pp) [p] [] pos] [] pos2) (tz (rV X.K) (kk X X9 W) (zLrg1 (opd a (ev T C a).e))) := by
  refine PE.imp (pe_listRg B.calm (gl_ok g0).1 (B.bi _ (by decide +kernel)) (prg_1 (gl_ok g).1 (B.bi _ (by decide +kernel)) h (star_ok ns))) ?_
  rintro σ H Q ⟨F, n, s, q⟩
  refine ⟨F, n, s, Po.mono (Po.bd (ρ' := rP X.K) q) ?_⟩
  rintro v H1 ⟨F1, n1, p, s1, t1, pv, q⟩
  split at q
  · rename_i i ei
    refine ⟨i, rs_int s1 pv ei, ?_⟩
    by_cases hr : (rngOk i && decide (i.toNat ≤ 16777216)) = true
    · rw [if_pos hr] at q
      obtain ⟨h1, h2⟩ := ba hr
      obtain ⟨r1, r2⟩ := of_decide_eq_true h1
      have r3 := of_decide_eq_true h2
      refine ⟨⟨by omega, by omega, r1, r2, by rw [Int.sub_zero]; omega⟩, fun a ha => ?_⟩
      exact (Po.res s1 q).lst s1.sub rg_dz ha
    · rw [if_neg hr] at q; exact q.elim
  · exact q.elim
theorem z_lrg2 {a b : E} {p p2 : PySem.Expr} {wp pp pos pos2 : Pos} (B : Bd nx T C X9 lv X W) (g0 : glB X.env.scope "list" = true) (g : glB X.env.scope "range" = true) (ns : notStar p = true) (ns2 : notStar p2 = true) (h : PE X p (tz (rP X.K) (kk X X9 W) (opd a (ev T C a).e)))
    (h2 : PE X p2 (tz (rP X.K) (kk X X9 W) (opd b (ev T C b).e))) :
    PE X (.Call (.Name "list" wp) [.Call (.Name "range" pp) [p, p2] [] pos] [] pos2) (tz (rV X.K) (kk X X9 W) (zLrg2 (opd a (ev T C a).e) (opd b (ev T C b).e))) := by
  refine PE.imp (pe_listRg B.calm (gl_ok g0).1 (B.bi _ (by decide +kernel)) (prg_2 (gl_ok g).1 (B.bi _ (by decide +kernel)) h h2 (by rw [star_ok ns]) (star_ok ns2) (by rw [star_ok ns2]; rfl))) ?_
  rintro σ H Q ⟨F, n, s, q⟩
  refine ⟨F, n, s, Po.mono (Po.bd (ρ' := rP X.K) q) ?_⟩
  rintro v H1 ⟨F1, n1, p, s1, t1, pv, q⟩
  refine ⟨F1, n1, s1, Po.mono (Po.bd (ρ' := rP X.K) q) ?_⟩
  rintro w H2 ⟨F2, n2, p2, s2, t2, pw, q⟩
  split at q
  · rename_i i j ei ej
    refine ⟨i, j, rs_int s2 (pv1_mono t2.f pv) ei, rs_int s2 pw ej, ?_⟩
    by_cases hr : (rngOk i && (rngOk j && decide ((j - i).toNat ≤ 16777216))) = true
    · rw [if_pos hr] at q
      obtain ⟨h1, h2⟩ := ba hr
      obtain ⟨h3, h4⟩ := ba h2
      obtain ⟨r1, r2⟩ := of_decide_eq_true h1
      obtain ⟨r3, r4⟩ := of_decide_eq_true h3
      have r5 := of_decide_eq_true h4
      refine ⟨⟨r1, r2, r3, r4, by omega⟩, fun a ha => ?_⟩
      exact (Po.res s2 q).lst s2.sub rg_dz ha
    · rw [if_neg hr] at q; exact q.elim
  · exact q.elim
/-- a test by its value, a bool -/
theorem t_of_v {f : En → Ou R} (hb : ∀ n r n', f n = .ok r n' → ∃ b, r = dbl b) {σ : L2.St} {H : Hp} {Q : Bool → Hp → Prop} (q : tz rB (kk X X9 W) (fun n => (f n).bd fun r n1 => .of (truD r.d) n1) σ H Q) :
    tz (rV X.K) (kk X X9 W) f σ H fun v H' => ∃ b, v = .bl b ∧ Q b H' := by
  obtain ⟨F, n, s, q⟩ := q
  refine ⟨F, n, s, ?_⟩
  dsimp only at q
  cases z : f n with
  | st => rw [z] at q; exact q
  | ex c d n' => rw [z] at q; exact q
  | ok r n' =>
    rw [z] at q
    obtain ⟨b, rfl⟩ := hb n r n' z
    intro v F' H' s' t' x
    have x : Dz X.K F' v (.bool b) := x
    cases x
    exact ⟨b, rfl, q b F' H' s' t' rfl⟩
theorem tru_D {K : PySem.W.Frag} {F H : Hp} {v : V} {d : D} {b : Bool} (sm : Same F H) (h : Dq K F H v d) (e : truD d = some b) : TruV K v H b := by
  cases d with
  | none => rw [h.none]; cases e; rfl
  | bool k => rw [h.bool]; cases e; rfl
  | int i => rw [h.int]; cases e; rfl
  | str x => rw [h.str]; obtain ⟨h1, h2⟩ := ite_some e; exact ⟨fitL_ok h1, h2.symm⟩
  | list ds =>
    obtain ⟨a, xs, rfl, ha, dxs⟩ := h.lst sm
    cases e
    refine .inl ⟨xs, .inl ha, ?_⟩
    have := dpAll_len dxs
    cases xs <;> cases ds <;> first | rfl | (simp at this)
  | tuple ds =>
    obtain ⟨a, xs, rfl, ha, dxs⟩ := h.tup
    cases e
    refine .inr (.inl ⟨xs, sqT_mono sm ha, ?_⟩)
    have := dpAll_len dxs
    cases xs <;> cases ds <;> first | rfl | (simp at this)
  | dict _ => cases e
/-- a test by its value's truth -/
theorem z_truth {f : En → Ou R} {x : PySem.Expr} (h : PE X x (tz (rV X.K) (kk X X9 W) f)) (pl : plainT x = true) : PT X x (tz rB (kk X X9 W) fun n => (f n).bd fun r n1 => .of (truD r.d) n1) := by
  refine PT.imp (pt_truth h (isTrue_ok pl)) ?_
  rintro σ H Q ⟨F, n, s, q⟩
  refine ⟨F, n, s, ?_⟩
  dsimp only at q
  cases z : f n with
  | st => rw [z] at q; exact q
  | ex c d n' => rw [z] at q; exact q
  | ok r n' =>
    rw [z] at q
    have q : Po rB (kk X X9 W) (Ou.of (truD r.d) n') σ F H n Q := q
    obtain ⟨b, e, q9⟩ := Po.of q
    intro v F' H' s' t' x
    refine ⟨b, ?_, q9 b F' H' s' t' rfl⟩
    cases r with
    | fr d => exact tru_D s'.sub (.inl x) e
    | nw d => obtain ⟨a, rfl, m, _⟩ := x; exact tru_D s'.sub (.inr ⟨a, rfl, m⟩) e
/-- what a value gives to a walk -/
theorem z_walk {f : En → Ou R} {x tg : PySem.Expr} (h : PE X x (tz (rV X.K) (kk X X9 W) f)) : PI X tg x (tz (rI X.K) (kk X X9 W) fun n => (f n).bd fun r n1 => .of (seqD r.d) n1) := by
  refine PI.imp (pi_seqZ h) ?_
  rintro σ H Q ⟨F, n, s, q⟩
  refine ⟨F, n, s, ?_⟩
  dsimp only at q
  cases z : f n with
  | st => rw [z] at q; exact q
  | ex c d n' => rw [z] at q; exact q
  | ok r n' =>
    rw [z] at q
    have q : Po (rI X.K) (kk X X9 W) (Ou.of (seqD r.d) n') σ F H n Q := q
    obtain ⟨xs, e, q9⟩ := Po.of q
    intro v F' H' s' t' x
    have fin : ∀ F2, SO X.K F2 H' σ n' → Step σ F H n F2 H' n' → Dz X.K F2 v r.d → ∃ a, v = .ref a ∧ (((∃ xs, SqL X.K H' a xs) ∧ Q (Itl X.K a) H') ∨ ((∃ xs, SqT X.K H' a xs) ∧ Q (Itt X.K a) H')) := by
      intro F2 s2 t2 dv
      cases hd : r.d with
      | list ds =>
        rw [hd] at e dv; cases e
        cases dv with
        | lst a b => exact ⟨_, rfl, .inl ⟨⟨_, .inl (rd_mono s2.sub a)⟩, q9 _ F2 H' s2 t2 (it_list a b)⟩⟩
      | tuple ds =>
        rw [hd] at e dv; cases e
        cases dv with
        | tup a b => exact ⟨_, rfl, .inr ⟨⟨_, sqT_mono s2.sub a⟩, q9 _ F2 H' s2 t2 (it_tup a b)⟩⟩
      | none => rw [hd] at e; cases e
      | bool _ => rw [hd] at e; cases e
      | int _ => rw [hd] at e; cases e
      | str _ => rw [hd] at e; cases e
      | dict _ => rw [hd] at e; cases e
    cases r with
    | fr d => exact fin F' s' t' x
    | nw d =>
      obtain ⟨a, rfl, m, hn⟩ := x
      obtain ⟨F2, s2, t2, d2, _⟩ := frz_so s s' t' m hn
      exact fin F2 s2 t2 d2
theorem z_and {a b : En → Ou R} {x y : PySem.Expr} {rest : List PySem.Expr} {pos : Pos} (ha : PE X x (tz (rV X.K) (kk X X9 W) a)) (hb : PE X (.BoolOp .And (y :: rest) pos) (tz (rV X.K) (kk X X9 W) b)) :
    PE X (.BoolOp .And (x :: y :: rest) pos) (tz (rV X.K) (kk X X9 W) (zAnd a b)) := by
  refine PE.imp (pe_and ha hb) ?_
  rintro σ H Q ⟨F, n, s, q⟩
  refine ⟨F, n, s, Po.mono (Po.bd (ρ' := rV X.K) q) ?_⟩
  rintro v H1 ⟨F1, n1, r, s1, t1, dv, q⟩
  split at q
  · have dv : Dz X.K F1 v (.bool true) := dv
    cases dv
    exact ⟨true, rfl, by rw [if_pos rfl]; exact ⟨F1, n1, s1, q⟩⟩
  · have dv : Dz X.K F1 v (.bool false) := dv
    cases dv
    exact ⟨false, rfl, by rw [if_neg Bool.false_ne_true]; exact (Po.res s1 q).bl s1.sub⟩
  · exact q.elim
theorem z_or {a b : En → Ou R} {x y : PySem.Expr} {rest : List PySem.Expr} {pos : Pos} (ha : PE X x (tz (rV X.K) (kk X X9 W) a)) (hb : PE X (.BoolOp .Or (y :: rest) pos) (tz (rV X.K) (kk X X9 W) b)) :
    PE X (.BoolOp .Or (x :: y :: rest) pos) (tz (rV X.K) (kk X X9 W) (zOr a b)) := by
  refine PE.imp (pe_or ha hb) ?_
  rintro σ H Q ⟨F, n, s, q⟩
  refine ⟨F, n, s, Po.mono (Po.bd (ρ' := rV X.K) q) ?_⟩
  rintro v H1 ⟨F1, n1, r, s1, t1, dv, q⟩
  split at q
  · have dv : Dz X.K F1 v (.bool false) := dv
    cases dv
    exact ⟨false, rfl, by rw [if_neg Bool.false_ne_true]; exact ⟨F1, n1, s1, q⟩⟩
  · have dv : Dz X.K F1 v (.bool true) := dv
    cases dv
    exact ⟨true, rfl, by rw [if_pos rfl]; exact (Po.res s1 q).bl s1.sub⟩
  · exact q.elim
theorem z_not {a : En → Ou R} {x : PySem.Expr} {pos : Pos} (ha : PE X x (tz (rV X.K) (kk X X9 W) a)) : PE X (.UnaryOp .Not x pos) (tz (rV X.K) (kk X X9 W) (zNot a)) := by
  refine PE.imp (pe_not ha) ?_
  rintro σ H Q ⟨F, n, s, q⟩
  refine ⟨F, n, s, Po.mono (Po.bd (ρ' := rV X.K) q) ?_⟩
  rintro v H1 ⟨F1, n1, r, s1, t1, dv, q⟩
  split at q
  · rename_i b
    have dv : Dz X.K F1 v (.bool b) := dv
    cases dv
    exact ⟨b, rfl, (Po.res s1 q).bl s1.sub⟩
  · exact q.elim
theorem t_and {a b : En → Ou Bool} {σ : L2.St} {H : Hp} {Q : Bool → Hp → Prop} (q : tz rB (kk X X9 W) (fun n => (a n).bd fun k n1 => if k then b n1 else .ok false n1) σ H Q) : tAnd (tz rB (kk X X9 W) a) (tz rB (kk X X9 W) b) σ H Q := by
  obtain ⟨F, n, s, q⟩ := q
  refine ⟨F, n, s, Po.mono (Po.bd (ρ' := rB) q) ?_⟩
  rintro v H1 ⟨F1, n1, r, s1, t1, rfl, q⟩
  cases v with
  | true => rw [if_pos rfl]; rw [if_pos rfl] at q; exact ⟨F1, n1, s1, q⟩
  | false => rw [if_neg Bool.false_ne_true]; rw [if_neg Bool.false_ne_true] at q; exact q false F1 H1 s1 Step.refl rfl
theorem t_or {a b : En → Ou Bool} {σ : L2.St} {H : Hp} {Q : Bool → Hp → Prop} (q : tz rB (kk X X9 W) (fun n => (a n).bd fun k n1 => if k then .ok true n1 else b n1) σ H Q) : tOr (tz rB (kk X X9 W) a) (tz rB (kk X X9 W) b) σ H Q := by
  obtain ⟨F, n, s, q⟩ := q
  refine ⟨F, n, s, Po.mono (Po.bd (ρ' := rB) q) ?_⟩
  rintro v H1 ⟨F1, n1, r, s1, t1, rfl, q⟩
  cases v with
  | true => rw [if_pos rfl]; rw [if_pos rfl] at q; exact q true F1 H1 s1 Step.refl rfl
  | false => rw [if_neg Bool.false_ne_true]; rw [if_neg Bool.false_ne_true] at q; exact ⟨F1, n1, s1, q⟩
theorem t_not {a : En → Ou Bool} {σ : L2.St} {H : Hp} {Q : Bool → Hp → Prop} (q : tz rB (kk X X9 W) (fun n => (a n).bd fun k n1 => .ok (!k) n1) σ H Q) : tNot (tz rB (kk X X9 W) a) σ H Q := by
  obtain ⟨F, n, s, q⟩ := q
  refine ⟨F, n, s, Po.mono (Po.bd (ρ' := rB) q) ?_⟩
  rintro v H1 ⟨F1, n1, r, s1, t1, rfl, q⟩
  exact q _ F1 H1 s1 Step.refl rfl
theorem t_ife {t : En → Ou Bool} {a b : En → Ou R} {σ : L2.St} {H : Hp} {Q : V → Hp → Prop} (q : tz (rV X.K) (kk X X9 W) (fun n => (t n).bd fun k n1 => if k then a n1 else b n1) σ H Q) :
    tIf (tz rB (kk X X9 W) t) (tz (rV X.K) (kk X X9 W) a) (tz (rV X.K) (kk X X9 W) b) σ H Q := by
  obtain ⟨F, n, s, q⟩ := q
  refine ⟨F, n, s, Po.mono (Po.bd (ρ' := rB) q) ?_⟩
  rintro v H1 ⟨F1, n1, r, s1, t1, rfl, q⟩
  cases v with
  | true => rw [if_pos rfl]; rw [if_pos rfl] at q; exact ⟨F1, n1, s1, q⟩
  | false => rw [if_neg Bool.false_ne_true]; rw [if_neg Bool.false_ne_true] at q; exact ⟨F1, n1, s1, q⟩
theorem pw_of_pt {op : BoolOp} {vs : List PySem.Expr} {pos : Pos} {t : TT} (h : PT X (.BoolOp op vs pos) t) : PW X (.BoolOp op vs pos) t := ⟨fun wh pins s σ H Q I q => h.run pins s σ H Q I q⟩
/-- a call of a def -/
theorem z_call {f : Nat} {as : E} {args : List PySem.Expr} {x : Str} {p pos : Pos} (B : Bd nx T C X9 lv X W) (hx : nx.fn[f]? = some x) (g : glB X.env.scope x = true) (J : AllJ T C (kk X X9 W) X as args) :
    PE X (.Call (.Name x p) args [] pos) (tz (rV X.K) (kk X X9 W) (zCall (T f) (ev T C as).l)) := by
  cases hT : T f with
  | none =>
    refine ⟨fun pins s σ H Q I q => ?_⟩
    obtain ⟨F, n, s0, q⟩ := q
    exact q.elim
  | some mf =>
    obtain ⟨m, fm⟩ := mf
    obtain ⟨y, a, fd, ps, hps, e1, e2, e3, e4, e5⟩ := B.fn f m fm hT
    rw [hx] at e1; cases e1
    have main : ∀ σ H (Q : VK), tz (rV X.K) (kk X X9 W) (zCall (some (m, fm)) (ev T C as).l) σ H Q → tCallS (spOf X.K X9 m fm) (fun σ c d H => W c d σ H) (tz (rL X.K) (kk X X9 W) (ev T C as).l) σ H Q := by
      rintro σ H Q ⟨F, n, s, q⟩
      refine ⟨F, n, s, Po.mono (Po.bd (ρ' := rL X.K) q) ?_⟩
      rintro vs H1 ⟨F1, n1, qs, s1, t1, pv, q⟩
      by_cases hl : qs.length = m
      · rw [if_pos hl] at q
        split at q
        · rename_i ss es2
          by_cases nd : (ioIx qs).Nodup
          · rw [if_pos nd] at q
            exact call_po (k := kk X X9 W) (by rw [psOk_len pv]; exact hl) s1 pv es2 nd q
          · rw [if_neg nd] at q; exact q.elim
        · exact q.elim
      · rw [if_neg hl] at q; exact q.elim
    obtain ⟨g1, g2⟩ := gl_ok g
    cases args with
    | nil =>
      refine PE.imp (pe_callG0 e5 B.gd B.room g1 e2 e3 e4 B.tk g2) fun σ H Q q => ?_
      obtain ⟨F, n, s, q9⟩ := main σ H Q q
      rw [allJ_nil J] at q9
      exact q9 [] F H s Step.refl .nil
    | cons e es =>
      have st := allJ_star J
      obtain ⟨s1, s2⟩ := Bool.and_eq_true_iff.mp (show (notStar e && es.all notStar) = true from st)
      exact PE.imp (pe_callG e5 B.gd B.room g1 e2 e3 e4 B.tk (pa_all rfl J) g2 (star_ok s1) (pl_ok s2)) main
end
end Z

set_option Elab.async false
set_option linter.all false
set_option maxRecDepth 100000
set_option maxHeartbeats 8000000
namespace Z
open PySem PySem.Spec PyProof.Rows L2

/-! ## targets -/
section
variable {nx : Nx} {X : Cx} {loc : Str → Bool}
theorem pgs_tg (eN : X.N = nx.N) (nd : X.N.Nodup) (hl : ∀ y, loc y = true → Loc X.env.scope y ∧ (X.fn y = true ∨ X.env.scope.names.lookup y = some .local)) : ∀ {is : List Nat} {es : List PySem.Expr}, tgNamesB nx loc is es = true →
    PGs X es (gsOf is) ∧ (assignEach es X.env).length = is.length ∧ (assignEach es X.env).findIdx? (·.1) = none
  | [], [], _ => ⟨pgs_nil, rfl, rfl⟩
  | [], e :: es, h => by cases h
  | i :: is, [], h => by cases h
  | i :: is, e :: es, h => by
    cases e <;> try (cases h; done)
    rename_i x pos
    obtain ⟨h1, h2⟩ := ba (show (decide (nx.N[i]? = some x) && (loc x && tgNamesB nx loc is es)) = true from h)
    obtain ⟨h2, h3⟩ := ba h2
    obtain ⟨a, b, c⟩ := pgs_tg eN nd hl h3
    obtain ⟨l1, l2⟩ := hl x h2
    refine ⟨pgs_cons (pg_name nd (by rw [eN]; exact of_decide_eq_true h1) l1 l2) a rfl, ?_, ?_⟩
    · show (assignEach es X.env).length + 1 = is.length + 1
      rw [b]
    · show List.findIdx? _ ((false, _) :: assignEach es X.env) = none
      rw [List.findIdx?_cons]
      simp [c]
theorem pg_tg {tg : Tg} {e : PySem.Expr} (hc : X.calm = true) (eN : X.N = nx.N) (nd : X.N.Nodup) (hl : ∀ y, loc y = true → Loc X.env.scope y ∧ (X.fn y = true ∨ X.env.scope.names.lookup y = some .local)) (h : tgB nx loc tg e = true) : PG X e (gTg X.K tg) := by
  cases tg with
  | nm i =>
    cases e <;> try (cases h; done)
    rename_i x pos
    obtain ⟨h1, h2⟩ := ba (show (decide (nx.N[i]? = some x) && loc x) = true from h)
    obtain ⟨l1, l2⟩ := hl x h2
    exact pg_name nd (by rw [eN]; exact of_decide_eq_true h1) l1 l2
  | tp is =>
    cases e <;> try (cases h; done)
    obtain ⟨a, b, c⟩ := pgs_tg eN nd hl (show tgNamesB nx loc is _ = true from h)
    exact pg_tup hc a b c
end

section
variable {nx : Nx} {T : Tb} {C : Nat → Option D} {X9 : Nat → Addr × Str} {lv : Nat} {X : Cx} {W : WX}
/-! ## tests that give bools -/
theorem of_ok {α : Type} {o : Option α} {n n' : En} {a : α} (h : Ou.of o n = .ok a n') : o = some a := by
  cases o with
  | none => cases h
  | some b => cases h; rfl
theorem cmp_bool {c : COp} {l : En → Ou (List P)} {n n' : En} {r : R} (h : zOp (.cmp c) l n = .ok r n') : ∃ b, r = dbl b := by
  obtain ⟨ps, n1, e1, h⟩ := bd_ok h
  split at h
  · rename_i ds es
    have h := of_ok h
    rcases ds with _ | ⟨x, _ | ⟨y, _ | ⟨z, ds⟩⟩⟩
    · cases h
    · cases h
    · have h : (cmpD c x y).map dbl = some r := h
      cases z : cmpD c x y with
      | none => rw [z] at h; cases h
      | some b => rw [z] at h; cases h; exact ⟨b, rfl⟩
    · cases h
  · cases h
theorem map_dbl {o : Option Bool} {r : R} (h : o.map dbl = some r) : ∃ b, r = dbl b := by
  cases o with
  | none => cases h
  | some b => cases h; exact ⟨b, rfl⟩
theorem chn_bool {o1 o2 : COp} {a b c : En → Ou P} {n n' : En} {r : R} (h : zChn o1 o2 a b c n = .ok r n') : ∃ b, r = dbl b := by
  obtain ⟨p, n1, e1, h⟩ := bd_ok h
  obtain ⟨q, n2, e2, h⟩ := bd_ok h
  split at h
  · split at h
    · obtain ⟨s, n3, e3, h⟩ := bd_ok h
      split at h
      · exact map_dbl (of_ok h)
      · cases h
    · cases h; exact ⟨false, rfl⟩
    · cases h
  · cases h
theorem chn3_bool {o1 o2 o3 : COp} {a b c d : En → Ou P} {n n' : En} {r : R} (h : zChn3 o1 o2 o3 a b c d n = .ok r n') : ∃ b, r = dbl b := by
  obtain ⟨p, n1, e1, h⟩ := bd_ok h
  obtain ⟨q, n2, e2, h⟩ := bd_ok h
  split at h
  · split at h
    · obtain ⟨s, n3, e3, h⟩ := bd_ok h
      split at h
      · split at h
        · obtain ⟨t, n4, e4, h⟩ := bd_ok h
          split at h
          · exact map_dbl (of_ok h)
          · cases h
        · cases h; exact ⟨false, rfl⟩
        · cases h
      · cases h
    · cases h; exact ⟨false, rfl⟩
    · cases h
  · cases h
theorem noSet_last {o1 o2 : COp} {y z : PySem.Expr} (h : noSet z = true) : lastMarks [o1.py, o2.py] [y, z] = false := mark_ok h

/-! ## ranges -/
theorem z_rng1 {a : E} {p : PySem.Expr} {pp pos : Pos} {tg : PySem.Expr} (B : Bd nx T C X9 lv X W) (g : glB X.env.scope "range" = true) (ns : notStar p = true) (h : PE X p (tz (rP X.K) (kk X X9 W) (opd a (ev T C a).e))) :
    PI X tg (.Call (.Name "range" pp) [p] [] pos) (tz (rI X.K) (kk X X9 W) (zRng1 (opd a (ev T C a).e))) := by
  refine PI.imp (pi_range1 (gl_ok g).1 (B.bi _ (by decide +kernel)) (pa_cons h pa_nil (star_ok ns)) (star_ok ns)) ?_
  rintro σ H Q ⟨F, n, s, q⟩
  refine ⟨F, n, s, Po.mono (Po.bd (ρ' := rP X.K) q) ?_⟩
  rintro v H1 ⟨F1, n1, p, s1, t1, pv, q⟩
  split at q
  · rename_i i ei
    have hv := rs_int s1 pv ei
    subst hv
    by_cases hr : rngOk i = true
    · rw [if_pos hr] at q
      obtain ⟨r1, r2⟩ := of_decide_eq_true hr
      refine ⟨i, rfl, r1, r2, q _ F1 H1 s1 Step.refl ?_⟩
      have := it_range (K := X.K) (F := F1) (lo := 0) (n := i.toNat)
      show ItOk X.K F1 (Itr 0 i.toNat) (rangeD 0 i)
      unfold rangeD
      rw [Int.sub_zero]
      exact this
    · rw [if_neg hr] at q; exact q.elim
  · exact q.elim
theorem z_rng2 {a b : E} {p p2 : PySem.Expr} {pp pos : Pos} {tg : PySem.Expr} (B : Bd nx T C X9 lv X W) (g : glB X.env.scope "range" = true) (ns : notStar p = true) (ns2 : notStar p2 = true) (h : PE X p (tz (rP X.K) (kk X X9 W) (opd a (ev T C a).e)))
    (h2 : PE X p2 (tz (rP X.K) (kk X X9 W) (opd b (ev T C b).e))) :
    PI X tg (.Call (.Name "range" pp) [p, p2] [] pos) (tz (rI X.K) (kk X X9 W) (zRng2 (opd a (ev T C a).e) (opd b (ev T C b).e))) := by
  refine PI.imp (pi_range2 (gl_ok g).1 (B.bi _ (by decide +kernel)) (pa_cons h (pa_cons h2 pa_nil (star_ok ns2)) (star_ok ns)) (by rw [star_ok ns, star_ok ns2]; rfl) (star_ok ns2)) ?_
  rintro σ H Q ⟨F, n, s, q⟩
  refine ⟨F, n, s, Po.mono (Po.bd (ρ' := rP X.K) q) ?_⟩
  rintro v H1 ⟨F1, n1, p, s1, t1, pv, q⟩
  refine ⟨F1, n1, s1, Po.mono (Po.bd (ρ' := rP X.K) q) ?_⟩
  rintro w H2 ⟨F2, n2, p2, s2, t2, pw, q⟩
  split at q
  · rename_i i j ei ej
    have hv := rs_int s2 (pv1_mono t2.f pv) ei
    have hw := rs_int s2 pw ej
    subst hv hw
    by_cases hr : (rngOk i && rngOk j) = true
    · rw [if_pos hr] at q
      obtain ⟨h1, h2⟩ := ba hr
      obtain ⟨r1, r2⟩ := of_decide_eq_true h1
      obtain ⟨r3, r4⟩ := of_decide_eq_true h2
      exact ⟨i, j, rfl, ⟨r1, r2, r3, r4⟩, q _ F2 H2 s2 Step.refl it_range⟩
    · rw [if_neg hr] at q; exact q.elim
  · exact q.elim

/-! ## walks that make a tuple each turn -/
theorem enumD_get : ∀ (xs : List D) (k i : Nat), (enumD k xs)[i]? = (xs[i]?).map fun x => .tuple [.int ((k + i : Nat) : Int), x]
  | [], k, i => by simp [enumD]
  | x :: r, k, 0 => by simp [enumD]
  | x :: r, k, i + 1 => by
    rw [enumD, List.getElem?_cons_succ, List.getElem?_cons_succ, enumD_get r (k + 1) i, show k + 1 + i = k + (i + 1) by omega]
theorem enumD_len : ∀ (xs : List D) (k : Nat), (enumD k xs).length = xs.length
  | [], _ => rfl
  | x :: r, k => by rw [enumD, List.length_cons, List.length_cons, enumD_len r (k + 1)]
theorem zipD_get : ∀ (xs ys : List D) (i : Nat) (x y : D), xs[i]? = some x → ys[i]? = some y → (zipD xs ys)[i]? = some (.tuple [x, y])
  | [], ys, i, x, y, h, _ => by simp at h
  | a :: xs, [], i, x, y, _, h => by simp at h
  | a :: xs, b :: ys, 0, x, y, h1, h2 => by simp at h1 h2; subst h1 h2; rfl
  | a :: xs, b :: ys, i + 1, x, y, h1, h2 => by
    rw [zipD, List.getElem?_cons_succ]
    exact zipD_get xs ys i x y (by simpa using h1) (by simpa using h2)
theorem zipD_len : ∀ (xs ys : List D), (zipD xs ys).length = min xs.length ys.length
  | [], ys => by simp [zipD]
  | a :: xs, [] => by simp [zipD]
  | a :: xs, b :: ys => by rw [zipD, List.length_cons, zipD_len xs ys, List.length_cons, List.length_cons]; omega
theorem pair_ext {K : PySem.W.Frag} {F H : Hp} {T : Addr} {x y : V} {d e : D} (sub : Same F H) (hT : H T = none) (dx : Dz K F x d) (dy : Dz K F y e) : ∃ F', Ext F H F' (upd H T (.tup [x, y])) ∧ Dz K F' (.ref T) (.tuple [d, e]) := by
  have fp : F T = none := sub.free hT
  refine ⟨upd F T (.tup [x, y]), ⟨same_upd fp, same_upd hT, fun a o q => ?_, fun a o q => ?_⟩, .tup (SqT.of upd_same) (.cons (dp_mono (same_upd fp) dx) (.cons (dp_mono (same_upd fp) dy) .nil))⟩
  · rcases upd_cases q with ⟨rfl, _⟩ | ⟨_, z⟩
    · exact .inr hT
    · exact .inl z
  · rcases upd_cases q with ⟨rfl, rfl⟩ | ⟨z, z2⟩
    · exact upd_same
    · rw [upd_ne z]; exact sub _ _ z2
theorem it_enum {K : PySem.W.Frag} {F : Hp} {a : Addr} {xs : List V} {ds : List D} (h : Rd F a (.lst xs)) (hd : DzAll K F xs ds) : ItOk K F (Ite K a) (enumD 0 ds) where
  go := fun i H F' s1 s2 hi => (walk_enum (xs := xs)).goes i H (by rw [enumD_len] at hi; rw [dpAll_len hd]; exact hi) (.inl (rd_mono s2 (rd_mono s1 h)))
  stop := fun H F' s1 s2 => by rw [enumD_len, ← dpAll_len hd]; exact (walk_enum (xs := xs)).stops H (.inl (rd_mono s2 (rd_mono s1 h)))
  yld := fun i H F' x H' s1 s2 hi y => by
    rw [enumD_len] at hi
    obtain ⟨T, p, q, rfl, hT, rfl, e1, e2⟩ := (walk_enum (xs := xs)).yields i H x H' (by rw [dpAll_len hd]; exact hi) (.inl (rd_mono s2 (rd_mono s1 h))) y
    cases e1
    have ed : ds[i]? = some ds[i] := by simp [hi]
    obtain ⟨v, ev, dv⟩ := dpAll_get hd ed
    have e2 : xs[i]? = some q := e2
    rw [ev] at e2; cases e2
    obtain ⟨F2, ex, dz⟩ := pair_ext (d := .int (i : Nat)) (e := ds[i]) s2 hT (.int _) (dp_mono s1 dv)
    refine ⟨F2, _, ex, ?_, dz⟩
    rw [enumD_get, ed]
    simp
theorem it_zipL {K : PySem.W.Frag} {F : Hp} {a b : Addr} {xs ys : List V} {ds es : List D} (h : Rd F a (.lst xs)) (hd : DzAll K F xs ds) (g : Rd F b (.lst ys)) (he : DzAll K F ys es) : ItOk K F (Itz K a b) (zipD ds es) := by
  have l1 := dpAll_len hd
  have l2 := dpAll_len he
  have w := walk_zip (K := K) (a := a) (b := b) (xs := xs) (ys := ys) rfl
  have G : ∀ H F', Same F F' → Same F' H → SqL K H a xs ∧ SqL K H b ys := fun H F' s1 s2 => ⟨.inl (rd_mono s2 (rd_mono s1 h)), .inl (rd_mono s2 (rd_mono s1 g))⟩
  refine ⟨fun i H F' s1 s2 hi => w.goes i H (by rw [zipD_len] at hi; omega) (G H F' s1 s2), fun H F' s1 s2 => by rw [zipD_len, ← l1, ← l2]; exact w.stops H (G H F' s1 s2), fun i H F' x H' s1 s2 hi y => ?_⟩
  rw [zipD_len] at hi
  obtain ⟨T, p, q, rfl, hT, rfl, e1, e2⟩ := w.yields i H x H' (by omega) (G H F' s1 s2) y
  have i1 : i < ds.length := by omega
  have i2 : i < es.length := by omega
  obtain ⟨v, ev, dv⟩ := dpAll_get hd (show ds[i]? = some ds[i] by simp [i1])
  obtain ⟨u, eu, du⟩ := dpAll_get he (show es[i]? = some es[i] by simp [i2])
  have e1 : xs[i]? = some p := e1
  have e2 : ys[i]? = some q := e2
  rw [ev] at e1; cases e1
  rw [eu] at e2; cases e2
  obtain ⟨F2, ex, dz⟩ := pair_ext (d := ds[i]) (e := es[i]) s2 hT (dp_mono s1 dv) (dp_mono s1 du)
  exact ⟨F2, _, ex, zipD_get _ _ _ _ _ (by simp [i1]) (by simp [i2]), dz⟩
theorem it_zipT {K : PySem.W.Frag} {F : Hp} {a b : Addr} {xs ys : List V} {ds es : List D} (h : SqT K F a xs) (hd : DzAll K F xs ds) (g : SqT K F b ys) (he : DzAll K F ys es) : ItOk K F (RZ.ItzT K a b) (zipD ds es) := by
  have l1 := dpAll_len hd
  have l2 := dpAll_len he
  have G : ∀ H F', Same F F' → Same F' H → SqT K H a xs ∧ SqT K H b ys := fun H F' s1 s2 => ⟨sqT_mono s2 (sqT_mono s1 h), sqT_mono s2 (sqT_mono s1 g)⟩
  refine ⟨fun i H F' s1 s2 hi => ?_, fun H F' s1 s2 => ?_, fun i H F' x H' s1 s2 hi y => ?_⟩
  · rw [zipD_len] at hi
    have i1 : i < xs.length := by omega
    have i2 : i < ys.length := by omega
    exact ⟨xs, ys, xs[i], ys[i], (G H F' s1 s2).1, (G H F' s1 s2).2, by simp [i1], by simp [i2]⟩
  · exact ⟨xs, ys, (G H F' s1 s2).1, (G H F' s1 s2).2, by rw [zipD_len]; omega⟩
  · rw [zipD_len] at hi
    obtain ⟨T, p, q, rfl, hT, rfl, e1, e2⟩ := y
    have i1 : i < ds.length := by omega
    have i2 : i < es.length := by omega
    obtain ⟨v, ev, dv⟩ := dpAll_get hd (show ds[i]? = some ds[i] by simp [i1])
    obtain ⟨u, eu, du⟩ := dpAll_get he (show es[i]? = some es[i] by simp [i2])
    have e1 := e1 xs (G H F' s1 s2).1
    have e2 := e2 ys (G H F' s1 s2).2
    rw [ev] at e1; cases e1
    rw [eu] at e2; cases e2
    obtain ⟨F2, ex, dz⟩ := pair_ext (d := ds[i]) (e := es[i]) s2 hT (dp_mono s1 dv) (dp_mono s1 du)
    exact ⟨F2, _, ex, zipD_get _ _ _ _ _ (by simp [i1]) (by simp [i2]), dz⟩
/-- a value made frozen -/
theorem rv_frz {K : PySem.W.Frag} {σ : L2.St} {F0 H0 F H : Hp} {n0 n : En} {v : V} {r : R} (s0 : SO K F0 H0 σ n0) (s : SO K F H σ n) (t : Step σ F0 H0 n0 F H n) (x : rvOk K H0 F H v r) : ∃ F2, SO K F2 H σ n ∧ Step σ F0 H0 n0 F2 H n ∧ Dz K F2 v r.d ∧ Same F F2 := by
  cases r with
  | fr d => exact ⟨F, s, t, x, .refl _⟩
  | nw d =>
    obtain ⟨a, rfl, m, z⟩ := x
    exact frz_so (k := ⟨K, fun _ => (0, ⟨#[]⟩), fun _ _ _ _ => False⟩) s0 s t m z
theorem Po.bd0 {α β γ δ : Type} {ρ : Rho α β} {ρ' : Rho γ δ} {k : Ck} {σ : L2.St} {F H : Hp} {n : En} {m : Ou γ} {f : γ → En → Ou α} {Q : β → Hp → Prop} (h : Po ρ k (m.bd f) σ F H n Q) :
    Po ρ' k m σ F H n fun b H1 => ∃ F1 n1 a, SO k.K F1 H1 σ n1 ∧ Step σ F H n F1 H1 n1 ∧ ρ'.r H F1 H1 σ n1 b a ∧ Po ρ k (f a n1) σ F H n Q := by
  cases m with
  | ok a n1 => exact fun b F1 H1 s t r => ⟨F1, n1, a, s, t, r, h⟩
  | ex c d n' => exact h
  | st => exact h
theorem z_enm {f : En → Ou R} {p tg : PySem.Expr} {a : E} {pp pos : Pos} (B : Bd nx T C X9 lv X W) (g : glB X.env.scope "enumerate" = true) (ns : notStar p = true) (h : PE X p (tz (rV X.K) (kk X X9 W) f)) (hz : ezB (.enm a) tg = true) :
    PI X tg (.Call (.Name "enumerate" pp) [p] [] pos) (tz (rI X.K) (kk X X9 W) (zEnm f)) := by
  cases tg <;> try (cases hz; done)
  refine PI.imp (pi_enum (gl_ok g).1 (B.bi _ (by decide +kernel)) (pa_cons h pa_nil (star_ok ns)) (by rw [star_ok ns]; rfl)) ?_
  rintro σ H Q ⟨F, n, s, q⟩
  refine ⟨F, n, s, Po.mono (Po.bd0 (ρ' := rV X.K) q) ?_⟩
  rintro v H1 ⟨F1, n1, r, s1, t1, rv, q⟩
  obtain ⟨F2, s2, t2, dv, sm⟩ := rv_frz s s1 t1 rv
  have q := Po.shift q t2
  split at q
  · rename_i xs er
    rw [er] at dv
    cases dv with
    | lst h1 h2 => exact ⟨_, _, rfl, .inl (rd_mono s2.sub h1), q _ F2 H1 s2 Step.refl (it_enum h1 h2)⟩
  · exact q.elim
theorem z_zip {f f2 : En → Ou R} {p p2 tg : PySem.Expr} {a b : E} {pp pos : Pos} (B : Bd nx T C X9 lv X W) (g : glB X.env.scope "zip" = true) (ns : notStar p = true) (ns2 : notStar p2 = true) (h : PE X p (tz (rV X.K) (kk X X9 W) f)) (h2 : PE X p2 (tz (rV X.K) (kk X X9 W) f2)) (hz : ezB (.zip a b) tg = true) :
    PI X tg (.Call (.Name "zip" pp) [p, p2] [] pos) (tz (rI X.K) (kk X X9 W) (zZip f f2)) := by
  cases tg <;> try (cases hz; done)
  refine PI.imp (RZ.pi_zipA (gl_ok g).1 (B.bi _ (by decide +kernel)) (pa_cons h (pa_cons h2 pa_nil (star_ok ns2)) (star_ok ns)) (star_ok ns) (by rw [star_ok ns2]; rfl)) ?_
  rintro σ H Q ⟨F, n, s, q⟩
  refine ⟨F, n, s, Po.mono (Po.bd0 (ρ' := rV X.K) q) ?_⟩
  rintro v H1 ⟨F1, n1, r, s1, t1, rv, q⟩
  obtain ⟨F2, s2, t2, dv, sm⟩ := rv_frz s s1 t1 rv
  refine ⟨F2, n1, s2, Po.mono (Po.bd0 (ρ' := rV X.K) (Po.shift q t2)) ?_⟩
  rintro w H3 ⟨F3, n3, r3, s3, t3, rv3, q⟩
  obtain ⟨F4, s4, t4, dw, sm4⟩ := rv_frz s2 s3 t3 rv3
  have q := Po.shift q t4
  have dv := dp_mono t4.f dv
  split at q
  · rename_i xs ys er er3
    rw [er] at dv
    rw [er3] at dw
    cases dv with
    | lst h1 h2 => cases dw with
      | lst h3 h4 => exact ⟨_, _, _, _, rfl, .inl ⟨.inl (rd_mono s4.sub h1), .inl (rd_mono s4.sub h3), q _ F4 H3 s4 Step.refl (it_zipL h1 h2 h3 h4)⟩⟩
  · rename_i xs ys er er3
    rw [er] at dv
    rw [er3] at dw
    cases dv with
    | tup h1 h2 => cases dw with
      | tup h3 h4 => exact ⟨_, _, _, _, rfl, .inr ⟨sqT_mono s4.sub h1, sqT_mono s4.sub h3, q _ F4 H3 s4 Step.refl (it_zipT h1 h2 h3 h4)⟩⟩
  · exact q.elim
/-! ## a block's context -/
theorem Bd.blk (B : Bd nx T C X9 lv X W) {s : Shared} {H : Hp} {scope : Scope} {cenv : Env} {fp : List Addr} : Bd nx T C X9 lv (X.blk s H scope cenv fp) (fun _ _ _ _ => False) :=
  ⟨B.eN, B.nd, B.calm, B.gd, B.room, takes0, B.fn, B.gl, B.bi⟩

/-! ## expressions -/
structure J (nx : Nx) (T : Tb) (C : Nat → Option D) (X9 : Nat → Addr × Str) (X : Cx) (W : WX) (a : E) : Prop where
  e : ∀ x, (ck nx a X.env.scope).e x = true → PE X x (tz (rV X.K) (kk X X9 W) (ev T C a).e)
  t : ∀ x, (ck nx a X.env.scope).t x = true → PT X x (tz rB (kk X X9 W) (ev T C a).t)
  l : ∀ xs, (ck nx a X.env.scope).l xs = true → AllJ T C (kk X X9 W) X a xs
  i : ∀ tg x, ezB a tg = true → (ck nx a X.env.scope).i x = true → PI X tg x (tz (rI X.K) (kk X X9 W) (ev T C a).i)
  o : ∀ x, (ck nx a X.env.scope).o x = true → PE X x (tz (rP X.K) (kk X X9 W) (opd a (ev T C a).e))
/-- a node that gives a value -/
theorem J.val {a : E} (he : ∀ x, (ck nx a X.env.scope).e x = true → PE X x (tz (rV X.K) (kk X X9 W) (ev T C a).e)) (ht : ∀ x, (ck nx a X.env.scope).t x = true → PT X x (tz rB (kk X X9 W) (ev T C a).t)) (hl : ∀ xs, (ck nx a X.env.scope).l xs = false)
    (hi : ∀ x, (ck nx a X.env.scope).i x = true → (ck nx a X.env.scope).e x = true) (hj : (ev T C a).i = fun n => ((ev T C a).e n).bd fun r n1 => .of (seqD r.d) n1)
    (ho : ∀ x, (ck nx a X.env.scope).o x = true → (ck nx a X.env.scope).e x = true) (hp : ∀ n, opd a (ev T C a).e n = ((ev T C a).e n).bd fun r n1 => .ok (.dd r.d) n1) : J nx T C X9 X W a :=
  ⟨he, ht, fun xs h => (by rw [hl] at h; cases h), fun tg x _ h => by rw [hj]; exact z_walk (he x (hi x h)), fun x h => z_val (he x (ho x h)) hp⟩
theorem ct {p : Prop} (h : false = true) : p := by cases h
theorem lcB_inv {elt it cond : Scope → Cks} {cc ic : E} {tg : Tg} {vs : List Nat} {sc : Scope} {e : PySem.Expr} (h : lcB nx elt it cond cc ic tg vs sc e = true) : ∃ x tge iter ifs scope pos, e = .ListComp x [⟨tge, iter, ifs, 0⟩] scope pos ∧
    blkC nx.N sc scope (ownN nx vs) = true ∧ (it sc).i iter = true ∧ noSet iter = true ∧ tgB nx (fun y => locB (relS scope sc) y && locB scope y) tg tge = true ∧ tg.slots.all (fun i => decide (i ∈ vs)) = true ∧
    ifsB (cond (relS scope sc)).t cc ifs = true ∧ (elt (relS scope sc)).e x = true ∧ ezB ic tge = true := by
  unfold lcB at h
  split at h
  · obtain ⟨h1, h⟩ := ba h
    obtain ⟨h2, h⟩ := ba h
    obtain ⟨h3, h⟩ := ba h
    obtain ⟨h4, h⟩ := ba h
    obtain ⟨h5, h⟩ := ba h
    obtain ⟨h6, h⟩ := ba h
    obtain ⟨h7, h8⟩ := ba h
    exact ⟨_, _, _, _, _, _, rfl, h1, h2, h3, h4, h5, h6, h7, h8⟩
  · cases h
theorem ifsB_nil {t : PySem.Expr → Bool} {c : E} (h : ifsB t c [] = true) : c = .yes := by
  cases c <;> first | rfl | (cases h; done)
theorem ifsB_one {t : PySem.Expr → Bool} {c : E} {x : PySem.Expr} (h : ifsB t c [x] = true) : t x = true := by
  cases c <;> first | exact h | (cases h; done)
theorem ownN_slots (vs : List Nat) : (ownN nx vs).map (·.2) = vs := by
  unfold ownN
  rw [List.map_map]
  induction vs with
  | nil => rfl
  | cons v vs ih => rw [List.map_cons, ih]; rfl
theorem locB_ok {sc : Scope} {y : Str} (h : locB sc y = true) : Loc sc y := by
  rcases Bool.or_eq_true_iff.mp h with z | z
  · exact .inl (kB_ok z)
  · exact .inr (kB_ok z)
theorem locB_rel {scope sc : Scope} {y : Str} (h : (locB (relS scope sc) y && locB scope y) = true) : Loc (relS scope sc) y ∧ ((scope.names.lookup y == some .cell) = true ∨ (relS scope sc).names.lookup y = some .local) := by
  obtain ⟨a, b⟩ := ba h
  refine ⟨locB_ok a, ?_⟩
  rcases locB_ok b with z | z
  · exact .inr (lookup_relS_keep (by decide) z)
  · exact .inl (by rw [z]; rfl)
theorem z_lc {elt it cond : E} {tg : Tg} {vs : List Nat} {e : PySem.Expr} (B : Bd nx T C X9 lv X W) (Ji : J nx T C X9 X W it)
    (Jb : ∀ (X : Cx) (W : WX), Bd nx T C X9 lv X W → J nx T C X9 X W elt ∧ J nx T C X9 X W cond) (h : lcB nx (ck nx elt) (ck nx it) (ck nx cond) cond it tg vs X.env.scope e = true) :
    PE X e (tz (rV X.K) (kk X X9 W) (zLc tg vs (ev T C it).i (ev T C cond).t (ev T C elt).e)) := by
  obtain ⟨x, tge, iter, ifs, scope, pos, rfl, h1, h2, h3, h4, h5, h6, h7, h8⟩ := lcB_inv h
  have ok : BlkOk X.N X.env.scope scope (ownN nx vs) := by rw [B.eN]; exact blkOk_by h1
  refine PE.imp (pe_lc (te := tz (rV X.K) (kk X X9 fun _ _ _ _ => False) (ev T C elt).e) (tt := tz rB (kk X X9 fun _ _ _ _ => False) (ev T C cond).t) (g := gTg X.K tg) B.calm B.nd (Ji.i tge iter h8 h2) ok ?_ ?_ ?_ (fold_ok h3)) ?_
  · intro s H c cl fp
    exact pg_tg (nx := nx) (X := X.blk s H scope (compEnvC scope cl c X.env) fp) B.calm B.eN B.nd (fun y hy => locB_rel hy) h4
  · intro s H c cl fp
    have Bb := B.blk (s := s) (H := H) (scope := scope) (cenv := compEnvC scope cl c X.env) (fp := fp)
    obtain ⟨_, Jc⟩ := Jb _ _ Bb
    rcases ifs with _ | ⟨y, _ | ⟨y2, ys⟩⟩
    · have := ifsB_nil h6
      subst this
      refine ⟨fun pins s1 σ H1 Q I q => ?_⟩
      obtain ⟨F, n, so, q⟩ := q
      exact pts_nil.run pins s1 σ H1 Q I (q true F H1 so Step.refl rfl)
    · exact pts_one (Jc.t y (ifsB_one h6))
    · cases h6
  · intro s H c cl fp
    have Bb := B.blk (s := s) (H := H) (scope := scope) (cenv := compEnvC scope cl c X.env) (fp := fp)
    exact (Jb _ _ Bb).1.e x h7
  · intro σ H Q q
    rw [ownN_slots]
    exact lc_tz (fun i hi => of_decide_eq_true (List.all_eq_true.mp h5 i hi)) q
/-- every expression whose code is the text -/
theorem all_J : ∀ (a : E) (X : Cx) (W : WX), Bd nx T C X9 lv X W → J nx T C X9 X W a
  | .var i, X, W, B => .val (fun x h => z_var B h) (fun x h => ct h) (fun _ => rfl) (fun _ h => h) rfl (fun _ h => h) (fun _ => rfl)
  | .pk i, X, W, B => by
    refine ⟨fun x h => ct h, fun x h => ?_, fun x h => ct h, fun _ x _ h => ct h, fun x h => z_pk B h⟩
    refine PT.imp (pt_truth (z_name B h) (isTrue_ok (z_nameT h))) ?_
    rintro σ H Q ⟨F, n, s, q⟩
    have q : Po rB (kk X X9 W) (zPkT i n) σ F H n Q := q
    unfold zPkT at q
    cases z : n[i]? with
    | none => rw [z] at q; exact q.elim
    | some t =>
      rw [z] at q
      have y := s.sl i t z
      cases t with
      | un => exact q.elim
      | er c d => exact q.elim
      | fz d =>
        obtain ⟨b, e, q9⟩ := Po.of (show Po rB (kk X X9 W) (Ou.of (truD d) n) σ F H n Q from q)
        obtain ⟨v, e1, e2⟩ := y
        exact ⟨v, e1, b, tru_D s.sub (.inl e2) e, q9 b F H s Step.refl rfl⟩
      | ow d =>
        obtain ⟨b, e, q9⟩ := Po.of (show Po rB (kk X X9 W) (Ou.of (truD d) n) σ F H n Q from q)
        obtain ⟨v, e1, e2⟩ := y
        exact ⟨_, e1, b, tru_D s.sub (.inr ⟨_, rfl, e2⟩) e, q9 b F H s Step.refl rfl⟩
      | pn d =>
        obtain ⟨b, e, q9⟩ := Po.of (show Po rB (kk X X9 W) (Ou.of (truD d) n) σ F H n Q from q)
        obtain ⟨v, e1, e2⟩ := y
        exact ⟨_, e1, b, tru_D s.sub (.inr ⟨_, rfl, e2⟩) e, q9 b F H s Step.refl rfl⟩
  | .io i, X, W, B => ⟨fun x h => ct h, fun x h => ct h, fun x h => ct h, fun _ x _ h => ct h, fun x h => z_io B h⟩
  | .cst d, X, W, B => .val (fun x h => z_cst h) (fun x h => ct h) (fun _ => rfl) (fun _ h => ct h) rfl (fun _ h => h) (fun _ => rfl)
  | .glb g, X, W, B => .val (fun x h => z_glb B h) (fun x h => ct h) (fun _ => rfl) (fun _ h => h) rfl (fun _ h => h) (fun _ => rfl)
  | .op o as, X, W, B => by
    have Ja := all_J as X W B
    refine .val (fun x h => z_op B Ja.l h) (fun x h => ?_) (fun _ => rfl) (fun _ h => h) rfl (fun _ h => h) (fun _ => rfl)
    obtain ⟨h1, h2⟩ := ba h
    rcases Bool.or_eq_true_iff.mp h2 with h2 | h2
    · exact z_truth (z_op B Ja.l h1) h2
    · have hu := B.room.un
      obtain ⟨c, rfl⟩ : ∃ c, o = .cmp c := by cases o <;> first | exact ⟨_, rfl⟩ | (cases h2; done)
      obtain ⟨y, z, pos, rfl, g2, g3⟩ := opCmp_inv h1
      obtain ⟨a, r, rfl, _, pa, J2⟩ := allJ_cons (Ja.l _ g3)
      obtain ⟨d, r, rfl, _, pd, J3⟩ := allJ_cons J2
      cases allJ_nil J3
      refine PT.imp (pt_cmpR (op_cmp (by omega) c) pa pd (mark_ok g2)) fun σ H Q q => ?_
      have q := t_of_v (f := zOp (.cmp c) (ev T C (.cons a (.cons d .nil))).l) (fun n r n' h => cmp_bool h) q
      refine z_two rfl (fun F H v w x y res Q sm dx dy e r => ?_) q
      have e : (cmpD c x y).map dbl = some res := e
      cases z : cmpD c x y with
      | none => rw [z] at e; cases e
      | some b => rw [z] at e; cases e; exact ⟨F, x, y, b, sm, dx, dy, z, r.bl sm⟩
  | .nil, X, W, B => by
    refine ⟨fun x h => ct h, fun x h => ct h, fun xs h => ?_, fun _ x _ h => ct h, fun x h => ct h⟩
    cases xs with
    | nil => trivial
    | cons _ _ => cases h
  | .cons a r, X, W, B => by
    refine ⟨fun x h => ct h, fun x h => ct h, fun xs h => ?_, fun _ x _ h => ct h, fun x h => ct h⟩
    cases xs with
    | nil => cases h
    | cons e es =>
      obtain ⟨h1, h⟩ := ba h
      obtain ⟨h2, h3⟩ := ba h
      exact ⟨h1, (all_J a X W B).o e h2, (all_J r X W B).l es h3⟩
  | .chn o1 o2 a b c, X, W, B => by
    have hu := B.room.un
    have inv : ∀ x, (ck nx (.chn o1 o2 a b c) X.env.scope).e x = true → ∃ y1 y z pos, x = .Compare y1 [o1.py, o2.py] [y, z] pos ∧ noSet z = true ∧ (ck nx a X.env.scope).o y1 = true ∧ (ck nx b X.env.scope).o y = true ∧ (ck nx c X.env.scope).o z = true := by
      intro x h
      dsimp only [ck] at h
      split at h
      · obtain ⟨h1, h⟩ := ba h
        obtain ⟨h2, h⟩ := ba h
        obtain ⟨h3, h⟩ := ba h
        obtain ⟨h4, h⟩ := ba h
        obtain ⟨h5, h6⟩ := ba h
        have e1 := of_decide_eq_true h1
        have e2 := of_decide_eq_true h2
        subst e1 e2
        exact ⟨_, _, _, _, rfl, h3, h4, h5, h6⟩
      · cases h
    refine .val (fun x h => ?_) (fun x h => ?_) (fun _ => rfl) (fun _ h => ct h) rfl (fun _ h => h) (fun _ => rfl)
    · obtain ⟨y1, y, z, pos, rfl, h3, h4, h5, h6⟩ := inv x h
      exact PE.imp (pe_chain (op_cmp (by omega) o1) (op_cmp (by omega) o2) ((all_J a X W B).o _ h4) ((all_J b X W B).o _ h5) ((all_J c X W B).o _ h6) (noSet_last h3)) fun σ H Q q => z_chain q
    · obtain ⟨y1, y, z, pos, rfl, h3, h4, h5, h6⟩ := inv x h
      refine PT.imp (pt_chain (op_cmp (by omega) o1) (op_cmp (by omega) o2) ((all_J a X W B).o _ h4) ((all_J b X W B).o _ h5) ((all_J c X W B).o _ h6) (noSet_last h3)) fun σ H Q q => ?_
      exact z_chain (t_of_v (f := zChn o1 o2 (opd a (ev T C a).e) (opd b (ev T C b).e) (opd c (ev T C c).e)) (fun n r n' h => chn_bool h) q)
  | .slc a b c, X, W, B => by
    have inv : ∀ x, (ck nx (.slc a b c) X.env.scope).e x = true → PE X x (tz (rV X.K) (kk X X9 W) (zSlc (opd a (ev T C a).e) (opd b (ev T C b).e) (opd c (ev T C c).e))) := by
      intro x h
      dsimp only [ck] at h
      split at h
      · obtain ⟨h1, h⟩ := ba h
        obtain ⟨h2, h3⟩ := ba h
        exact z_slc ((all_J a X W B).o _ h1) ((all_J b X W B).o _ h2) ((all_J c X W B).o _ h3)
      · cases h
    refine .val inv (fun x h => ?_) (fun _ => rfl) (fun _ h => h) rfl (fun _ h => h) (fun _ => rfl)
    obtain ⟨h1, h2⟩ := ba h
    exact z_truth (inv x h1) h2
  | .and a b, X, W, B => by
    refine .val (fun x h => ?_) (fun x h => ?_) (fun _ => rfl) (fun _ h => ct h) rfl (fun _ h => h) (fun _ => rfl)
    · dsimp only [ck] at h
      split at h
      · obtain ⟨h1, h2⟩ := ba h
        split at h2
        · exact z_and ((all_J a X W B).e _ h1) (pe_one ((all_J b X W B).e _ h2))
        · exact z_and ((all_J a X W B).e _ h1) ((all_J b X W B).e _ h2)
      · cases h
    · dsimp only [ck] at h
      split at h
      · obtain ⟨h1, h2⟩ := ba h
        split at h2
        · exact PT.imp (pw_and ((all_J a X W B).t _ h1) (pw_and1 ((all_J b X W B).t _ h2))).pt fun σ H Q q => t_and q
        · exact PT.imp (pw_and ((all_J a X W B).t _ h1) (pw_of_pt ((all_J b X W B).t _ h2))).pt fun σ H Q q => t_and q
      · cases h
  | .or a b, X, W, B => by
    refine .val (fun x h => ?_) (fun x h => ?_) (fun _ => rfl) (fun _ h => ct h) rfl (fun _ h => h) (fun _ => rfl)
    · dsimp only [ck] at h
      split at h
      · obtain ⟨h1, h2⟩ := ba h
        split at h2
        · exact z_or ((all_J a X W B).e _ h1) (pe_one ((all_J b X W B).e _ h2))
        · exact z_or ((all_J a X W B).e _ h1) ((all_J b X W B).e _ h2)
      · cases h
    · dsimp only [ck] at h
      split at h
      · obtain ⟨h1, h2⟩ := ba h
        split at h2
        · exact PT.imp (pw_or ((all_J a X W B).t _ h1) (pw_or1 ((all_J b X W B).t _ h2))).pt fun σ H Q q => t_or q
        · exact PT.imp (pw_or ((all_J a X W B).t _ h1) (pw_of_pt ((all_J b X W B).t _ h2))).pt fun σ H Q q => t_or q
      · cases h
  | .not a, X, W, B => by
    refine .val (fun x h => ?_) (fun x h => ?_) (fun _ => rfl) (fun _ h => ct h) rfl (fun _ h => h) (fun _ => rfl)
    · dsimp only [ck] at h
      split at h
      · exact z_not ((all_J a X W B).e _ h)
      · cases h
    · dsimp only [ck] at h
      split at h
      · exact PT.imp (pt_not ((all_J a X W B).t _ h)) fun σ H Q q => t_not q
      · cases h
  | .ife t a b, X, W, B => by
    refine .val (fun x h => ?_) (fun x h => ct h) (fun _ => rfl) (fun _ h => h) rfl (fun _ h => h) (fun _ => rfl)
    dsimp only [ck] at h
    split at h
    · obtain ⟨h1, h⟩ := ba h
      obtain ⟨h2, h3⟩ := ba h
      exact PE.imp (pe_ifExp ((all_J t X W B).t _ h1) ((all_J a X W B).e _ h2) ((all_J b X W B).e _ h3)) fun σ H Q q => t_ife q
    · cases h
  | .call f as, X, W, B => by
    have inv : ∀ x, (ck nx (.call f as) X.env.scope).e x = true → plainT x = true ∧ PE X x (tz (rV X.K) (kk X X9 W) (zCall (T f) (ev T C as).l)) := by
      intro x h
      dsimp only [ck] at h
      split at h
      · obtain ⟨h1, h⟩ := ba h
        obtain ⟨h2, h3⟩ := ba h
        exact ⟨rfl, z_call B (of_decide_eq_true h1) h2 ((all_J as X W B).l _ h3)⟩
      · cases h
    exact .val (fun x h => (inv x h).2) (fun x h => z_truth (inv x h).2 (inv x h).1) (fun _ => rfl) (fun _ h => h) rfl (fun _ h => h) (fun _ => rfl)
  | .lc elt tg it cond vs, X, W, B => by
    have inv : ∀ x, (ck nx (.lc elt tg it cond vs) X.env.scope).e x = true → plainT x = true ∧ PE X x (tz (rV X.K) (kk X X9 W) (zLc tg vs (ev T C it).i (ev T C cond).t (ev T C elt).e)) := by
      intro x h
      refine ⟨?_, z_lc B (all_J it X W B) (fun X W B => ⟨all_J elt X W B, all_J cond X W B⟩) h⟩
      obtain ⟨x, tge, iter, ifs, scope, pos, rfl, _⟩ := lcB_inv h
      rfl
    exact .val (fun x h => (inv x h).2) (fun x h => z_truth (inv x h).2 (inv x h).1) (fun _ => rfl) (fun _ h => h) rfl (fun _ h => h) (fun _ => rfl)
  | .yes, X, W, B => ⟨fun x h => ct h, fun x h => ct h, fun x h => ct h, fun _ x _ h => ct h, fun x h => ct h⟩
  | .rng1 a, X, W, B => by
    refine ⟨fun x h => ct h, fun x h => ct h, fun x h => ct h, fun _ x _ h => ?_, fun x h => ct h⟩
    dsimp only [ck] at h
    split at h
    · obtain ⟨h1, h⟩ := ba h
      obtain ⟨h2, h⟩ := ba h
      obtain ⟨h3, h4⟩ := ba h
      have e1 := of_decide_eq_true h1
      subst e1
      exact z_rng1 B h2 h3 ((all_J a X W B).o _ h4)
    · cases h
  | .rng2 a b, X, W, B => by
    refine ⟨fun x h => ct h, fun x h => ct h, fun x h => ct h, fun _ x _ h => ?_, fun x h => ct h⟩
    dsimp only [ck] at h
    split at h
    · obtain ⟨h1, h⟩ := ba h
      obtain ⟨h2, h⟩ := ba h
      obtain ⟨h3, h⟩ := ba h
      obtain ⟨h4, h⟩ := ba h
      obtain ⟨h5, h6⟩ := ba h
      have e1 := of_decide_eq_true h1
      subst e1
      exact z_rng2 B h2 h3 h4 ((all_J a X W B).o _ h5) ((all_J b X W B).o _ h6)
    · cases h
  | .enm a, X, W, B => by
    refine ⟨fun x h => ct h, fun x h => ct h, fun x h => ct h, fun tg x hz h => ?_, fun x h => ct h⟩
    dsimp only [ck] at h
    split at h
    · obtain ⟨h1, h⟩ := ba h
      obtain ⟨h2, h⟩ := ba h
      obtain ⟨h3, h4⟩ := ba h
      have e1 := of_decide_eq_true h1
      subst e1
      exact z_enm B h2 h3 ((all_J a X W B).e _ h4) hz
    · cases h
  | .zip a b, X, W, B => by
    refine ⟨fun x h => ct h, fun x h => ct h, fun x h => ct h, fun tg x hz h => ?_, fun x h => ct h⟩
    dsimp only [ck] at h
    split at h
    · obtain ⟨h1, h⟩ := ba h
      obtain ⟨h2, h⟩ := ba h
      obtain ⟨h3, h⟩ := ba h
      obtain ⟨h4, h⟩ := ba h
      obtain ⟨h5, h6⟩ := ba h
      have e1 := of_decide_eq_true h1
      subst e1
      exact z_zip B h2 h3 h4 ((all_J a X W B).e _ h5) ((all_J b X W B).e _ h6) hz
    · cases h
  | .eat _, X, W, B => ⟨fun x h => ct h, fun x h => ct h, fun x h => ct h, fun _ x _ h => ct h, fun x h => ct h⟩
  | .eis _ _, X, W, B => ⟨fun x h => ct h, fun x h => ct h, fun x h => ct h, fun _ x _ h => ct h, fun x h => ct h⟩
  | .any, X, W, B => by
    refine ⟨fun x h => ⟨fun pins s σ H Q I q => ?_⟩, fun x h => ⟨fun pins s σ H Q I q => ?_⟩, fun x h => ct h, fun tg x _ h => ⟨fun pins s σ H Q I q => ?_⟩, fun x h => ⟨fun pins s σ H Q I q => ?_⟩⟩
    all_goals
      obtain ⟨F, n, _, q⟩ := q
      exact q.elim
  | .chn3 o1 o2 o3 a b c d, X, W, B => by
    have hu := B.room.un
    have inv : ∀ x, (ck nx (.chn3 o1 o2 o3 a b c d) X.env.scope).e x = true → ∃ y1 y z u pos, x = .Compare y1 [o1.py, o2.py, o3.py] [y, z, u] pos ∧ noSet u = true ∧ (ck nx a X.env.scope).o y1 = true ∧ (ck nx b X.env.scope).o y = true ∧ (ck nx c X.env.scope).o z = true ∧ (ck nx d X.env.scope).o u = true := by
      intro x h
      dsimp only [ck] at h
      split at h
      · obtain ⟨h1, h⟩ := ba h
        obtain ⟨h2, h⟩ := ba h
        obtain ⟨h3, h⟩ := ba h
        obtain ⟨h4, h⟩ := ba h
        obtain ⟨h5, h⟩ := ba h
        obtain ⟨h6, h⟩ := ba h
        obtain ⟨h7, h8⟩ := ba h
        have e1 := of_decide_eq_true h1
        have e2 := of_decide_eq_true h2
        have e3 := of_decide_eq_true h3
        subst e1 e2 e3
        exact ⟨_, _, _, _, _, rfl, h4, h5, h6, h7, h8⟩
      · cases h
    refine .val (fun x h => ?_) (fun x h => ?_) (fun _ => rfl) (fun _ h => ct h) rfl (fun _ h => h) (fun _ => rfl)
    · obtain ⟨y1, y, z, u, pos, rfl, h4, h5, h6, h7, h8⟩ := inv x h
      exact PE.imp (pe_ch3 (op_cmp (by omega) o1) (op_cmp (by omega) o2) (op_cmp (by omega) o3) ((all_J a X W B).o _ h5) ((all_J b X W B).o _ h6) ((all_J c X W B).o _ h7) ((all_J d X W B).o _ h8) (mark_ok h4)) fun σ H Q q => z_ch3 q
    · obtain ⟨y1, y, z, u, pos, rfl, h4, h5, h6, h7, h8⟩ := inv x h
      refine PT.imp (pt_ch3 (op_cmp (by omega) o1) (op_cmp (by omega) o2) (op_cmp (by omega) o3) ((all_J a X W B).o _ h5) ((all_J b X W B).o _ h6) ((all_J c X W B).o _ h7) ((all_J d X W B).o _ h8) (mark_ok h4)) fun σ H Q q => ?_
      exact z_ch3 (t_of_v (f := zChn3 o1 o2 o3 (opd a (ev T C a).e) (opd b (ev T C b).e) (opd c (ev T C c).e) (opd d (ev T C d).e)) (fun n r n' h => chn3_bool h) q)
  | .lrg1 a, X, W, B => by
    have inv : ∀ x, (ck nx (.lrg1 a) X.env.scope).e x = true → PE X x (tz (rV X.K) (kk X X9 W) (zLrg1 (opd a (ev T C a).e))) := by
      intro x h
      dsimp only [ck] at h
      split at h
      · obtain ⟨h1, h⟩ := ba h
        obtain ⟨h2, h⟩ := ba h
        obtain ⟨h3, h⟩ := ba h
        obtain ⟨h4, h⟩ := ba h
        obtain ⟨h5, h6⟩ := ba h
        have e1 := of_decide_eq_true h1
        have e3 := of_decide_eq_true h3
        subst e1 e3
        exact z_lrg1 B h2 h4 h5 ((all_J a X W B).o _ h6)
      · cases h
    exact .val inv (fun x h => ct h) (fun _ => rfl) (fun _ h => h) rfl (fun _ h => h) (fun _ => rfl)
  | .lrg2 a b, X, W, B => by
    have inv : ∀ x, (ck nx (.lrg2 a b) X.env.scope).e x = true → PE X x (tz (rV X.K) (kk X X9 W) (zLrg2 (opd a (ev T C a).e) (opd b (ev T C b).e))) := by
      intro x h
      dsimp only [ck] at h
      split at h
      · obtain ⟨h1, h⟩ := ba h
        obtain ⟨h2, h⟩ := ba h
        obtain ⟨h3, h⟩ := ba h
        obtain ⟨h4, h⟩ := ba h
        obtain ⟨h5, h⟩ := ba h
        obtain ⟨h6, h⟩ := ba h
        obtain ⟨h7, h8⟩ := ba h
        have e1 := of_decide_eq_true h1
        have e3 := of_decide_eq_true h3
        subst e1 e3
        exact z_lrg2 B h2 h4 h5 h6 ((all_J a X W B).o _ h7) ((all_J b X W B).o _ h8)
      · cases h
    exact .val inv (fun x h => ct h) (fun _ => rfl) (fun _ h => h) rfl (fun _ h => h) (fun _ => rfl)
end
end Z

set_option Elab.async false
set_option linter.all false
set_option maxRecDepth 100000
set_option maxHeartbeats 8000000
namespace Z
open PySem PySem.Spec PyProof.Rows L2

/-! ## statements: the code -/
/-- what stands in an except suite -/
inductive HE where
  | rsn (f : Str) | cst (d : D) | isI (j : Nat) | and (a b : HE) | or (a b : HE) | not (a : HE) | ife (t a b : HE) | add (a b : HE) | eq (a b : HE)
inductive S where
  | nil | cons (s r : S)
  | doc | pass | brk | cnt
  | ret (a : E) | retN
  | set (t : Tg) (a : E) | setI (i : Nat) (ix v : E) | app (i : Nat) (a : E) | aug (i : Nat) (o : BOp) (a : E)
  | ex (a : E) | ife (t : E) (a b : S) | for_ (t : Tg) (it : E) (b : S)
  | rai (c : Nat) (a : E) | try1 (b : S) (i : Nat) (h : HE)
  | rest | ext (i : Nat) (a : E)
inductive Fl where
  | nx (n : En) | rt (r : R) (n : En) | bk (n : En) | ct (n : En) | ex (c : Nat) (d : D) (n : En) | st
@[reducible] def Fl.of {α : Type} (m : Ou α) (k : α → En → Fl) : Fl := match m with
  | .ok a n => k a n
  | .ex c d n => .ex c d n
  | .st => .st
/-- whether class c is class j or under it: 0.. the leaves, 10 the base, 11 the built-in one -/
def sbC (c j : Nat) : Bool := c == j || decide (10 ≤ j)
/-- the name of the attribute that a class's errors bear -/
def atN (c : Nat) : Str := if c = 0 then "at" else if c = 9 then "line" else "reason"
def hv (c : Nat) (d : D) : HE → Option D
  | .rsn f => if f = atN c then some d else none
  | .cst x => some x
  | .isI j => some (.bool (sbC c j))
  | .and a b => match hv c d a with
    | some (.bool true) => hv c d b
    | some (.bool false) => some (.bool false)
    | _ => none
  | .or a b => match hv c d a with
    | some (.bool false) => hv c d b
    | some (.bool true) => some (.bool true)
    | _ => none
  | .not a => match hv c d a with
    | some (.bool b) => some (.bool (!b))
    | _ => none
  | .ife t a b => match hv c d t with
    | some (.bool true) => hv c d a
    | some (.bool false) => hv c d b
    | _ => none
  | .add a b => match hv c d a, hv c d b with
    | some (.str x), some (.str y) => if fitL (x.length + y.length) then some (.str (x ++ y)) else none
    | _, _ => none
  | .eq a b => match hv c d a, hv c d b with
    | some x, some y => if SeqAt.shaped x && SeqAt.shaped y then some (.bool (PyData.eqv x y)) else none
    | _, _ => none
def putR (t : Tg) (r : R) (n : En) : Option En := match t with
  | .nm i => match n[i]? with
    | some (.pn _) => none
    | some _ => some (n.set i r.sl)
    | none => none
  | .tp is => (Tg.tp is).put r.d n
def augF : BOp → Option (Int → Int → Int)
  | .add => some fun x y => x + y
  | .sub => some fun x y => x - y
  | _ => none
/-- what a message may hold -/
def fmtOk : D → Bool
  | .str x => decide (x.length ≤ 1000)
  | .int i => decide (i.natAbs < 2 ^ 64)
  | _ => false
def frz1 : P → Option D
  | .dd d => some d
  | _ => none
/-- an owned list, and how it goes back -/
def ownAt (n : En) (i : Nat) : Option (List D × (List D → Sl)) := match n[i]? with
  | some (.ow (.list ds)) => some (ds, fun es => .ow (.list es))
  | some (.pn (.list ds)) => some (ds, fun es => .pn (.list es))
  | _ => none
def forGo (t : Tg) (b : En → Fl) : List D → En → Fl
  | [], n => .nx n
  | x :: xs, n => match t.put x n with
    | none => .st
    | some n1 => match b n1 with
      | .nx n2 => forGo t b xs n2
      | .ct n2 => forGo t b xs n2
      | .bk n2 => .nx n2
      | .rt r n2 => .rt r n2
      | .ex c d n2 => .ex c d n2
      | .st => .st
section
variable (T : Tb) (C : Nat → Option D)
def sv : S → En → Fl
  | .nil, n => .nx n
  | .cons s r, n => match sv s n with
    | .nx n1 => sv r n1
    | .rt v n1 => .rt v n1
    | .bk n1 => .bk n1
    | .ct n1 => .ct n1
    | .ex c d n1 => .ex c d n1
    | .st => .st
  | .doc, n => .nx n
  | .pass, n => .nx n
  | .brk, n => .bk n
  | .cnt, n => .ct n
  | .ret a, n => Fl.of ((ev T C a).e n) fun r n1 => .rt r n1
  | .retN, n => .rt (.fr .none) n
  | .set t a, n => Fl.of ((ev T C a).e n) fun r n1 => match putR t r n1 with
    | some n2 => .nx n2
    | none => .st
  | .setI i ix v, n => Fl.of ((ev T C v).e n) fun r n1 => match ownAt n1 i with
    | some _ => Fl.of (opd ix (ev T C ix).e n1) fun q n2 => match ownAt n2 i, rs n2 q with
      | some (ds, k), some (.int j) => match ixN ds.length j with
        | some m => .nx (n2.set i (k (ds.set m r.d)))
        | none => .st
      | _, _ => .st
    | none => .st
  | .app i a, n => match ownAt n i with
    | some _ => Fl.of ((ev T C a).e n) fun r n1 => match ownAt n1 i with
      | some (ds, k) => if decide (ds.length < sizeLine) then .nx (n1.set i (k (ds ++ [r.d]))) else .st
      | none => .st
    | none => .st
  | .aug i o a, n => match augF o with
    | some f => match n[i]? with
      | some (.fz (.int _)) => Fl.of ((ev T C a).e n) fun r n1 => match n1[i]?, r with
        | some (.fz (.int x)), .fr (.int y) => .nx (n1.set i (.fz (.int (f x y))))
        | _, _ => .st
      | _ => .st
    | none => .st
  | .ex a, n => Fl.of ((ev T C a).e n) fun _ n1 => .nx n1
  | .ife t a b, n => Fl.of ((ev T C t).t n) fun k n1 => if k then sv a n1 else sv b n1
  | .for_ t it b, n => Fl.of ((ev T C it).i n) fun xs n1 => forGo t (sv b) xs n1
  | .rai c a, n => Fl.of ((ev T C a).e n) fun r n1 => if fmtOk r.d then .ex c r.d n1 else .st
  | .try1 b i h, n => match sv b n with
    | .ex c d n1 => match hv c d h, n1[i]? with
      | some r, some _ => .rt (.fr r) n1
      | _, _ => .st
    | f => f
  | .rest, _ => .st
  | .ext i a, n => match ownAt n i with
    | some _ => Fl.of ((ev T C a).e n) fun r n1 => match ownAt n1 i, r.d with
      | some (ds, k), .list es => if decide (ds.length + es.length ≤ sizeLine) then .nx (n1.set i (k (ds ++ es))) else .st
      | _, _ => .st
    | none => .st
/-- what the owned parameters hold behind the call -/
def finD : List Sl → En → List D
  | [], _ => []
  | .pn _ :: r, .pn d :: n => d :: finD r n
  | _ :: r, _ :: n => .none :: finD r n
  | _ :: r, [] => .none :: finD r []
/-- a def: m slots in all -/
def evDef (m : Nat) (b : S) (ss : List Sl) : Rt := match sv T C b (ss ++ List.replicate (m - ss.length) .un) with
  | .nx n => .ret (.fr .none) (finD ss n)
  | .rt r n => .ret r (finD ss n)
  | .ex c d n => .ex c d (finD ss n)
  | _ => .st
end

/-! ## pinned slots stay pinned -/
def isPn : Option Sl → Bool
  | some (.pn _) => true
  | _ => false
def PnE (n n' : En) : Prop := ∀ i : Nat, isPn n'[i]? = isPn n[i]?
theorem PnE.refl {n : En} : PnE n n := fun _ => rfl
theorem PnE.trans {n n1 n2 : En} (a : PnE n n1) (b : PnE n1 n2) : PnE n n2 := fun i => (b i).trans (a i)
theorem PnE.set {n : En} {i : Nat} {s t : Sl} (h : n[i]? = some t) (e : isPn (some s) = isPn (some t)) : PnE n (n.set i s) := fun j => by
  by_cases q : j = i
  · subst q; rw [List.getElem?_set_self (List.getElem?_eq_some_iff.mp h).1, h, e]
  · rw [List.getElem?_set_ne (Ne.symm q)]
def KpO {α : Type} (n : En) : Ou α → Prop
  | .ok _ n' => PnE n n'
  | .ex _ _ n' => PnE n n'
  | .st => True
theorem KpO.bd {α β : Type} {n : En} {m : Ou α} {f : α → En → Ou β} (h : KpO n m) (g : ∀ a n', PnE n n' → KpO n (f a n')) : KpO n (m.bd f) := by
  cases m with
  | ok a n' => exact g a n' h
  | ex c d n' => exact h
  | st => trivial
theorem KpO.trans {α : Type} {n n1 : En} {m : Ou α} (a : PnE n n1) (b : KpO n1 m) : KpO n m := by
  cases m with
  | ok _ n' => exact a.trans b
  | ex c d n' => exact a.trans b
  | st => trivial
theorem KpO.of {α : Type} {n n1 : En} {o : Option α} (h : PnE n n1) : KpO n (Ou.of o n1) := by
  cases o with
  | none => trivial
  | some a => exact h
theorem setAll_pn : ∀ {is : List Nat} {ds : List D} {n n' : En}, setAll n is ds = some n' → PnE n n'
  | [], [], n, n', e => by cases e; exact .refl
  | [], _ :: _, n, n', e => by cases e
  | i :: is, [], n, n', e => by cases e
  | i :: is, d :: ds, n, n', e => by
    have e : (match n[i]? with
      | some (.pn _) => none
      | some _ => setAll (n.set i (.fz d)) is ds
      | none => none) = some n' := e
    cases q : n[i]? with
    | none => rw [q] at e; cases e
    | some t =>
      rw [q] at e
      cases t with
      | pn x => cases e
      | un => exact (PnE.set (s := .fz d) q rfl).trans (setAll_pn (show setAll (n.set i (.fz d)) is ds = some n' from e))
      | fz x => exact (PnE.set (s := .fz d) q rfl).trans (setAll_pn (show setAll (n.set i (.fz d)) is ds = some n' from e))
      | ow x => exact (PnE.set (s := .fz d) q rfl).trans (setAll_pn (show setAll (n.set i (.fz d)) is ds = some n' from e))
      | er c x => exact (PnE.set (s := .fz d) q rfl).trans (setAll_pn (show setAll (n.set i (.fz d)) is ds = some n' from e))
theorem put_pn {t : Tg} {d : D} {n n' : En} (e : t.put d n = some n') : PnE n n' := by
  cases t with
  | nm i => exact setAll_pn e
  | tp is =>
    cases d <;> try (cases e; done)
    exact setAll_pn e
theorem noPn_ok {n : En} {vs : List Nat} (h : noPn n vs = true) : ∀ v ∈ vs, isPn n[v]? = false := fun v hv => by
  have q := List.all_eq_true.mp h v hv
  cases z : n[v]? with
  | none => rfl
  | some t =>
    rw [z] at q
    cases t <;> first | rfl | (cases q; done)
theorem wipe_pn {n : En} {vs : List Nat} (h : ∀ v ∈ vs, isPn n[v]? = false) : PnE n (wipeN n vs) := fun i => by
  by_cases hi : i ∈ vs
  · rw [h i hi]
    cases z : (wipeN n vs)[i]? with
    | none => rfl
    | some t => rw [wipeN_in hi z]; rfl
  · rw [wipeN_out hi]
theorem back_pn : ∀ {ps : List P} {ds : List D} {n n' : En}, putBack n ps ds = some n' → PnE n n'
  | [], ds, n, n', e => by cases e; exact .refl
  | p :: r, ds, n, n', e => by
    cases p with
    | dd x => cases ds with
      | nil => exact back_pn (ps := r) (ds := []) e
      | cons d ds => exact back_pn (ps := r) (ds := ds) e
    | sl x => cases ds with
      | nil => exact back_pn (ps := r) (ds := []) e
      | cons d ds => exact back_pn (ps := r) (ds := ds) e
    | io i =>
      cases ds with
      | nil => cases e
      | cons d ds =>
        have e : (match n[i]? with
          | some (.ow _) => putBack (n.set i (.ow d)) r ds
          | some (.pn _) => putBack (n.set i (.pn d)) r ds
          | _ => none) = some n' := e
        cases q : n[i]? with
        | none => rw [q] at e; cases e
        | some t =>
          rw [q] at e
          cases t with
          | ow x => exact (PnE.set (s := .ow d) q rfl).trans (back_pn (ps := r) (show putBack (n.set i (.ow d)) r ds = some n' from e))
          | pn x => exact (PnE.set (s := .pn d) q rfl).trans (back_pn (ps := r) (show putBack (n.set i (.pn d)) r ds = some n' from e))
          | un => cases e
          | fz x => cases e
          | er c x => cases e
theorem lcGo_pn {tg : Tg} {own : List Nat} {fc : En → Ou Bool} {fe : En → Ou R} (hc : ∀ n, KpO n (fc n)) (he : ∀ n, KpO n (fe n)) : ∀ {xs acc : List D} {n : En}, (∀ v ∈ own, isPn n[v]? = false) → KpO n (lcGo tg own fc fe xs acc n)
  | [], acc, n, h => PnE.refl
  | x :: xs, acc, n, h => by
    unfold lcGo
    cases q : tg.put x (wipeN n own) with
    | none => trivial
    | some n1 =>
      have p1 : PnE n n1 := (wipe_pn h).trans (put_pn q)
      refine (KpO.trans p1 (hc n1)).bd fun b n2 p2 => ?_
      have go : ∀ {acc : List D} {m : En}, PnE n m → KpO n (lcGo tg own fc fe xs acc m) := fun pm => KpO.trans pm (lcGo_pn hc he fun v hv => by rw [pm v]; exact h v hv)
      cases b with
      | false => rw [if_neg Bool.false_ne_true]; exact go p2
      | true =>
        rw [if_pos rfl]
        refine (KpO.trans p2 (he n2)).bd fun r n3 p3 => ?_
        by_cases hz : (decide (acc.length < sizeLine)) = true
        · rw [if_pos hz]; exact go p3
        · rw [if_neg hz]; trivial
section
variable {T : Tb} {C : Nat → Option D}
structure Kp (a : E) : Prop where
  e : ∀ n, KpO n ((ev T C a).e n)
  t : ∀ n, KpO n ((ev T C a).t n)
  l : ∀ n, KpO n ((ev T C a).l n)
  i : ∀ n, KpO n ((ev T C a).i n)
theorem opd_pn {a : E} (h : Kp (T := T) (C := C) a) (n : En) : KpO n (opd a (ev T C a).e n) := by
  cases a
  case pk i =>
    dsimp only [opd]
    cases z : n[i]? with
    | none => trivial
    | some t => cases t <;> first | trivial | exact PnE.refl
  case io i =>
    dsimp only [opd]
    cases z : n[i]? with
    | none => trivial
    | some t => cases t <;> first | trivial | exact PnE.refl
  all_goals exact (h.e n).bd (f := fun r n1 => .ok (P.dd r.d) n1) fun r n1 p => p
theorem Kp.val {a : E} {f : En → Ou R} (hf : ∀ n, KpO n (f n)) (e1 : (ev T C a).e = f) (e2 : (ev T C a).t = fun n => (f n).bd fun r n1 => .of (truD r.d) n1) (e3 : (ev T C a).l = fun _ => .st) (e4 : (ev T C a).i = fun n => (f n).bd fun r n1 => .of (seqD r.d) n1) : Kp (T := T) (C := C) a :=
  ⟨fun n => by rw [e1]; exact hf n, fun n => by rw [e2]; exact (hf n).bd fun r n1 p => KpO.of p, fun n => by rw [e3]; trivial, fun n => by rw [e4]; exact (hf n).bd fun r n1 p => KpO.of p⟩
theorem Kp.val2 {a : E} {f : En → Ou R} {g : En → Ou Bool} (hf : ∀ n, KpO n (f n)) (hg : ∀ n, KpO n (g n)) (e1 : (ev T C a).e = f) (e2 : (ev T C a).t = g) (e3 : (ev T C a).l = fun _ => .st) (e4 : (ev T C a).i = fun n => (f n).bd fun r n1 => .of (seqD r.d) n1) : Kp (T := T) (C := C) a :=
  ⟨fun n => by rw [e1]; exact hf n, fun n => by rw [e2]; exact hg n, fun n => by rw [e3]; trivial, fun n => by rw [e4]; exact (hf n).bd fun r n1 p => KpO.of p⟩
theorem Kp.no {a : E} (e : ev T C a = Ev.no) : Kp (T := T) (C := C) a := ⟨fun n => by rw [e]; trivial, fun n => by rw [e]; trivial, fun n => by rw [e]; trivial, fun n => by rw [e]; trivial⟩
theorem all_Kp : ∀ a : E, Kp (T := T) (C := C) a
  | .var i => Kp.val (f := zVar i) (fun n => by
      unfold zVar
      cases z : n[i]? with
      | none => trivial
      | some t => cases t <;> first | trivial | exact PnE.refl | exact PnE.set z rfl) rfl rfl rfl rfl
  | .pk i => ⟨fun _ => trivial, fun n => by
      show KpO n (zPkT i n)
      unfold zPkT
      cases (n[i]?).bind slD with
      | none => trivial
      | some d => exact KpO.of .refl, fun _ => trivial, fun _ => trivial⟩
  | .io _ => Kp.no rfl
  | .cst d => Kp.val (f := fun n => .ok (.fr d) n) (fun n => PnE.refl) rfl rfl rfl rfl
  | .glb g => Kp.val (f := fun n => match C g with
      | some d => .ok (.fr d) n
      | none => .st) (fun n => by
      cases z : C g with
      | none => trivial
      | some d => exact PnE.refl) rfl rfl rfl rfl
  | .op o as => Kp.val (f := zOp o (ev T C as).l) (fun n => by
      unfold zOp
      refine ((all_Kp as).l n).bd fun ps n1 p => ?_
      cases opdl o n1 ps with
      | none => trivial
      | some ds => exact KpO.of p) rfl rfl rfl rfl
  | .nil => ⟨fun _ => trivial, fun _ => trivial, fun _ => PnE.refl, fun _ => trivial⟩
  | .cons a r => ⟨fun _ => trivial, fun _ => trivial, fun n => (opd_pn (all_Kp a) n).bd fun q n1 p => (KpO.trans p ((all_Kp r).l n1)).bd fun ps n2 p2 => p2, fun _ => trivial⟩
  | .chn o1 o2 a b c => Kp.val (f := zChn o1 o2 (opd a (ev T C a).e) (opd b (ev T C b).e) (opd c (ev T C c).e)) (fun n => by
      refine (opd_pn (all_Kp a) n).bd fun pa n1 p1 => (KpO.trans p1 (opd_pn (all_Kp b) n1)).bd fun pb n2 p2 => ?_
      split
      · split
        · refine (KpO.trans p2 (opd_pn (all_Kp c) n2)).bd fun pc n3 p3 => ?_
          split
          · exact KpO.of p3
          · trivial
        · exact p2
        · trivial
      · trivial) rfl rfl rfl rfl
  | .slc a b c => Kp.val (f := zSlc (opd a (ev T C a).e) (opd b (ev T C b).e) (opd c (ev T C c).e)) (fun n => by
      refine (opd_pn (all_Kp a) n).bd fun pa n1 p1 => (KpO.trans p1 (opd_pn (all_Kp b) n1)).bd fun pb n2 p2 => ?_
      split
      · refine (KpO.trans p2 (opd_pn (all_Kp c) n2)).bd fun pc n3 p3 => ?_
        split
        · exact KpO.of p3
        · trivial
      · trivial) rfl rfl rfl rfl
  | .and a b => Kp.val2 (f := zAnd (ev T C a).e (ev T C b).e) (g := fun n => ((ev T C a).t n).bd fun k n1 => if k then (ev T C b).t n1 else .ok false n1) (fun n => by
      refine ((all_Kp a).e n).bd fun r n1 p => ?_
      split
      · exact KpO.trans p ((all_Kp b).e n1)
      · exact p
      · trivial) (fun n => ((all_Kp a).t n).bd fun k n1 p => by
        cases k with
        | true => exact KpO.trans p ((all_Kp b).t n1)
        | false => exact p) rfl rfl rfl rfl
  | .or a b => Kp.val2 (f := zOr (ev T C a).e (ev T C b).e) (g := fun n => ((ev T C a).t n).bd fun k n1 => if k then .ok true n1 else (ev T C b).t n1) (fun n => by
      refine ((all_Kp a).e n).bd fun r n1 p => ?_
      split
      · exact KpO.trans p ((all_Kp b).e n1)
      · exact p
      · trivial) (fun n => ((all_Kp a).t n).bd fun k n1 p => by
        cases k with
        | false => exact KpO.trans p ((all_Kp b).t n1)
        | true => exact p) rfl rfl rfl rfl
  | .not a => Kp.val2 (f := zNot (ev T C a).e) (g := fun n => ((ev T C a).t n).bd fun k n1 => .ok (!k) n1) (fun n => by
      refine ((all_Kp a).e n).bd fun r n1 p => ?_
      split
      · exact p
      · trivial) (fun n => ((all_Kp a).t n).bd fun k n1 p => p) rfl rfl rfl rfl
  | .ife t a b => Kp.val (f := fun n => ((ev T C t).t n).bd fun k n1 => if k then (ev T C a).e n1 else (ev T C b).e n1) (fun n => ((all_Kp t).t n).bd fun k n1 p => by
      cases k with
      | true => exact KpO.trans p ((all_Kp a).e n1)
      | false => exact KpO.trans p ((all_Kp b).e n1)) rfl rfl rfl rfl
  | .call f as => Kp.val (f := zCall (T f) (ev T C as).l) (fun n => by
      cases T f with
      | none => trivial
      | some m =>
        refine ((all_Kp as).l n).bd fun ps n1 p => ?_
        split
        · split
          · split
            · rename_i ss _ _
              cases m.2 ss with
              | st => trivial
              | ret r ds =>
                show KpO n (match putBack n1 ps ds with
                  | some n' => Ou.ok r n'
                  | none => .st)
                cases z : putBack n1 ps ds with
                | none => trivial
                | some n' => exact p.trans (back_pn z)
              | ex c d ds =>
                show KpO n (match putBack n1 ps ds with
                  | some n' => Ou.ex c d n'
                  | none => (.st : Ou R))
                cases z : putBack n1 ps ds with
                | none => trivial
                | some n' => exact p.trans (back_pn z)
            · trivial
          · trivial
        · trivial) rfl rfl rfl rfl
  | .lc elt tg it cond own => Kp.val (f := zLc tg own (ev T C it).i (ev T C cond).t (ev T C elt).e) (fun n => by
      refine ((all_Kp it).i n).bd fun xs n1 p => ?_
      split
      · rename_i h
        have h0 := noPn_ok h
        have w := wipe_pn h0
        have g := lcGo_pn (tg := tg) (own := own) (all_Kp cond).t (all_Kp elt).e (xs := xs) (acc := []) (n := wipeN n1 own) fun v hv => by rw [w v]; exact h0 v hv
        cases z : lcGo tg own (ev T C cond).t (ev T C elt).e xs [] (wipeN n1 own) with
        | st => trivial
        | ex c d n' => trivial
        | ok ds n2 =>
          rw [z] at g
          have g : PnE (wipeN n1 own) n2 := g
          have q : PnE n n2 := (p.trans w).trans g
          refine q.trans (wipe_pn fun v hv => ?_)
          rw [(w.trans g) v]; exact h0 v hv
      · trivial) rfl rfl rfl rfl
  | .yes => ⟨fun _ => trivial, fun _ => PnE.refl, fun _ => trivial, fun _ => trivial⟩
  | .rng1 a => ⟨fun _ => trivial, fun _ => trivial, fun _ => trivial, fun n => by
      refine (opd_pn (all_Kp a) n).bd fun pa n1 p1 => ?_
      split
      · split
        · exact p1
        · trivial
      · trivial⟩
  | .rng2 a b => ⟨fun _ => trivial, fun _ => trivial, fun _ => trivial, fun n => by
      refine (opd_pn (all_Kp a) n).bd fun pa n1 p1 => (KpO.trans p1 (opd_pn (all_Kp b) n1)).bd fun pb n2 p2 => ?_
      split
      · split
        · exact p2
        · trivial
      · trivial⟩
  | .enm a => ⟨fun _ => trivial, fun _ => trivial, fun _ => trivial, fun n => by
      refine ((all_Kp a).e n).bd fun r n1 p1 => ?_
      split
      · exact p1
      · trivial⟩
  | .zip a b => ⟨fun _ => trivial, fun _ => trivial, fun _ => trivial, fun n => by
      refine ((all_Kp a).e n).bd fun r n1 p1 => (KpO.trans p1 ((all_Kp b).e n1)).bd fun q n2 p2 => ?_
      split
      · exact p2
      · exact p2
      · trivial⟩
  | .eat i => Kp.val (f := zEat i) (fun n => by
      unfold zEat
      cases z : n[i]? with
      | none => trivial
      | some t => cases t <;> first | trivial | exact PnE.refl) rfl rfl rfl rfl
  | .eis _ _ => Kp.no rfl
  | .any => Kp.no rfl
  | .chn3 o1 o2 o3 a b c d => Kp.val (f := zChn3 o1 o2 o3 (opd a (ev T C a).e) (opd b (ev T C b).e) (opd c (ev T C c).e) (opd d (ev T C d).e)) (fun n => by
      refine (opd_pn (all_Kp a) n).bd fun pa n1 p1 => (KpO.trans p1 (opd_pn (all_Kp b) n1)).bd fun pb n2 p2 => ?_
      split
      · split
        · refine (KpO.trans p2 (opd_pn (all_Kp c) n2)).bd fun pc n3 p3 => ?_
          split
          · split
            · refine (KpO.trans p3 (opd_pn (all_Kp d) n3)).bd fun pd n4 p4 => ?_
              split
              · exact KpO.of p4
              · trivial
            · exact p3
            · trivial
          · trivial
        · exact p2
        · trivial
      · trivial) rfl rfl rfl rfl
  | .lrg1 a => Kp.val (f := zLrg1 (opd a (ev T C a).e)) (fun n => by
      refine (opd_pn (all_Kp a) n).bd fun pa n1 p1 => ?_
      split
      · split
        · exact p1
        · trivial
      · trivial) rfl rfl rfl rfl
  | .lrg2 a b => Kp.val (f := zLrg2 (opd a (ev T C a).e) (opd b (ev T C b).e)) (fun n => by
      refine (opd_pn (all_Kp a) n).bd fun pa n1 p1 => (KpO.trans p1 (opd_pn (all_Kp b) n1)).bd fun pb n2 p2 => ?_
      split
      · split
        · exact p2
        · trivial
      · trivial) rfl rfl rfl rfl
end
end Z

set_option Elab.async false
set_option linter.all false
set_option maxRecDepth 100000
set_option maxHeartbeats 8000000
namespace Z
open PySem PySem.Spec PyProof.Rows L2

/-! ## statements: what holds behind them -/
structure StepS (σ : L2.St) (F H : Hp) (n : En) (σ' : L2.St) (F' H' : Hp) (n' : En) : Prop where
  f : Same F F'
  h : ∀ a o, H a = some o → ¬ own σ n a → H' a = some o
  nf : ∀ a o, F' a = some o → F a = some o ∨ H a = none ∨ own σ n a
  ow : ∀ a, own σ' n' a → own σ n a ∨ H a = none
  dom : ∀ a, H' a = none → H a = none
  pn : ∀ i : Nat, isPn n[i]? = true → σ'[i]? = σ[i]? ∧ isPn n'[i]? = true
section
variable {σ σ1 σ2 : L2.St} {F H F1 H1 F2 H2 : Hp} {n n1 n2 : En}
theorem StepS.refl : StepS σ F H n σ F H n := ⟨.refl _, fun _ _ h _ => h, fun _ _ h => .inl h, fun _ h => .inl h, fun _ h => h, fun _ h => ⟨rfl, h⟩⟩
theorem StepS.trans (a : StepS σ F H n σ1 F1 H1 n1) (b : StepS σ1 F1 H1 n1 σ2 F2 H2 n2) : StepS σ F H n σ2 F2 H2 n2 where
  f := a.f.trans b.f
  h := fun x o h no => b.h x o (a.h x o h no) fun w => (a.ow x w).elim no fun z => by rw [h] at z; cases z
  nf := fun x o h => by
    rcases b.nf x o h with q | q | q
    · exact a.nf x o q
    · exact .inr (.inl (a.dom x q))
    · rcases a.ow x q with z | z
      · exact .inr (.inr z)
      · exact .inr (.inl z)
  ow := fun x h => by
    rcases b.ow x h with q | q
    · exact a.ow x q
    · exact .inr (a.dom x q)
  dom := fun x h => a.dom x (b.dom x h)
  pn := fun i h => by
    obtain ⟨h1, h2⟩ := a.pn i h
    obtain ⟨h3, h4⟩ := b.pn i h2
    exact ⟨h3.trans h1, h4⟩
theorem StepS.of (a : Step σ F H n F1 H1 n1) (p : PnE n n1) : StepS σ F H n σ F1 H1 n1 := ⟨a.f, a.h, a.nf, fun x h => .inl (a.ow x h), a.dom, fun i h => ⟨rfl, by rw [p i]; exact h⟩⟩
end
def PoS (k : Ck) (fl : Fl) (σ : L2.St) (F H : Hp) (n : En) (D : Ends) : Prop := match fl with
  | .nx n' => ∀ σ' F' H', SO k.K F' H' σ' n' → StepS σ F H n σ' F' H' n' → D.nx σ' H'
  | .bk n' => ∀ σ' F' H', SO k.K F' H' σ' n' → StepS σ F H n σ' F' H' n' → D.bk σ' H'
  | .ct n' => ∀ σ' F' H', SO k.K F' H' σ' n' → StepS σ F H n σ' F' H' n' → D.ct σ' H'
  | .rt r n' => ∀ v σ' F' H', SO k.K F' H' σ' n' → StepS σ F H n σ' F' H' n' → rvOk k.K H F' H' v r → D.rt v H'
  | .ex c d n' => ∀ cls dd σ' F' H', SO k.K F' H' σ' n' → StepS σ F H n σ' F' H' n' → ExOk k.K k.X9 F' H' c d cls dd → k.W cls dd σ' H'
  | .st => False
def tS (k : Ck) (f : En → Fl) : TS := fun D σ H => ∃ F n, SO k.K F H σ n ∧ PoS k (f n) σ F H n D
section
variable {α β : Type} {ρ : Rho α β} {k : Ck} {σ σ1 : L2.St} {F H F1 H1 : Hp} {n n1 : En} {D : Ends}
theorem rvOk_mono {K : PySem.W.Frag} {H0 H1 F H : Hp} {v : V} {r : R} (h : ∀ a, H1 a = none → H0 a = none) (x : rvOk K H1 F H v r) : rvOk K H0 F H v r := by
  cases r with
  | fr d => exact x
  | nw d => obtain ⟨a, e, m, z⟩ := x; exact ⟨a, e, m, h a z⟩
theorem PoS.shift {fl : Fl} (h : PoS k fl σ F H n D) (t : StepS σ F H n σ1 F1 H1 n1) : PoS k fl σ1 F1 H1 n1 D := by
  cases fl with
  | nx n' => exact fun σ' F' H' s u => h σ' F' H' s (t.trans u)
  | bk n' => exact fun σ' F' H' s u => h σ' F' H' s (t.trans u)
  | ct n' => exact fun σ' F' H' s u => h σ' F' H' s (t.trans u)
  | rt r n' => exact fun v σ' F' H' s u x => h v σ' F' H' s (t.trans u) (rvOk_mono t.dom x)
  | ex c d n' => exact fun cls dd σ' F' H' s u x => h cls dd σ' F' H' s (t.trans u) x
  | st => exact h
/-- an expression, then the rest -/
theorem PoS.of {m : Ou α} {f : α → En → Fl} (kp : KpO n m) (h : PoS k (Fl.of m f) σ F H n D) :
    Po ρ k m σ F H n fun b H1 => ∃ F1 n1 a, SO k.K F1 H1 σ n1 ∧ Step σ F H n F1 H1 n1 ∧ PnE n n1 ∧ ρ.r H F1 H1 σ n1 b a ∧ PoS k (f a n1) σ F H n D := by
  cases m with
  | ok a n1 => exact fun b F1 H1 s t r => ⟨F1, n1, a, s, t, kp, r, h⟩
  | ex c d n' => exact fun cls dd F' H' s t x => h cls dd σ F' H' s (StepS.of t kp) x
  | st => exact h
/-- statements, then the rest -/
theorem PoS.sq {fl : Fl} {g : En → Fl} (h : PoS k (match fl with
    | .nx n1 => g n1
    | .rt v n1 => .rt v n1
    | .bk n1 => .bk n1
    | .ct n1 => .ct n1
    | .ex c d n1 => .ex c d n1
    | .st => .st) σ F H n D) : PoS k fl σ F H n { D with nx := fun σ' H' => tS k g D σ' H' } := by
  cases fl with
  | nx n1 => exact fun σ' F' H' s t => ⟨F', n1, s, PoS.shift h t⟩
  | rt v n1 => exact h
  | bk n1 => exact h
  | ct n1 => exact h
  | ex c d n1 => exact h
  | st => exact h

/-! ## slots that are set -/
theorem getset {α : Type} {l : List α} {i j : Nat} {x t : α} (hi : i < l.length) (e : (l.set i x)[j]? = some t) : (j = i ∧ t = x) ∨ (j ≠ i ∧ l[j]? = some t) := by
  by_cases q : j = i
  · subst q; rw [List.getElem?_set_self hi] at e; exact .inl ⟨rfl, (Option.some.inj e).symm⟩
  · rw [List.getElem?_set_ne (Ne.symm q)] at e; exact .inr ⟨q, e⟩
/-- a name set to what an expression gave; H0: the heap ahead of it -/
theorem put_so {K : PySem.W.Frag} {i : Nat} {v : V} {r : R} {n' : En} {F0 H0 : Hp} {n0 : En} (s0 : SO K F0 H0 σ n0) (s : SO K F H σ n) (t : Step σ F0 H0 n0 F H n) (p : PnE n0 n) (e : putR (.nm i) r n = some n') (x : rvOk K H0 F H v r) :
    SO K F H (σ.set i (some v)) n' ∧ StepS σ F0 H0 n0 (σ.set i (some v)) F H n' := by
  have e : (match n[i]? with
    | some (.pn _) => none
    | some _ => some (n.set i r.sl)
    | none => none) = some n' := e
  obtain ⟨t0, q, np, rfl⟩ : ∃ t0, n[i]? = some t0 ∧ isPn (some t0) = false ∧ n' = n.set i r.sl := by
    cases q : n[i]? with
    | none => rw [q] at e; cases e
    | some t0 =>
      rw [q] at e
      cases t0 with
      | pn _ => cases e
      | un => exact ⟨_, rfl, rfl, (Option.some.inj e).symm⟩
      | fz _ => exact ⟨_, rfl, rfl, (Option.some.inj e).symm⟩
      | ow _ => exact ⟨_, rfl, rfl, (Option.some.inj e).symm⟩
      | er _ _ => exact ⟨_, rfl, rfl, (Option.some.inj e).symm⟩
  have hi : i < n.length := (List.getElem?_eq_some_iff.mp q).1
  have hs : i < σ.length := by rw [← s.len]; exact hi
  have hpn : ∀ j : Nat, isPn n0[j]? = true → (σ.set i (some v))[j]? = σ[j]? ∧ isPn (n.set i r.sl)[j]? = true := fun j hj => by
    have h2 : isPn n[j]? = true := by rw [p j]; exact hj
    have ji : j ≠ i := fun z => by
      subst z
      rw [q, np] at h2; cases h2
    exact ⟨List.getElem?_set_ne (Ne.symm ji), by rw [List.getElem?_set_ne (Ne.symm ji)]; exact h2⟩
  cases r with
  | fr d =>
    obtain ⟨s1, o1⟩ := so_set s hi x
    exact ⟨s1, t.f, t.h, t.nf, fun a o => .inl (t.ow a (o1 a o)), t.dom, hpn⟩
  | nw d =>
    obtain ⟨a, rfl, m, z⟩ := x
    -- the fresh list is none of the owned ones
    have no : ∀ (j : Nat) (u : Sl) (b : Addr), n[j]? = some u → isOwn u → σ[j]? = some (some (V.ref b)) → b ≠ a := fun j u b hj ou hb hab => by
      subst hab
      obtain ⟨_, xs, w⟩ := own_lst s0 (t.ow b ⟨j, u, hj, ou, hb⟩)
      rw [z] at w; cases w
    refine ⟨⟨s.sub, by simp [s.len], fun j u hj => ?_, fun j l u w hjl hj hl ou ow => ?_⟩, t.f, t.h, t.nf, fun b o => ?_, t.dom, hpn⟩
    · rcases getset hi hj with ⟨rfl, rfl⟩ | ⟨hji, hj⟩
      · exact ⟨a, List.getElem?_set_self hs, m⟩
      · rw [List.getElem?_set_ne (Ne.symm hji)]; exact s.sl j u hj
    · rcases getset hi hj with ⟨rfl, rfl⟩ | ⟨hji, hj⟩
      · rcases getset hi hl with ⟨hlj, _⟩ | ⟨hli, hl⟩
        · exact absurd hlj.symm hjl
        · rw [List.getElem?_set_self hs, List.getElem?_set_ne (Ne.symm hli)]
          intro z2
          exact no l w a hl ow z2.symm rfl
      · rcases getset hi hl with ⟨hlj, _⟩ | ⟨hli, hl⟩
        · rw [hlj, List.getElem?_set_self hs, List.getElem?_set_ne (Ne.symm hji)]
          intro z2
          exact no j u a hj ou z2 rfl
        · rw [List.getElem?_set_ne (Ne.symm hji), List.getElem?_set_ne (Ne.symm hli)]
          exact s.ap j l u w hjl hj hl ou ow
    · obtain ⟨j, u, hj, ou, hb⟩ := o
      rcases getset hi hj with ⟨rfl, rfl⟩ | ⟨hji, hj⟩
      · rw [List.getElem?_set_self hs] at hb; cases hb; exact .inr z
      · rw [List.getElem?_set_ne (Ne.symm hji)] at hb
        exact .inl (t.ow b ⟨j, u, hj, ou, hb⟩)
/-- an owned list that is written -/
theorem ownAt_ok {K : PySem.W.Frag} {i : Nat} {ds : List PyData} {kf : List PyData → Sl} (s : SO K F H σ n) (e : ownAt n i = some (ds, kf)) :
    ∃ a xs, σ[i]? = some (some (.ref a)) ∧ F a = none ∧ H a = some (.lst xs) ∧ DzAll K F xs ds ∧ ∀ ys es, DzAll K F ys es → SO K F (upd H a (.lst ys)) σ (n.set i (kf es)) ∧ StepS σ F H n σ F (upd H a (.lst ys)) (n.set i (kf es)) := by
  have main : ∀ (t : Sl), n[i]? = some t → isOwn t → (∀ es, isOwn (kf es)) → (∀ es, isPn (some (kf es)) = isPn (some t)) → (∀ (F H : Hp) o es, (∃ a, o = some (some (V.ref a)) ∧ Mo K F H a (.list es)) → SlOk K F H o (kf es)) → (∃ a, σ[i]? = some (some (.ref a)) ∧ Mo K F H a (.list ds)) →
      ∃ a xs, σ[i]? = some (some (.ref a)) ∧ F a = none ∧ H a = some (.lst xs) ∧ DzAll K F xs ds ∧ ∀ ys es, DzAll K F ys es → SO K F (upd H a (.lst ys)) σ (n.set i (kf es)) ∧ StepS σ F H n σ F (upd H a (.lst ys)) (n.set i (kf es)) := by
    rintro t ht ot ok pk mk ⟨a, ha, m0, ds', xs, e1, m1, m2⟩
    cases e1
    have hi : i < n.length := (List.getElem?_eq_some_iff.mp ht).1
    refine ⟨a, xs, ha, m0, m1, m2, fun ys es hd => ?_⟩
    have oa : own σ n a := ⟨i, t, ht, ot, ha⟩
    have back : ∀ {j : Nat} {u : Sl}, (n.set i (kf es))[j]? = some u → isOwn u → ∃ w, n[j]? = some w ∧ isOwn w := fun {j u} hj ou => by
      rcases getset hi hj with ⟨rfl, _⟩ | ⟨_, hj⟩
      · exact ⟨t, ht, ot⟩
      · exact ⟨u, hj, ou⟩
    refine ⟨⟨fun b o q => ?_, by rw [List.length_set, s.len], fun j u hj => ?_, fun j l u w hjl hj hl ou ow => ?_⟩, .refl _, fun b o q no => ?_, fun b o q => .inl q, fun b o => ?_, fun b q => ?_, fun j hj => ⟨rfl, ?_⟩⟩
    · rw [upd_ne (show b ≠ a from fun z => by rw [z, m0] at q; cases q)]; exact s.sub b o q
    · rcases getset hi hj with ⟨rfl, rfl⟩ | ⟨hji, hj⟩
      · exact mk _ _ _ _ ⟨a, ha, m0, es, ys, rfl, upd_same, hd⟩
      · have y := s.sl j u hj
        have mo : ∀ {b d}, isOwn u → σ[j]? = some (some (V.ref b)) → Mo K F H b d → Mo K F (upd H a (.lst ys)) b d := by
          rintro b d ou hb ⟨k0, fs, zs, rfl, k1, k2⟩
          refine ⟨k0, fs, zs, rfl, ?_, k2⟩
          rw [upd_ne (show b ≠ a from fun z => s.ap j i u t hji hj ht ou ot (by rw [hb, ha, z]))]
          exact k1
        cases u with
        | un => trivial
        | fz d => exact y
        | ow d => obtain ⟨b, y1, y2⟩ := y; exact ⟨b, y1, mo trivial y1 y2⟩
        | pn d => obtain ⟨b, y1, y2⟩ := y; exact ⟨b, y1, mo trivial y1 y2⟩
        | er c d => exact y
    · obtain ⟨u', h1, o1⟩ := back hj ou
      obtain ⟨w', h2, o2⟩ := back hl ow
      exact s.ap j l u' w' hjl h1 h2 o1 o2
    · rw [upd_ne (show b ≠ a from fun z => no (z ▸ oa))]; exact q
    · obtain ⟨j, u, hj, ou, hb⟩ := o
      obtain ⟨u', h1, o1⟩ := back hj ou
      exact .inl ⟨j, u', h1, o1, hb⟩
    · by_cases z : b = a
      · subst z; rw [upd_same] at q; cases q
      · rw [upd_ne z] at q; exact q
    · by_cases z : j = i
      · subst z; rw [List.getElem?_set_self hi, pk, ← ht]; exact hj
      · rw [List.getElem?_set_ne (Ne.symm z)]; exact hj
  unfold ownAt at e
  split at e
  · rename_i ds' q
    cases e
    exact main _ q trivial (fun _ => trivial) (fun _ => rfl) (fun _ _ _ _ h => h) (s.sl i _ q)
  · rename_i ds' q
    cases e
    exact main _ q trivial (fun _ => trivial) (fun _ => rfl) (fun _ _ _ _ h => h) (s.sl i _ q)
  · cases e
theorem StepS.val (a : StepS σ F H n σ1 F1 H1 n1) {K : PySem.W.Frag} {F2 H2 : Hp} {v : V} {r : R} (x : rvOk K H1 F2 H2 v r) : rvOk K H F2 H2 v r := rvOk_mono a.dom x
/-- a value that is kept in a list is frozen -/
theorem frzS {K : PySem.W.Frag} {r : R} {v : V} {F0 H0 : Hp} {n0 : En} (s0 : SO K F0 H0 σ n0) (s : SO K F H σ n) (t : Step σ F0 H0 n0 F H n) (x : rvOk K H0 F H v r) : ∃ F2, SO K F2 H σ n ∧ Step σ F0 H0 n0 F2 H n ∧ Dz K F2 v r.d := by
  cases r with
  | fr d => exact ⟨F, s, t, x⟩
  | nw d =>
    obtain ⟨a, rfl, m, z⟩ := x
    obtain ⟨F2, s2, t2, d2, _⟩ := frz_so (k := ⟨K, fun _ => (0, ⟨#[]⟩), fun _ _ _ _ => False⟩) s0 s t m z
    exact ⟨F2, s2, t2, d2⟩
theorem StepS.put {K : PySem.W.Frag} {t : Tg} {d : PyData} {n' : En} {σ' : L2.St} (e : t.put d n = some n') (ho : ∀ a, own σ' n' a → own σ n a) (hk : ∀ j : Nat, j ∉ t.slots → σ'[j]? = σ[j]? ∧ n'[j]? = n[j]?) (hf : ∀ j : Nat, j ∈ t.slots → ∃ d, n'[j]? = some (.fz d)) : StepS σ F H n σ' F H n' :=
  ⟨.refl _, fun _ _ h _ => h, fun _ _ h => .inl h, fun a o => .inl (ho a o), fun _ h => h, fun j hj => by
    by_cases q : j ∈ t.slots
    · have p := put_pn e j
      obtain ⟨d', hd⟩ := hf j q
      rw [hd] at p
      rw [hj] at p; cases p
    · obtain ⟨h1, h2⟩ := hk j q
      exact ⟨h1, by rw [h2]; exact hj⟩⟩
end
end Z

set_option Elab.async false
set_option linter.all false
set_option maxRecDepth 100000
set_option maxHeartbeats 8000000
namespace Z
open PySem PySem.Spec PyProof.Rows L2

/-! ## what stands in an except suite -/
/-- what the classes' part of the heap says; rc: the base of all; cv: a class as a value -/
structure XF (K : PySem.W.Frag) (X9 : Nat → Addr × Str) (rc : Addr) (cv : Nat → Value) : Prop where
  at_ : ∀ c, (X9 c).2 ≠ ⟨#[]⟩ → (X9 c).2 = atN c
  xf : ∀ c, (X9 c).2 ≠ ⟨#[]⟩ → XfC K (X9 c).1
  no : ∀ c, (X9 c).2 ≠ ⟨#[]⟩ → PySem.W.findIn K (.ref (X9 c).1) (atN c) = some none
  exm : ∀ c, (X9 c).2 ≠ ⟨#[]⟩ → PySem.W.exmOne K (.ref (X9 c).1) (.ref rc) = some true
  kit : ∀ c j, (X9 c).2 ≠ ⟨#[]⟩ → (10 ≤ j ∨ (X9 j).2 ≠ ⟨#[]⟩) → PySem.W.kitOne K (.ref (X9 c).1) (cv j) = some (sbC c j)
  exc : ∀ c, (X9 c).2 ≠ ⟨#[]⟩ → ExcC K (X9 c).1
structure Ch where
  e : PySem.Expr → Bool
  t : PySem.Expr → Bool
def Ch.pl (f : PySem.Expr → Bool) : Ch := ⟨f, fun c => plainT c && f c⟩
def ckH (nx : Nx) (sc : Scope) (i : Nat) : HE → Ch
  | .rsn f => .pl fun
    | .Attribute o g _ => decide (f = g) && nameB nx sc i o
    | _ => false
  | .cst d => .pl (constB d)
  | .isI j => .pl fun
    | .Call (.Name f _) [o, .Name g _] [] _ => decide (f = "isinstance") && (glB sc f && (nameB nx sc i o && (glB sc g && (decide (g ≠ "__name__") && (if j = 11 then decide (g = "ValueError") else decide (nx.xc j = some g))))))
    | _ => false
  | .and a b => ⟨fun
    | .BoolOp .And [x, y] _ => (ckH nx sc i a).e x && (ckH nx sc i b).e y
    | _ => false, fun
    | .BoolOp .And [x, y] _ => (ckH nx sc i a).t x && (ckH nx sc i b).t y
    | _ => false⟩
  | .or a b => ⟨fun
    | .BoolOp .Or [x, y] _ => (ckH nx sc i a).e x && (ckH nx sc i b).e y
    | _ => false, fun
    | .BoolOp .Or [x, y] _ => (ckH nx sc i a).t x && (ckH nx sc i b).t y
    | _ => false⟩
  | .not a => ⟨fun
    | .UnaryOp .Not x _ => (ckH nx sc i a).e x
    | _ => false, fun
    | .UnaryOp .Not x _ => (ckH nx sc i a).t x
    | _ => false⟩
  | .ife t a b => .pl fun
    | .IfExp c x y _ => (ckH nx sc i t).t c && ((ckH nx sc i a).e x && (ckH nx sc i b).e y)
    | _ => false
  | .add a b => .pl fun
    | .BinOp x op y _ => decide (op = .Add) && ((ckH nx sc i a).e x && (ckH nx sc i b).e y)
    | _ => false
  | .eq a b => ⟨fun
    | .Compare x [op] [y] _ => decide (op = .Eq) && (noSet y && ((ckH nx sc i a).e x && (ckH nx sc i b).e y))
    | _ => false, fun
    | .Compare x [op] [y] _ => decide (op = .Eq) && (noSet y && ((ckH nx sc i a).e x && (ckH nx sc i b).e y))
    | _ => false⟩
section
variable {nx : Nx} {X : Cx} {X9 : Nat → Addr × Str} {rc : Addr} {cv : Nat → Value} {a : Addr} {oe : Obj} {cls : Value} {dd : Option Addr} {pn : List (Addr × Obj)} {i : Nat}
def tH (K : PySem.W.Frag) (X9 : Nat → Addr × Str) (i : Nat) (a : Addr) (cls : Value) (dd : Option Addr) (h : HE) : TE := fun σ H Q => ∃ F c d r, σ[i]? = some (some (.ref a)) ∧ Same F H ∧ ExOk K X9 F H c d cls dd ∧ hv c d h = some r ∧ ∀ v F' H', Ext F H F' H' → Dz K F' v r → Q v H'
theorem exOk_ext {K : PySem.W.Frag} {F H F' H' : Hp} {c : Nat} {d : D} (e : Ext F H F' H') (x : ExOk K X9 F H c d cls dd) : ExOk K X9 F' H' c d cls dd := by
  obtain ⟨h1, b, v, h2, h3, h4, h5⟩ := x
  exact ⟨h1, b, v, h2, e.h _ _ h3, dp_mono e.f h4, h5⟩
theorem Ext.trans {F H F1 H1 F2 H2 : Hp} (a : Ext F H F1 H1) (b : Ext F1 H1 F2 H2) : Ext F H F2 H2 := ⟨a.f.trans b.f, a.h.trans b.h, fun x o q => by
  rcases b.nf x o q with z | z
  · exact a.nf x o z
  · refine .inr ?_
    cases w : H x with
    | none => rfl
    | some u => exact absurd z (by rw [a.h x u w]; exact fun y => by cases y), b.sub⟩
/-- isinstance of the caught error -/
theorem call_isD {C : Addr} (E : ExcC X.K C) (hz : Zc (.ref C) dd oe) (hf : ∃ vs, oe.data = .fields vs) : CallR (X.suite a ((a, oe) :: pn)) (.builtin "isinstance") (fun xs H Q => ∃ (c : V) (w : Value) (b : Bool) (d : Addr) (fs : List (Str × V)), dd = some d ∧ H d = some (.xd fs) ∧ xs = [.ref a, c] ∧ (∀ u, RelV c u → u = w) ∧ PySem.W.kitOne X.K (.ref C) w = some b ∧ Q (.bl b) H) := by
  intro pins s σ H xs us Q I r h
  obtain ⟨c, w, b, d, fs, rfl, hd, rfl, hcv, e, q⟩ := h
  obtain ⟨u1, u2, rfl, r1, r2⟩ := vals2 r
  obtain rfl : u1 = Value.ref a := r1
  obtain rfl := hcv _ r2
  obtain ⟨hget, _⟩ := I.pin (a, oe) (List.mem_append.mpr (.inl List.mem_cons_self))
  obtain ⟨vs, hv⟩ := hf
  have hx : ObjOk X.prog X.w H s.heap d (.xd fs) := I.hok d _ hd
  obtain ⟨mA, hns, _⟩ := hx
  obtain ⟨od, ho, _⟩ := lookIn_ns hns
  have J : PySem.W.InstAt s.heap a oe C (some od) := ⟨hget, hz.1, by unfold PySem.W.notCls; rw [hv] <;> rfl, by rw [hz.2]; exact ho⟩
  have cs : (PySem.W.clsIn X.K C).isSome = true := by
    obtain ⟨cd, hc, _⟩ := PySem.W.any_some E.hd
    rw [hc]; rfl
  exact PySem.W.kia_one (PySem.W.kitx_exc cs E.hg E.hk E.hs E.ha E.hn E.ht E.hm) I.kIn J e (fun z => nomatch z) fun tk => ⟨.bl b, H, I.kept (t' := tk) fun _ _ z => z, rfl, q⟩
/-- what a suite knows -/
structure Su (nx : Nx) (X9 : Nat → Addr × Str) (rc : Addr) (cv : Nat → Value) (X : Cx) : Prop where
  eN : X.N = nx.N
  un : X.A.units + 65 < cLine
  xf : XF X.K X9 rc cv
  isi : X.mg "isinstance" = none
  ve : X.mg "ValueError" = none
  cvV : cv 11 = .type "ValueError"
  nm : ∀ j x, nx.xc j = some x → j ≠ 11 → X.mg x = some (cv j) ∧ (∃ b, cv j = .ref b) ∧ (j = 10 ∨ (X9 j).2 ≠ ⟨#[]⟩)
theorem h_ext {K : PySem.W.Frag} {h : HE} {σ : L2.St} {H : Hp} {Q : VK} {F : Hp} {c : Nat} {d r : D} (h1 : σ[i]? = some (some (.ref a))) (h2 : Same F H) (h3 : ExOk K X9 F H c d cls dd) (h4 : hv c d h = some r) (h5 : ∀ v F' H', Ext F H F' H' → Dz K F' v r → Q v H') : tH K X9 i a cls dd h σ H Q :=
  ⟨F, c, d, r, h1, h2, h3, h4, h5⟩
theorem h_name (S : Su nx X9 rc cv X) {o : PySem.Expr} (h : nameB nx X.env.scope i o = true) : PE (X.suite a ((a, oe) :: pn)) o (tVar i) := by
  cases o <;> try (cases h; done)
  rename_i x pos
  obtain ⟨h1, h2⟩ := ba (show (decide (nx.N[i]? = some x) && visB X.env.scope x) = true from h)
  obtain ⟨v, d1, d2⟩ := vis_ok (X := X) h2
  exact pe_var (X := X.suite a ((a, oe) :: pn)) (by show X.N[i]? = _; rw [S.eN]; exact of_decide_eq_true h1) v d1 d2
structure Hj (nx : Nx) (X9 : Nat → Addr × Str) (X : Cx) (a : Addr) (oe : Obj) (cls : Value) (dd : Option Addr) (pn : List (Addr × Obj)) (i : Nat) (h : HE) : Prop where
  e : ∀ x, (ckH nx X.env.scope i h).e x = true → PE (X.suite a ((a, oe) :: pn)) x (tH X.K X9 i a cls dd h)
  t : ∀ x, (ckH nx X.env.scope i h).t x = true → PT (X.suite a ((a, oe) :: pn)) x (tB (tH X.K X9 i a cls dd h))
theorem Hj.pl {h : HE} {f : PySem.Expr → Bool} (e1 : ckH nx X.env.scope i h = .pl f) (g : ∀ x, f x = true → PE (X.suite a ((a, oe) :: pn)) x (tH X.K X9 i a cls dd h)) : Hj nx X9 X a oe cls dd pn i h :=
  ⟨fun x q => g x (by rw [e1] at q; exact q), fun x q => by
    rw [e1] at q
    obtain ⟨q1, q2⟩ := ba q
    exact pt_val (g x q2) (isTrue_ok q1)⟩
theorem tB_and {K : PySem.W.Frag} {x y : HE} {σ : L2.St} {H : Hp} {Q : Bool → Hp → Prop} (q : tB (tH K X9 i a cls dd (.and x y)) σ H Q) : tAnd (tB (tH K X9 i a cls dd x)) (tB (tH K X9 i a cls dd y)) σ H Q := by
  obtain ⟨F, c, d, r, e1, e2, e3, e4, q⟩ := q
  have e4 : (match hv c d x with
    | some (.bool true) => hv c d y
    | some (.bool false) => some (.bool false)
    | _ => none) = some r := e4
  split at e4
  · rename_i z
    refine h_ext e1 e2 e3 z fun v F' H' ex dv => ?_
    cases dv
    exact ⟨true, rfl, by dsimp only; rw [if_pos rfl]; exact h_ext e1 ex.sub (exOk_ext ex e3) e4 fun v F2 H2 ex2 dv => q v F2 H2 (ex.trans ex2) dv⟩
  · rename_i z
    cases e4
    refine h_ext e1 e2 e3 z fun v F' H' ex dv => ?_
    cases dv
    obtain ⟨b, e, q⟩ := q (.bl false) F' H' ex (.bl _)
    cases e
    exact ⟨false, rfl, by dsimp only; rw [if_neg Bool.false_ne_true]; exact q⟩
  · cases e4
theorem tB_or {K : PySem.W.Frag} {x y : HE} {σ : L2.St} {H : Hp} {Q : Bool → Hp → Prop} (q : tB (tH K X9 i a cls dd (.or x y)) σ H Q) : tOr (tB (tH K X9 i a cls dd x)) (tB (tH K X9 i a cls dd y)) σ H Q := by
  obtain ⟨F, c, d, r, e1, e2, e3, e4, q⟩ := q
  have e4 : (match hv c d x with
    | some (.bool false) => hv c d y
    | some (.bool true) => some (.bool true)
    | _ => none) = some r := e4
  split at e4
  · rename_i z
    refine h_ext e1 e2 e3 z fun v F' H' ex dv => ?_
    cases dv
    exact ⟨false, rfl, by dsimp only; rw [if_neg Bool.false_ne_true]; exact h_ext e1 ex.sub (exOk_ext ex e3) e4 fun v F2 H2 ex2 dv => q v F2 H2 (ex.trans ex2) dv⟩
  · rename_i z
    cases e4
    refine h_ext e1 e2 e3 z fun v F' H' ex dv => ?_
    cases dv
    obtain ⟨b, e, q⟩ := q (.bl true) F' H' ex (.bl _)
    cases e
    exact ⟨true, rfl, by dsimp only; rw [if_pos rfl]; exact q⟩
  · cases e4
theorem tB_not {K : PySem.W.Frag} {x : HE} {σ : L2.St} {H : Hp} {Q : Bool → Hp → Prop} (q : tB (tH K X9 i a cls dd (.not x)) σ H Q) : tNot (tB (tH K X9 i a cls dd x)) σ H Q := by
  obtain ⟨F, c, d, r, e1, e2, e3, e4, q⟩ := q
  have e4 : (match hv c d x with
    | some (.bool b) => some (.bool (!b))
    | _ => none) = some r := e4
  split at e4
  · rename_i b z
    cases e4
    refine h_ext e1 e2 e3 z fun v F' H' ex dv => ?_
    cases dv
    obtain ⟨b', e, q⟩ := q (.bl (!b)) F' H' ex (.bl _)
    cases e
    exact ⟨b, rfl, q⟩
  · cases e4
theorem h_eq {K : PySem.W.Frag} {x y : HE} {σ : L2.St} {H : Hp} {Q : VK} (q : tH K X9 i a cls dd (.eq x y) σ H Q) : tOp (rCmp K .eq) (tH K X9 i a cls dd x) (tH K X9 i a cls dd y) σ H Q := by
  obtain ⟨F, c, d, r, e1, e2, e3, e4, q⟩ := q
  have e4 : (match hv c d x, hv c d y with
    | some x, some y => if SeqAt.shaped x && SeqAt.shaped y then some (.bool (PyData.eqv x y)) else none
    | _, _ => none) = some r := e4
  split at e4
  · rename_i u w zu zw
    obtain ⟨e5, e6⟩ := ite_some e4
    subst e6
    refine h_ext e1 e2 e3 zu fun v F' H' ex dv => ?_
    refine h_ext e1 ex.sub (exOk_ext ex e3) zw fun v2 F2 H2 ex2 dv2 => ?_
    refine ⟨F2, u, w, PyData.eqv u w, ex2.sub, .inl (dp_mono ex2.f dv), .inl dv2, (by show (if _ then _ else _) = _; rw [if_pos e5]), ?_⟩
    exact q _ F2 H2 (ex.trans ex2) (.bl _)
  · cases e4
theorem he_ok (S : Su nx X9 rc cv X) (hz : Zc cls dd oe) (hf : ∃ vs, oe.data = .fields vs) : ∀ (h : HE), Hj nx X9 X a oe cls dd pn i h
  | .rsn f => .pl rfl fun e h => by
    cases e <;> try (cases h; done)
    rename_i o g pos
    obtain ⟨h1, h2⟩ := ba (show (decide (f = g) && nameB nx X.env.scope i o) = true from h)
    have := of_decide_eq_true h1
    subst this
    refine ⟨fun pins s σ H Q I q => ?_⟩
    obtain ⟨F, c, d, r, e1, e2, ⟨rfl, b, v, rfl, e5, e6, pr⟩, e7, q⟩ := q
    have e7 : (if f = atN c then some d else none) = some r := e7
    by_cases e8 : f = atN c
    case neg => rw [if_neg e8] at e7; cases e7
    rw [if_pos e8] at e7
    cases e7
    subst e8
    have hb : attributeBase o (atN c) X.env (eval o X.env) = eval o X.env := by
      cases o <;> first | rfl | (cases h2; done)
    refine (pe_xf (X := X) (pn := pn) (S.xf.xf c pr) (S.xf.no c pr) hz hf (h_name (oe := oe) (a := a) (pn := pn) S h2) hb).run pins s σ H Q I ⟨.ref a, e1, rfl, rfl, b, _, v, rfl, e5, ?_, q v F H (Ext.refl e2) e6⟩
    rw [S.xf.at_ c pr]
    simp [List.lookup]
  | .cst d => .pl rfl fun e h => by
    refine PE.imp (z_cst (X := X.suite a ((a, oe) :: pn)) (X9 := X9) (W := fun _ _ _ _ => False) (show constB d e = true from h)) ?_
    rintro σ H Q ⟨F, c, d', r, e1, e2, e3, e4, q⟩
    have e4 : some d = some r := e4
    cases e4
    refine ⟨F, List.replicate σ.length .un, ⟨e2, by simp, fun j t ht => ?_, fun j l t u _ hj _ ot _ => ?_⟩, fun v F' H' s t x => ?_⟩
    · have := List.mem_of_getElem? ht
      rw [(List.mem_replicate.mp this).2]; trivial
    · have := List.mem_of_getElem? hj
      rw [(List.mem_replicate.mp this).2] at ot; exact ot.elim
    · have no : ∀ b, ¬ own σ (List.replicate σ.length Sl.un) b := fun b ⟨j, t, hj, ot, _⟩ => by
        have := List.mem_of_getElem? hj
        rw [(List.mem_replicate.mp this).2] at ot; exact ot.elim
      refine q v F' H' ⟨t.f, fun b o ho => t.h b o ho (no b), fun b o ho => ?_, s.sub⟩ x
      rcases t.nf b o ho with z | z | z
      · exact .inl z
      · exact .inr z
      · exact absurd z (no b)
  | .isI j => .pl rfl fun e h => by
    split at h
    · rename_i f fp o g gp pos
      obtain ⟨h1, h⟩ := ba h
      obtain ⟨h2, h⟩ := ba h
      obtain ⟨h3, h⟩ := ba h
      obtain ⟨h4, h⟩ := ba h
      obtain ⟨h5, h6⟩ := ba h
      have e1 := of_decide_eq_true h1
      subst e1
      refine ⟨fun pins s σ H Q I q => ?_⟩
      obtain ⟨F, c, d, r, e1, e2, ⟨rfl, b, v, rfl, e5, e6, pr⟩, e7, q⟩ := q
      have e7 : some (PyData.bool (sbC c j)) = some r := e7
      cases e7
      -- the class that is asked
      have pg : (10 ≤ j ∨ (X9 j).2 ≠ ⟨#[]⟩) ∧ ∃ w, (∀ u, RelV w u → u = cv j) ∧ PE (X.suite a ((a, oe) :: pn)) (.Name g gp) (tC w) := by
        obtain ⟨gg, gd⟩ := gl_ok (X := X) h4
        by_cases hj : j = 11
        · rw [if_pos hj] at h6
          have := of_decide_eq_true h6
          subst this
          subst hj
          refine ⟨.inl (by omega), .ty "ValueError", fun u r => ?_, pe_bltn (X := X.suite a ((a, oe) :: pn)) gg S.ve (u := .type "ValueError") (by decide +kernel) rfl (of_decide_eq_true h5) gd⟩
          rw [S.cvV]; exact r
        · rw [if_neg hj] at h6
          obtain ⟨m1, ⟨b2, m2⟩, m3⟩ := S.nm j g (of_decide_eq_true h6) hj
          exact ⟨m3.imp_left fun z => by omega, .ref b2, fun u r => (show u = Value.ref b2 from r).trans m2.symm, pe_glob (X := X.suite a ((a, oe) :: pn)) gg (by rw [m2] at m1; exact m1) rfl gd⟩
      obtain ⟨prj, w, hw, pw⟩ := pg
      have st : notStar o = true := by cases o <;> first | rfl | (cases h3; done)
      obtain ⟨ig, idb⟩ := gl_ok (X := X) h2
      refine (pe_callB (X := X.suite a ((a, oe) :: pn)) (call_isD (X := X) (S.xf.exc c pr) hz hf) ig S.isi (by decide +kernel) (pa_cons (h_name S h3) (pa_cons pw pa_nil (by rfl)) (star_ok st)) (by decide) idb (star_ok st) (by rfl)).run pins s σ H Q I ?_
      exact ⟨.ref a, e1, w, cv j, sbC c j, b, _, rfl, e5, rfl, hw, S.xf.kit c j pr prj, q _ F H (Ext.refl e2) (.bl _)⟩
    · cases h
  | .and x y => by
   refine ⟨fun e h => ?_, fun e h => ?_⟩
   · dsimp only [ckH] at h
     split at h
     · obtain ⟨h1, h2⟩ := ba h
       refine PE.imp (pe_and ((he_ok S hz hf x).e _ h1) (pe_one ((he_ok S hz hf y).e _ h2))) ?_
       rintro σ H Q ⟨F, c, d, r, e1, e2, e3, e4, q⟩
       have e4 : (match hv c d x with
         | some (.bool true) => hv c d y
         | some (.bool false) => some (.bool false)
         | _ => none) = some r := e4
       split at e4
       · rename_i z
         refine h_ext e1 e2 e3 z fun v F' H' ex dv => ?_
         cases dv
         exact ⟨true, rfl, by rw [if_pos rfl]; exact h_ext e1 ex.sub (exOk_ext ex e3) e4 fun v F2 H2 ex2 dv => q v F2 H2 (ex.trans ex2) dv⟩
       · rename_i z
         cases e4
         refine h_ext e1 e2 e3 z fun v F' H' ex dv => ?_
         cases dv
         exact ⟨false, rfl, by rw [if_neg Bool.false_ne_true]; exact q _ F' H' ex (.bl _)⟩
       · cases e4
     · cases h
   · dsimp only [ckH] at h
     split at h
     · obtain ⟨h1, h2⟩ := ba h
       exact PT.imp (pw_and ((he_ok S hz hf x).t _ h1) (pw_and1 ((he_ok S hz hf y).t _ h2))).pt fun σ H Q q => tB_and q
     · cases h
  | .or x y => by
   refine ⟨fun e h => ?_, fun e h => ?_⟩
   · dsimp only [ckH] at h
     split at h
     · obtain ⟨h1, h2⟩ := ba h
       refine PE.imp (pe_or ((he_ok S hz hf x).e _ h1) (pe_one ((he_ok S hz hf y).e _ h2))) ?_
       rintro σ H Q ⟨F, c, d, r, e1, e2, e3, e4, q⟩
       have e4 : (match hv c d x with
         | some (.bool false) => hv c d y
         | some (.bool true) => some (.bool true)
         | _ => none) = some r := e4
       split at e4
       · rename_i z
         refine h_ext e1 e2 e3 z fun v F' H' ex dv => ?_
         cases dv
         exact ⟨false, rfl, by rw [if_neg Bool.false_ne_true]; exact h_ext e1 ex.sub (exOk_ext ex e3) e4 fun v F2 H2 ex2 dv => q v F2 H2 (ex.trans ex2) dv⟩
       · rename_i z
         cases e4
         refine h_ext e1 e2 e3 z fun v F' H' ex dv => ?_
         cases dv
         exact ⟨true, rfl, by rw [if_pos rfl]; exact q _ F' H' ex (.bl _)⟩
       · cases e4
     · cases h
   · dsimp only [ckH] at h
     split at h
     · obtain ⟨h1, h2⟩ := ba h
       exact PT.imp (pw_or ((he_ok S hz hf x).t _ h1) (pw_or1 ((he_ok S hz hf y).t _ h2))).pt fun σ H Q q => tB_or q
     · cases h
  | .not x => by
   refine ⟨fun e h => ?_, fun e h => ?_⟩
   · dsimp only [ckH] at h
     split at h
     · refine PE.imp (pe_not ((he_ok S hz hf x).e _ h)) ?_
       rintro σ H Q ⟨F, c, d, r, e1, e2, e3, e4, q⟩
       have e4 : (match hv c d x with
         | some (.bool b) => some (.bool (!b))
         | _ => none) = some r := e4
       split at e4
       · rename_i b z
         cases e4
         refine h_ext e1 e2 e3 z fun v F' H' ex dv => ?_
         cases dv
         exact ⟨b, rfl, q _ F' H' ex (.bl _)⟩
       · cases e4
     · cases h
   · dsimp only [ckH] at h
     split at h
     · exact PT.imp (pt_not ((he_ok S hz hf x).t _ h)) fun σ H Q q => tB_not q
     · cases h
  | .ife t x y => .pl rfl fun e h => by
    split at h
    · rename_i c0 x0 y0 pos
      obtain ⟨h2, h⟩ := ba h
      obtain ⟨h3, h4⟩ := ba h
      refine PE.imp (pe_ifExp ((he_ok S hz hf t).t _ h2) ((he_ok S hz hf x).e _ h3) ((he_ok S hz hf y).e _ h4)) ?_
      rintro σ H Q ⟨F, c, d, r, e1, e2, e3, e4, q⟩
      have e4 : (match hv c d t with
        | some (.bool true) => hv c d x
        | some (.bool false) => hv c d y
        | _ => none) = some r := e4
      split at e4
      · rename_i z
        refine h_ext e1 e2 e3 z fun v F' H' ex dv => ?_
        cases dv
        exact ⟨true, rfl, by dsimp only; rw [if_pos rfl]; exact h_ext e1 ex.sub (exOk_ext ex e3) e4 fun v F2 H2 ex2 dv => q v F2 H2 (ex.trans ex2) dv⟩
      · rename_i z
        refine h_ext e1 e2 e3 z fun v F' H' ex dv => ?_
        cases dv
        exact ⟨false, rfl, by dsimp only; rw [if_neg Bool.false_ne_true]; exact h_ext e1 ex.sub (exOk_ext ex e3) e4 fun v F2 H2 ex2 dv => q v F2 H2 (ex.trans ex2) dv⟩
      · cases e4
    · cases h
  | .add x y => .pl rfl fun e h => by
    split at h
    · obtain ⟨h1, h⟩ := ba h
      obtain ⟨h2, h3⟩ := ba h
      have := of_decide_eq_true h1
      subst this
      refine PE.imp (pe_op (op_bin (X := X.suite a ((a, oe) :: pn)) .add) ((he_ok S hz hf x).e _ h2) ((he_ok S hz hf y).e _ h3)) ?_
      rintro σ H Q ⟨F, c, d, r, e1, e2, e3, e4, q⟩
      have e4 : (match hv c d x, hv c d y with
        | some (.str x), some (.str y) => if fitL (x.length + y.length) then some (.str (x ++ y)) else none
        | _, _ => none) = some r := e4
      split at e4
      · rename_i u w zu zw
        obtain ⟨e5, e6⟩ := ite_some e4
        subst e6
        refine h_ext e1 e2 e3 zu fun v F' H' ex dv => ?_
        refine h_ext e1 ex.sub (exOk_ext ex e3) zw fun v2 F2 H2 ex2 dv2 => ?_
        refine ⟨F2, _, _, _, ex2.sub, .inl (dp_mono ex2.f dv), .inl dv2, (show binD .add (.str u) (.str w) = some (.fr (.str (u ++ w))) by show (if _ then _ else _) = _; rw [if_pos e5]), fun v3 F3 H3 ex3 x3 => ?_⟩
        exact q v3 F3 H3 ((ex.trans ex2).trans ex3) x3
      · cases e4
    · cases h
  | .eq x y => by
    have inv : ∀ e, (ckH nx X.env.scope i (.eq x y)).e e = true → ∃ u w pos, e = .Compare u [.Eq] [w] pos ∧ noSet w = true ∧ (ckH nx X.env.scope i x).e u = true ∧ (ckH nx X.env.scope i y).e w = true := by
      intro e h
      dsimp only [ckH] at h
      split at h
      · obtain ⟨h1, h⟩ := ba h
        obtain ⟨h2, h⟩ := ba h
        obtain ⟨h3, h4⟩ := ba h
        have := of_decide_eq_true h1
        subst this
        exact ⟨_, _, _, rfl, h2, h3, h4⟩
      · cases h
    refine ⟨fun e h => ?_, fun e h => ?_⟩
    · obtain ⟨u, w, pos, rfl, h2, h3, h4⟩ := inv e h
      exact PE.imp (pe_cmpR (op_cmp (X := X.suite a ((a, oe) :: pn)) S.un .eq) ((he_ok S hz hf x).e _ h3) ((he_ok S hz hf y).e _ h4) (mark_ok h2)) fun σ H Q q => h_eq q
    · obtain ⟨u, w, pos, rfl, h2, h3, h4⟩ := inv e h
      exact PT.imp (pt_cmpR (op_cmp (X := X.suite a ((a, oe) :: pn)) S.un .eq) ((he_ok S hz hf x).e _ h3) ((he_ok S hz hf y).e _ h4) (mark_ok h2)) fun σ H Q q => h_eq q
end
end Z

set_option Elab.async false
set_option linter.all false
set_option maxRecDepth 100000
set_option maxHeartbeats 8000000
namespace Z
open PySem PySem.Spec PyProof.Rows L2

/-! ## the text of statements -/
structure Cst where
  s : PySem.Stmt → Bool
  l : List PySem.Stmt → Bool
def Cst.one (f : PySem.Stmt → Bool) : Cst := ⟨f, fun _ => false⟩
def plainR : PySem.Expr → Bool
  | .ListComp _ _ _ _ => false
  | .SetComp _ _ _ _ => false
  | .DictComp _ _ _ _ _ => false
  | _ => true
def noTup : PySem.Expr → Bool
  | .Tuple _ _ _ => false
  | _ => true
/-- a name's store: of a plain value, of a list comprehension where the name is a local on the same line, or a cell -/
def setB (sc : Scope) (py : Pos) (x : Str) (e : PySem.Expr) : Bool := plainR e || (match e with
  | .ListComp _ _ cs pos => (kB sc x .local && ((py.line == pos.line) && !(cs.names.any fun (n, k) => n == x && (k == .local || k == .cell)))) || kB sc x .cell
  | _ => false)
def ckS (nx : Nx) (sc : Scope) : S → Cst
  | .rest => ⟨fun _ => true, fun _ => true⟩
  | .nil => ⟨fun _ => false, fun sts => sts.isEmpty⟩
  | .cons s r => ⟨fun _ => false, fun
    | st :: sts => (ckS nx sc s).s st && (ckS nx sc r).l sts
    | [] => false⟩
  | .doc => .one fun
    | .Expr (.Constant (.str _) _ _) _ => true
    | _ => false
  | .pass => .one fun
    | .Pass _ => true
    | _ => false
  | .brk => .one fun
    | .Break _ => true
    | _ => false
  | .cnt => .one fun
    | .Continue _ => true
    | _ => false
  | .ret a => .one fun
    | .Return (some e) _ => (ck nx a sc).e e
    | _ => false
  | .retN => .one fun
    | .Return none _ => true
    | _ => false
  | .set t a => .one fun
    | .Assign [tg] e _ => (ck nx a sc).e e && (tgB nx (locB sc) t tg && (match tg with
      | .Name x p => setB sc p x e
      | _ => plainR e && noTup e))
    | _ => false
  | .setI i ix v => .one fun
    | .Assign [.Subscript o ie _] e _ => (ck nx v sc).e e && (nameB nx sc i o && ((ck nx ix sc).o ie && (plainR e && plainIx ie)))
    | _ => false
  | .app i a => .one fun
    | .Expr (.Call (.Attribute o m apos) [e] [] cpos) _ => decide (m = "append") && (nameB nx sc i o && ((ck nx a sc).e e && (notStar e && (apos.endLine == cpos.line))))
    | _ => false
  | .ext i a => .one fun
    | .Expr (.Call (.Attribute o m apos) [e] [] cpos) _ => decide (m = "extend") && (nameB nx sc i o && ((ck nx a sc).e e && (notStar e && (apos.endLine == cpos.line))))
    | _ => false
  | .aug i o a => .one fun
    | .AugAssign (.Name x _) op e _ => decide (nx.N[i]? = some x) && (locB sc x && ((ck nx a sc).e e && decide (op = o.py)))
    | _ => false
  | .ex a => .one fun
    | .Expr e _ => (ck nx a sc).e e && plainR e
    | _ => false
  | .ife t a b => .one fun
    | .If c x y _ => (ck nx t sc).t c && ((ckS nx sc a).l x && (ckS nx sc b).l y)
    | _ => false
  | .for_ t it b => .one fun
    | .For tg iter body [] _ => (ck nx it sc).i iter && (noSet iter && (tgB nx (locB sc) t tg && (ezB it tg && (ckS nx sc b).l body)))
    | _ => false
  | .rai c a => .one fun
    | .Raise (some (.Call (.Name x _) [e] [] _)) none _ => decide (nx.xc c = some x) && (glB sc x && (notStar e && (decide (c < 10) && (ck nx a sc).e e)))
    | _ => false
  | .try1 b i h => .one fun
    | .Try body [.ExceptHandler (some (.Name x _)) (some n) [.Return (some e) _] _] [] [] _ => decide (nx.xc 10 = some x) && (glB sc x && (decide (nx.N[i]? = some n) && (kB sc n .local && ((ckS nx sc b).l body && (ckH nx sc i h).e e))))
    | _ => false

/-! ## what a def's body knows -/
def fmtV (v : V) : Prop := (∃ x : Str, v = .str x ∧ x.length ≤ 1000) ∨ ∃ i : Int, v = .int i ∧ i.natAbs < 2 ^ 64
/-- errors of class C are made so -/
def MkOk (X : Cx) (x : Str) (C : Addr) (f : Str) : Prop := ∀ (e : PySem.Expr) (te : TE) (p pos : Pos), glB X.env.scope x = true → notStar e = true → PE X e te →
  L2.PMk X (.Call (.Name x p) [e] [] pos) (fun σ H Q => te σ H fun v H1 => fmtV v ∧ ∀ d, H1 d = none → Q (.ref C) (some d) (upd H1 d (.xd [(f, v)])))
structure BdS (nx : Nx) (T : Tb) (C : Nat → Option D) (X9 : Nat → Addr × Str) (rc : Addr) (cv : Nat → Value) (lv : Nat) (X : Cx) (W : WX) : Prop extends Bd nx T C X9 lv X W where
  su : Su nx X9 rc cv X
  hs : X.stack = X.env :: X.outer
  hf : X.env.frame = some X.env.locals
  po : PassesOwn (model X.prog X.w) X.A X.env X.xe
  kf : X.env.scope.kind = .function
  fnT : ∀ y, X.fn y = true
  mkx : ∀ (pn : List (Addr × Obj)) (xe : Value → Shared → Prop) c x, c < 10 → nx.xc c = some x → (X9 c).2 ≠ ⟨#[]⟩ ∧ MkOk (X.tr pn xe) x (X9 c).1 (X9 c).2
  rcn : ∀ x, nx.xc 10 = some x → X.mg x = some (.ref rc)
section
variable {nx : Nx} {T : Tb} {C : Nat → Option D} {X9 : Nat → Addr × Str} {rc : Addr} {cv : Nat → Value} {lv : Nat} {X : Cx} {W : WX}
theorem BdS.tr (B : BdS nx T C X9 rc cv lv X W) {W' : WX} {pn : List (Addr × Obj)} {xe : Value → Shared → Prop} (tk : Takes (X.tr pn xe) W') (po : PassesOwn (model X.prog X.w) X.A X.env xe) : BdS nx T C X9 rc cv lv (X.tr pn xe) W' where
  toBd := ⟨B.eN, B.nd, B.calm, B.gd, B.room, tk, B.fn, B.gl, B.bi⟩
  su := ⟨B.su.eN, B.su.un, B.su.xf, B.su.isi, B.su.ve, B.su.cvV, B.su.nm⟩
  hs := B.hs
  hf := B.hf
  po := po
  kf := B.kf
  fnT := B.fnT
  mkx := fun pn' xe' c x h1 h2 => B.mkx pn' xe' c x h1 h2
  rcn := B.rcn
theorem BdS.loc (B : BdS nx T C X9 rc cv lv X W) : ∀ y, locB X.env.scope y = true → Loc X.env.scope y ∧ (X.fn y = true ∨ X.env.scope.names.lookup y = some .local) := fun y h => ⟨locB_ok h, .inl (B.fnT y)⟩

theorem dzAll_set {K : PySem.W.Frag} {F : Hp} {vs : List V} {ds : List PyData} (h : DzAll K F vs ds) {v : V} {d : PyData} (x : Dz K F v d) : ∀ m : Nat, DzAll K F (vs.set m v) (ds.set m d) := by
  induction ds generalizing vs with
  | nil => cases h; intro m; exact .nil
  | cons y ds ih => cases h with | cons a b => intro m; cases m with
    | zero => exact .cons x b
    | succ m => exact .cons a (ih b m)
theorem fmt_ok {K : PySem.W.Frag} {F : Hp} {v : V} {d : PyData} (x : Dz K F v d) (h : fmtOk d = true) : fmtV v := by
  cases x <;> try (cases h; done)
  · exact .inr ⟨_, rfl, of_decide_eq_true h⟩
  · exact .inl ⟨_, rfl, of_decide_eq_true h⟩
/-! ## one by one -/
theorem swN {e tg : PySem.Expr} {l : Nat} {env : Env} (h : plainR e = true) : swapsWith e (some tg) l env = pure false := by
  cases e <;> first | rfl | (cases h; done)
theorem swN0 {e : PySem.Expr} {l : Nat} {env : Env} (h : plainR e = true) : swapsWith e none l env = pure false := by
  cases e <;> first | rfl | (cases h; done)
theorem swS {e tg : PySem.Expr} {env : Env} (h : noTup e = true) : swappedStores [tg] e env = pure none := by
  cases e <;> first | (cases h; done) | (cases tg <;> rfl)
/-- a value, then a target -/
theorem s_asg {t : Tg} {f : En → Ou R} (hk : ∀ n, KpO n (f n)) {D : Ends} {σ : L2.St} {H : Hp} (q : tS (kk X X9 W) (fun n => Fl.of (f n) fun r n1 => match putR t r n1 with
    | some n2 => .nx n2
    | none => .st) D σ H) : tAsg (tz (rV X.K) (kk X X9 W) f) (gTg X.K t) D σ H := by
  obtain ⟨F, n, s, q0⟩ := q
  refine ⟨F, n, s, Po.mono (PoS.of (ρ := rV X.K) (hk n) q0) ?_⟩
  clear q0
  rintro v H1 ⟨F1, n1, r, s1, t1, p1, rv, q⟩
  cases z : putR t r n1 with
  | none => rw [z] at q; exact q.elim
  | some n2 =>
    rw [z] at q
    cases t with
    | nm i =>
      obtain ⟨s2, t2⟩ := put_so s s1 t1 p1 z rv
      exact q _ F1 H1 s2 t2
    | tp is =>
      obtain ⟨F2, s2, t2, dv⟩ := frzS s s1 t1 rv
      refine tg_ok s2 z dv fun σ' s3 o3 l3 k3 f3 => ?_
      exact q σ' F2 H1 s3 ((StepS.of t2 p1).trans (StepS.put (K := X.K) (t := .tp is) (d := r.d) z o3 k3 f3))
theorem swC {elt : PySem.Expr} {gs : List Comprehension} {scope : Scope} {pos py : Pos} {y : Str} {l : Nat} {env : Env} (hy : env.scope.names.lookup y = some .cell) : swapsWith (.ListComp elt gs scope pos) (some (.Name y py)) l env = pure false := by
  have ky : env.kindOf y = some .cell := hy
  unfold swapsWith
  simp only [ky]
  have e : (some NameKind.cell == some NameKind.local) = false := rfl
  simp only [e, Bool.and_false, Bool.false_and]
theorem PS.imp {st : PySem.Stmt} {t t' : TS} (h : PS X st t) (i : ∀ D σ H, t' D σ H → t D σ H) : PS X st t' := ⟨fun pins s σ H D I q => h.run pins s σ H D I (i _ _ _ q)⟩
theorem PSs.imp {st : List PySem.Stmt} {t t' : TS} (h : PSs X st t) (i : ∀ D σ H, t' D σ H → t D σ H) : PSs X st t' := ⟨fun pins s σ H D I q => h.run pins s σ H D I (i _ _ _ q)⟩
/-- x = [..], x a local on that line -/
theorem z_setLc {elt it cond : E} {tg : Tg} {vs : List Nat} {e : PySem.Expr} {i : Nat} {y : Str} {py spos : Pos} (B : BdS nx T C X9 rc cv lv X W) (h : lcB nx (ck nx elt) (ck nx it) (ck nx cond) cond it tg vs X.env.scope e = true) (hy : X.N[i]? = some y)
    (hl : X.env.scope.names.lookup y = some .local) (hsw : swapsWith e (some (.Name y py)) spos.line X.env = pure true) :
    PS X (.Assign [.Name y py] e spos) (tAsg (tz (rV X.K) (kk X X9 W) (zLc tg vs (ev T C it).i (ev T C cond).t (ev T C elt).e)) (gName i)) := by
  obtain ⟨x, tge, iter, ifs, scope, pos, rfl, h1, h2, h3, h4, h5, h6, h7, h8⟩ := lcB_inv h
  have ok : BlkOk X.N X.env.scope scope (ownN nx vs) := by rw [B.eN]; exact blkOk_by h1
  refine PS.imp (ps_setLc (te := tz (rV X.K) (kk X X9 fun _ _ _ _ => False) (ev T C elt).e) (tt := tz rB (kk X X9 fun _ _ _ _ => False) (ev T C cond).t) (g := gTg X.K tg) B.calm B.nd hy hl hsw ((all_J it X W B.toBd).i tge iter h8 h2) ok ?_ ?_ ?_ (fold_ok h3)) ?_
  · intro s H c cl fp
    exact pg_tg (nx := nx) (X := X.blk s H scope (compEnvC scope cl c X.env) fp) B.calm B.eN B.nd (fun y hy => locB_rel hy) h4
  · intro s H c cl fp
    have Bb := B.toBd.blk (s := s) (H := H) (scope := scope) (cenv := compEnvC scope cl c X.env) (fp := fp)
    have Jc := all_J cond _ _ Bb
    rcases ifs with _ | ⟨y, _ | ⟨y2, ys⟩⟩
    · have := ifsB_nil h6
      subst this
      refine ⟨fun pins s1 σ H1 Q I q => ?_⟩
      obtain ⟨F, n, so, q⟩ := q
      exact pts_nil.run pins s1 σ H1 Q I (q true F H1 so Step.refl rfl)
    · exact pts_one (Jc.t y (ifsB_one h6))
    · cases h6
  · intro s H c cl fp
    have Bb := B.toBd.blk (s := s) (H := H) (scope := scope) (cenv := compEnvC scope cl c X.env) (fp := fp)
    exact (all_J elt _ _ Bb).e x h7
  · intro D σ H q
    rw [ownN_slots]
    exact lc_tz (fun i hi => of_decide_eq_true (List.all_eq_true.mp h5 i hi)) q
theorem ck_lc {a : E} {sc : Scope} {x : PySem.Expr} {gs : List Comprehension} {cs : Scope} {pos : Pos} (h : (ck nx a sc).e (.ListComp x gs cs pos) = true) : ∃ el tg it cond vs, a = .lc el tg it cond vs := by
  cases a
  case lc el tg it cond vs => exact ⟨_, _, _, _, _, rfl⟩
  case op o as => cases o <;> cases h
  case cst d => cases d <;> cases h
  all_goals cases h
/-- an assignment -/
theorem s_set {t : Tg} {a : E} {tge e : PySem.Expr} {pos : Pos} (B : BdS nx T C X9 rc cv lv X W) (h : ((ck nx a X.env.scope).e e && (tgB nx (locB X.env.scope) t tge && (match tge with
      | .Name x p => setB X.env.scope p x e
      | _ => plainR e && noTup e))) = true) : PS X (.Assign [tge] e pos) (tAsg (tz (rV X.K) (kk X X9 W) (ev T C a).e) (gTg X.K t)) := by
  obtain ⟨h1, g⟩ := ba h
  clear h
  obtain ⟨h2, h3⟩ := ba g
  clear g
  have pe := (all_J a X W B.toBd).e e h1
  cases t with
  | tp is =>
    have hg := pg_tg (X := X) (nx := nx) (tg := .tp is) (e := tge) B.calm B.eN B.nd B.loc h2
    cases tge <;> try (cases h2; done)
    rename_i es k tp
    obtain ⟨h4, h5⟩ := ba (show (plainR e && noTup e) = true from h3)
    exact ps_asg pe hg (show swapsWith e (some (.Tuple es k tp)) pos.line X.env = pure false from swN h4) (swS h5) rfl
  | nm i =>
    cases tge <;> try (cases h2; done)
    rename_i x p
    obtain ⟨h4, h5⟩ := ba (show (decide (nx.N[i]? = some x) && locB X.env.scope x) = true from h2)
    have hN : X.N[i]? = some x := by rw [B.eN]; exact of_decide_eq_true h4
    obtain ⟨l1, l2⟩ := B.loc x h5
    rcases Bool.or_eq_true_iff.mp (show setB X.env.scope p x e = true from h3) with h6 | h6
    · exact ps_set B.nd hN l1 pe (swN h6) l2
    · cases e <;> try (cases h6; done)
      rename_i elt gs cs cpos
      rcases Bool.or_eq_true_iff.mp h6 with h7 | h7
      · obtain ⟨h7, h8⟩ := ba h7
        obtain ⟨h8, h9⟩ := ba h8
        have hsw : swapsWith (.ListComp elt gs cs cpos) (some (.Name x p)) pos.line X.env = pure true := sw_true B.kf (kB_ok h7) h8 (by simpa using h9)
        obtain ⟨el, tg, it, cond, vs, rfl⟩ := ck_lc h1
        exact z_setLc B h1 hN (kB_ok h7) hsw
      · exact ps_set B.nd hN l1 pe (swC (kB_ok h7)) l2
end
end Z

set_option Elab.async false
set_option linter.all false
set_option maxRecDepth 100000
set_option maxHeartbeats 8000000
namespace Z
open PySem PySem.Spec PyProof.Rows L2
section
variable {nx : Nx} {T : Tb} {C : Nat → Option D} {X9 : Nat → Addr × Str} {rc : Addr} {cv : Nat → Value} {lv : Nat} {X : Cx} {W : WX}
structure Js (nx : Nx) (T : Tb) (C : Nat → Option D) (X9 : Nat → Addr × Str) (X : Cx) (W : WX) (c : S) : Prop where
  s : ∀ st, (ckS nx X.env.scope c).s st = true → PS X st (tS (kk X X9 W) (sv T C c))
  l : ∀ sts, (ckS nx X.env.scope c).l sts = true → PSs X sts (tS (kk X X9 W) (sv T C c))
theorem Js.one {c : S} {f : PySem.Stmt → Bool} (e : ckS nx X.env.scope c = .one f) (h : ∀ st, f st = true → PS X st (tS (kk X X9 W) (sv T C c))) : Js nx T C X9 X W c :=
  ⟨fun st q => h st (by rw [e] at q; exact q), fun sts q => by rw [e] at q; cases q⟩
theorem PoS.now {k : Ck} {σ : L2.St} {F H : Hp} {n : En} {D : Ends} (s : SO k.K F H σ n) (q : PoS k (.nx n) σ F H n D) : D.nx σ H := q σ F H s StepS.refl
/-- xs.extend(ys), ys tracked or locked -/
theorem mt_extR {X : Cx} : MtM X "list.extend" fun x vs H Q => ∃ l b xs zs, x = .ref l ∧ vs = [.ref b] ∧ H l = some (.lst xs) ∧ Rd H b (.lst zs) ∧ xs.length + zs.length ≤ sizeLine ∧ Q .non (upd H l (.lst (xs ++ zs))) := by
  intro pins s σ H x vs v us Q I rx rv h
  obtain ⟨l, b, xs, zs, rfl, rfl, hl, hb, hz, q⟩ := h
  cases rx
  obtain ⟨u, rfl, ru⟩ := rv.one
  cases ru
  obtain ⟨_, i1, n1, r1, g1, e1⟩ := I.lstM hl
  obtain ⟨_, i2, n2, r2, e2⟩ := hb.ok I.hok
  have l2 := r2.length
  have a1 : i1.toArray.size + i2.toArray.size ≤ sizeLine := by rw [List.size_toArray, List.size_toArray]; omega
  have a2 : ¬ (!i1.toArray.isEmpty && Builtin.List.listTooLong (i1.toArray.size + i2.toArray.size)) = true := by rw [notLongL a1, Bool.and_false]; decide
  have big : i2.toArray.size ≤ sizeLine := by rw [List.size_toArray]; omega
  refine call_meets F.slot_list_extend ⟨_, e1, rfl⟩ F.entry_list_extend (F.args_list_extend_2 _ _) (AutoSeq1.list_extend_list_list_0 l i1.toArray n1 b i2.toArray n2 a2 (by rw [List.size_toArray]; omega) (by omega)) ⟨e1, e2, ?_⟩
  exact ⟨.non, _, I.lset (its' := i1 ++ i2) hl e1 (by simp) (r1.append r2) (by rw [List.length_append]; omega), rfl, q⟩
/-- a turn's wishes -/
theorem forGo_po {k : Ck} {t : Tg} {b : En → Fl} {xs : List PyData} {n1 : En} {σ : L2.St} {F H : Hp} {n : En} {D : Ends} (F0 : Hp) (h0 : Same F0 F) (q : PoS k (match b n1 with
      | .nx n2 => forGo t b xs n2
      | .ct n2 => forGo t b xs n2
      | .bk n2 => .nx n2
      | .rt r n2 => .rt r n2
      | .ex c d n2 => .ex c d n2
      | .st => .st) σ F H n D) :
    PoS k (b n1) σ F H n { D with nx := fun σ' H' => ∃ F' n', SO k.K F' H' σ' n' ∧ Same F0 F' ∧ PoS k (forGo t b xs n') σ' F' H' n' D, ct := fun σ' H' => ∃ F' n', SO k.K F' H' σ' n' ∧ Same F0 F' ∧ PoS k (forGo t b xs n') σ' F' H' n' D, bk := D.nx } := by
  cases e : b n1 with
  | nx n2 => rw [e] at q; exact fun σ' F' H' s u => ⟨F', n2, s, h0.trans u.f, PoS.shift q u⟩
  | ct n2 => rw [e] at q; exact fun σ' F' H' s u => ⟨F', n2, s, h0.trans u.f, PoS.shift q u⟩
  | bk n2 => rw [e] at q; exact q
  | rt r n2 => rw [e] at q; exact q
  | ex c d n2 => rw [e] at q; exact q
  | st => rw [e] at q; exact q
theorem s_for {t : Tg} {fi : En → Ou (List PyData)} {b : En → Fl} (hk : ∀ n, KpO n (fi n)) {D : Ends} {σ : L2.St} {H : Hp} (q : tS (kk X X9 W) (fun n => Fl.of (fi n) fun xs n1 => forGo t b xs n1) D σ H) :
    tFor (tz (rI X.K) (kk X X9 W) fi) (gTg X.K t) (tS (kk X X9 W) b) D σ H := by
  obtain ⟨F, n, s, q0⟩ := q
  refine ⟨F, n, s, Po.mono (PoS.of (ρ := rI X.K) (hk n) q0) ?_⟩
  clear q0
  rintro J H1 ⟨F1, n1, ds, s1, t1, p1, it, q⟩
  have q : PoS (kk X X9 W) (forGo t b ds n1) σ F1 H1 n1 D := PoS.shift q (StepS.of t1 p1)
  refine ⟨fun i m σc Hc => m = ds.length - i ∧ i ≤ ds.length ∧ ∃ Fc nc, SO X.K Fc Hc σc nc ∧ Same F1 Fc ∧ PoS (kk X X9 W) (forGo t b (ds.drop i) nc) σc Fc Hc nc D, ⟨ds.length, rfl, Nat.zero_le _, F1, n1, s1, .refl _, q⟩, ?_⟩
  rintro i m σc Hc ⟨rfl, hi, Fc, nc, sc, fc, qc⟩
  rcases (Nat.lt_or_ge i ds.length).symm with hge | hlt
  · have ei : i = ds.length := by omega
    subst ei
    rw [List.drop_length] at qc
    exact .inl ⟨it.stop Hc Fc fc sc.sub, PoS.now sc qc⟩
  · refine .inr ⟨it.go i Hc Fc fc sc.sub hlt, fun σ' H' => ∃ F' n', SO X.K F' H' σ' n' ∧ Same F1 F' ∧ PoS (kk X X9 W) (forGo t b (ds.drop (i + 1)) n') σ' F' H' n' D, fun σ' H' p' => ⟨ds.length - (i + 1), by omega, rfl, hlt, p'⟩, fun x H' y => ?_⟩
    obtain ⟨F2, d, ex, ed, dx⟩ := it.yld i Hc Fc x H' fc sc.sub hlt y
    have e0 : ds.drop i = d :: ds.drop (i + 1) := by
      rw [List.drop_eq_getElem_cons hlt]
      rw [List.getElem?_eq_getElem hlt] at ed
      rw [Option.some.inj ed]
    rw [e0] at qc
    have qc : PoS (kk X X9 W) (match t.put d nc with
      | none => .st
      | some n1 => match b n1 with
        | .nx n2 => forGo t b (ds.drop (i + 1)) n2
        | .ct n2 => forGo t b (ds.drop (i + 1)) n2
        | .bk n2 => .nx n2
        | .rt r n2 => .rt r n2
        | .ex c d n2 => .ex c d n2
        | .st => .st) σc Fc Hc nc D := qc
    cases hp : t.put d nc with
    | none => rw [hp] at qc; exact qc.elim
    | some np =>
      rw [hp] at qc
      have s2 := sc.ext ex
      refine tg_ok s2 hp dx fun σ' s3 o3 l3 k3 f3 => ⟨F2, np, s3, ?_⟩
      have st : StepS σc Fc Hc nc σ' F2 H' np := (StepS.of (Step.ext ex) .refl).trans (StepS.put (K := X.K) hp o3 k3 f3)
      exact forGo_po F1 (fc.trans ex.f) (PoS.shift qc st)
theorem s_aug {i : Nat} {o : BOp} {a : E} {x : Str} {e : PySem.Expr} {p pos : Pos} (B : BdS nx T C X9 rc cv lv X W) (hN : X.N[i]? = some x) (l1 : Loc X.env.scope x) (l2 : X.fn x = true ∨ X.env.scope.names.lookup x = some .local) (pe : PE X e (tz (rV X.K) (kk X X9 W) (ev T C a).e)) :
    PS X (.AugAssign (.Name x p) o.py e pos) (tS (kk X X9 W) (sv T C (.aug i o a))) := by
  have main : ∀ (f : Int → Int → Int), augF o = some f → PIp X o.py (ipI f) → PS X (.AugAssign (.Name x p) o.py e pos) (tS (kk X X9 W) (sv T C (.aug i o a))) := by
    intro f hf ip
    refine PS.imp (ps_aug B.nd hN l1 pe ip l2) ?_
    rintro D σ H ⟨F, n, s, q⟩
    have q : PoS (kk X X9 W) (match augF o with
      | some f => match n[i]? with
        | some (.fz (.int _)) => Fl.of ((ev T C a).e n) fun r n1 => match n1[i]?, r with
          | some (.fz (.int x)), .fr (.int y) => .nx (n1.set i (.fz (.int (f x y))))
          | _, _ => .st
        | _ => .st
      | none => .st) σ F H n D := q
    rw [hf] at q
    dsimp only at q
    split at q
    · rename_i k ek
      obtain ⟨v, e1, e2⟩ := s.sl i _ ek
      cases e2
      refine ⟨.int k, e1, F, n, s, Po.mono (PoS.of (ρ := rV X.K) ((all_Kp a).e n) q) ?_⟩
      clear q
      rintro y H1 ⟨F1, n1, r, s1, t1, p1, rv, q⟩
      split at q
      · rename_i k2 m ek2
        obtain ⟨v, e3, e4⟩ := s1.sl i _ ek2
        rw [e1] at e3; cases e3
        cases e4
        have rv : Dz X.K F1 y (.int m) := rv
        cases rv
        have ep : putR (.nm i) (.fr (.int (f k m))) n1 = some (n1.set i (.fz (.int (f k m)))) := by
          unfold putR
          dsimp only
          rw [ek2]
          rfl
        obtain ⟨s2, t2⟩ := put_so s s1 t1 p1 ep (show rvOk X.K H F1 H1 (.int (f k m)) (.fr (.int (f k m))) from Dz.int (f k m))
        exact ⟨k, m, rfl, rfl, q _ F1 H1 s2 t2⟩
      · exact q.elim
    · exact q.elim
  cases o
  case add => exact main _ rfl ip_add
  case sub => exact main _ rfl ip_sub
  all_goals
    refine ⟨fun pins s σ H D I q => ?_⟩
    obtain ⟨F, n, s, q⟩ := q
    exact q.elim
theorem all_S : ∀ (c : S) (X : Cx) (W : WX), BdS nx T C X9 rc cv lv X W → Js nx T C X9 X W c
  | .nil, X, W, B => by
    refine ⟨fun st h => (by cases h), fun sts h => ?_⟩
    cases sts with
    | cons _ _ => cases h
    | nil =>
      refine PSs.imp pss_nil ?_
      rintro D σ H ⟨F, n, s, q⟩
      exact PoS.now s q
  | .cons c r, X, W, B => by
    refine ⟨fun st h => (by cases h), fun sts h => ?_⟩
    cases sts with
    | nil => cases h
    | cons st sts =>
      obtain ⟨h1, h2⟩ := ba h
      refine PSs.imp (pss_cons ((all_S c X W B).s st h1) ((all_S r X W B).l sts h2)) ?_
      rintro D σ H ⟨F, n, s, q⟩
      exact ⟨F, n, s, PoS.sq q⟩
  | .doc, X, W, B => .one rfl fun st h => by
    split at h
    · refine PS.imp ps_doc ?_
      rintro D σ H ⟨F, n, s, q⟩
      exact PoS.now s q
    · cases h
  | .pass, X, W, B => .one rfl fun st h => by
    split at h
    · refine PS.imp ps_pass ?_
      rintro D σ H ⟨F, n, s, q⟩
      exact PoS.now s q
    · cases h
  | .brk, X, W, B => .one rfl fun st h => by
    split at h
    · refine PS.imp ps_break ?_
      rintro D σ H ⟨F, n, s, q⟩
      exact q σ F H s StepS.refl
    · cases h
  | .cnt, X, W, B => .one rfl fun st h => by
    split at h
    · refine PS.imp ps_continue ?_
      rintro D σ H ⟨F, n, s, q⟩
      exact q σ F H s StepS.refl
    · cases h
  | .ret a, X, W, B => .one rfl fun st h => by
    split at h
    · refine PS.imp (ps_ret ((all_J a X W B.toBd).e _ h)) ?_
      rintro D σ H ⟨F, n, s, q0⟩
      refine ⟨F, n, s, Po.mono (PoS.of (ρ := rV X.K) ((all_Kp a).e n) q0) ?_⟩
      clear q0
      rintro v H1 ⟨F1, n1, r, s1, t1, p1, rv, q⟩
      exact q v σ F1 H1 s1 (StepS.of t1 p1) rv
    · cases h
  | .retN, X, W, B => .one rfl fun st h => by
    split at h
    · refine PS.imp ps_retN ?_
      rintro D σ H ⟨F, n, s, q⟩
      exact q .non σ F H s StepS.refl .non
    · cases h
  | .set t a, X, W, B => .one rfl fun st h => by
    split at h
    · exact PS.imp (s_set B h) fun D σ H q => s_asg (t := t) (all_Kp a).e q
    · cases h
  | .setI i ix v, X, W, B => .one rfl fun st h => by
    split at h
    · rename_i o ie sp e pos
      obtain ⟨h1, g1⟩ := ba h
      obtain ⟨h2, g2⟩ := ba g1
      obtain ⟨h3, g3⟩ := ba g2
      obtain ⟨h4, h5⟩ := ba g3
      clear h g1 g2 g3
      have hg : PG X (.Subscript o ie sp) (gSub (tVar i) (tz (rP X.K) (kk X X9 W) (opd ix (ev T C ix).e)) rSetL) := pg_sub (z_name B.toBd h2) ((all_J ix X W B.toBd).o _ h3) set_list (by
        intro v
        cases ie <;> first | rfl | (cases h5; done))
      refine PS.imp (ps_asg ((all_J v X W B.toBd).e _ h1) hg (show swapsWith e (some (.Subscript o ie sp)) pos.line X.env = pure false from swN h4) (by cases e <;> rfl) rfl) ?_
      rintro D σ H ⟨F, n, s, q0⟩
      refine ⟨F, n, s, Po.mono (PoS.of (ρ := rV X.K) ((all_Kp v).e n) q0) ?_⟩
      clear q0
      rintro x H1 ⟨F1, n1, r, s1, t1, p1, rv, q⟩
      obtain ⟨F2, s2, t2, dv⟩ := frzS s s1 t1 rv
      have q := PoS.shift q (StepS.of t2 p1)
      cases eo : ownAt n1 i with
      | none => rw [eo] at q; exact q.elim
      | some w =>
        rw [eo] at q
        obtain ⟨es, ks⟩ := w
        obtain ⟨a, xs, ha, _⟩ := ownAt_ok s2 eo
        refine ⟨.ref a, ha, F2, n1, s2, Po.mono (PoS.of (ρ := rP X.K) (opd_pn (all_Kp ix) n1) q) ?_⟩
        clear q
        rintro y H3 ⟨F3, n3, p, s3, t3, p3, pv, q⟩
        have q := PoS.shift q (StepS.of t3 p3)
        split at q
        · rename_i ds kf j eo3 er
          split at q
          · rename_i m em
            obtain ⟨a3, xs3, ha3, f3, hh3, dz3, up3⟩ := ownAt_ok s3 eo3
            rw [ha] at ha3; cases ha3
            have hl := dpAll_len dz3
            refine ⟨a, xs3, j, m, rfl, rs_int s3 pv er, hh3, by rw [hl]; exact em, ?_⟩
            obtain ⟨so, su⟩ := up3 (xs3.set m x) (ds.set m r.d) (dzAll_set dz3 (dp_mono t3.f dv) m)
            exact PoS.now so (PoS.shift q su)
          · exact q.elim
        · exact q.elim
    · cases h
  | .app i a, X, W, B => .one rfl fun st h => by
    split at h
    · rename_i o mm apos e cpos pos
      obtain ⟨h0, g0⟩ := ba h
      obtain ⟨h1, g1⟩ := ba g0
      obtain ⟨h2, g2⟩ := ba g1
      obtain ⟨h3, h4⟩ := ba g2
      clear h g0 g1 g2
      have := of_decide_eq_true h0
      subst this
      have hb : attributeBase o "append" X.env (eval o X.env) = eval o X.env := by cases o <;> first | rfl | (cases h1; done)
      refine PS.imp (ps_expr (pe_bm F.plainAttrs_list F.slot_list_append rfl mt_append (z_name B.toBd h1) (pa_cons ((all_J a X W B.toBd).e _ h2) pa_nil (star_ok h3)) hb (by rw [star_ok h3]; rfl) h4 (star_ok h3) rfl)) ?_
      rintro D σ H ⟨F, n, s, q⟩
      have q : PoS (kk X X9 W) (match ownAt n i with
        | some _ => Fl.of ((ev T C a).e n) fun r n1 => match ownAt n1 i with
          | some (ds, k) => if decide (ds.length < sizeLine) then .nx (n1.set i (k (ds ++ [r.d]))) else .st
          | none => .st
        | none => .st) σ F H n D := q
      cases eo : ownAt n i with
      | none => rw [eo] at q; exact q.elim
      | some w =>
        rw [eo] at q
        obtain ⟨es, ks⟩ := w
        obtain ⟨l, xs, hl, _, hx, _⟩ := ownAt_ok s eo
        refine ⟨.ref l, hl, .inl ⟨rfl, xs, .inl (.inl hx)⟩, F, n, s, Po.mono (PoS.of (ρ := rV X.K) ((all_Kp a).e n) q) ?_⟩
        clear q
        rintro x H1 ⟨F1, n1, r, s1, t1, p1, rv, q⟩
        obtain ⟨F2, s2, t2, dv⟩ := frzS s s1 t1 rv
        have q := PoS.shift q (StepS.of t2 p1)
        split at q
        · rename_i ds kf eo1
          by_cases hz : (decide (ds.length < sizeLine)) = true
          · rw [if_pos hz] at q
            obtain ⟨a3, xs3, ha3, f3, hh3, dz3, up3⟩ := ownAt_ok s2 eo1
            rw [hl] at ha3; cases ha3
            obtain ⟨so, su⟩ := up3 (xs3 ++ [x]) (ds ++ [r.d]) (dpAll_app dz3 (.cons dv .nil))
            exact ⟨l, xs3, x, rfl, rfl, hh3, by rw [dpAll_len dz3]; exact of_decide_eq_true hz, PoS.now so (PoS.shift q su)⟩
          · rw [if_neg hz] at q; exact q.elim
        · exact q.elim
    · cases h
  | .rest, X, W, B => by
    refine ⟨fun st h => ⟨fun pins s σ H D I q => ?_⟩, fun sts h => ⟨fun pins s σ H D I q => ?_⟩⟩
    all_goals
      obtain ⟨F, n, _, q⟩ := q
      exact q.elim
  | .ext i a, X, W, B => .one rfl fun st h => by
    split at h
    · rename_i o mm apos e cpos pos
      obtain ⟨h0, g0⟩ := ba h
      obtain ⟨h1, g1⟩ := ba g0
      obtain ⟨h2, g2⟩ := ba g1
      obtain ⟨h3, h4⟩ := ba g2
      clear h g0 g1 g2
      have := of_decide_eq_true h0
      subst this
      have hb : attributeBase o "extend" X.env (eval o X.env) = eval o X.env := by cases o <;> first | rfl | (cases h1; done)
      refine PS.imp (ps_expr (pe_bm F.plainAttrs_list F.slot_list_extend rfl mt_extR (z_name B.toBd h1) (pa_cons ((all_J a X W B.toBd).e _ h2) pa_nil (star_ok h3)) hb (by rw [star_ok h3]; rfl) h4 (star_ok h3) rfl)) ?_
      rintro D σ H ⟨F, n, s, q⟩
      have q : PoS (kk X X9 W) (match ownAt n i with
        | some _ => Fl.of ((ev T C a).e n) fun r n1 => match ownAt n1 i, r.d with
          | some (ds, k), .list es => if decide (ds.length + es.length ≤ sizeLine) then .nx (n1.set i (k (ds ++ es))) else .st
          | _, _ => .st
        | none => .st) σ F H n D := q
      cases eo : ownAt n i with
      | none => rw [eo] at q; exact q.elim
      | some w =>
        rw [eo] at q
        obtain ⟨es, ks⟩ := w
        obtain ⟨l, xs, hl, _, hx, _⟩ := ownAt_ok s eo
        refine ⟨.ref l, hl, .inl ⟨rfl, xs, .inl (.inl hx)⟩, F, n, s, Po.mono (PoS.of (ρ := rV X.K) ((all_Kp a).e n) q) ?_⟩
        clear q
        rintro x H1 ⟨F1, n1, r, s1, t1, p1, rv, q⟩
        obtain ⟨F2, s2, t2, dv⟩ := frzS s s1 t1 rv
        have q := PoS.shift q (StepS.of t2 p1)
        split at q
        · rename_i ds kf es2 eo1 er
          by_cases hz : (decide (ds.length + es2.length ≤ sizeLine)) = true
          · rw [if_pos hz] at q
            obtain ⟨a3, xs3, ha3, f3, hh3, dz3, up3⟩ := ownAt_ok s2 eo1
            rw [hl] at ha3; cases ha3
            rw [er] at dv
            cases dv with
            | lst r1 d1 =>
              rename_i b zs
              obtain ⟨so, su⟩ := up3 (xs3 ++ zs) (ds ++ es2) (dpAll_app dz3 d1)
              exact ⟨l, b, xs3, zs, rfl, rfl, hh3, rd_mono s2.sub r1, by rw [dpAll_len dz3, dpAll_len d1]; exact of_decide_eq_true hz, PoS.now so (PoS.shift q su)⟩
          · rw [if_neg hz] at q; exact q.elim
        · exact q.elim
    · cases h
  | .aug i o a, X, W, B => .one rfl fun st h => by
    split at h
    · rename_i x p op e pos
      obtain ⟨h1, g1⟩ := ba h
      obtain ⟨h2, g2⟩ := ba g1
      obtain ⟨h3, h4⟩ := ba g2
      clear h g1 g2
      have := of_decide_eq_true h4
      subst this
      obtain ⟨l1, l2⟩ := B.loc x h2
      have hN : X.N[i]? = some x := by rw [B.eN]; exact of_decide_eq_true h1
      exact s_aug B hN l1 l2 ((all_J a X W B.toBd).e _ h3)
    · cases h
  | .ex a, X, W, B => .one rfl fun st h => by
    split at h
    · obtain ⟨h1, h2⟩ := ba h
      refine PS.imp (ps_expr ((all_J a X W B.toBd).e _ h1) (swN0 h2)) ?_
      rintro D σ H ⟨F, n, s, q0⟩
      refine ⟨F, n, s, Po.mono (PoS.of (ρ := rV X.K) ((all_Kp a).e n) q0) ?_⟩
      clear q0
      rintro v H1 ⟨F1, n1, r, s1, t1, p1, rv, q⟩
      exact q σ F1 H1 s1 (StepS.of t1 p1)
    · cases h
  | .ife t a b, X, W, B => .one rfl fun st h => by
    split at h
    · obtain ⟨h1, h⟩ := ba h
      obtain ⟨h2, h3⟩ := ba h
      refine PS.imp (ps_if ((all_J t X W B.toBd).t _ h1) ((all_S a X W B).l _ h2) ((all_S b X W B).l _ h3)) ?_
      rintro D σ H ⟨F, n, s, q0⟩
      refine ⟨F, n, s, Po.mono (PoS.of (ρ := rB) ((all_Kp t).t n) q0) ?_⟩
      clear q0
      rintro v H1 ⟨F1, n1, r, s1, t1, p1, rfl, q⟩
      have q := PoS.shift q (StepS.of t1 p1)
      cases v with
      | true => rw [if_pos rfl]; exact ⟨F1, n1, s1, q⟩
      | false => rw [if_neg Bool.false_ne_true]; exact ⟨F1, n1, s1, q⟩
    · cases h
  | .for_ t it b, X, W, B => .one rfl fun st h => by
    split at h
    · obtain ⟨h1, h⟩ := ba h
      obtain ⟨h2, h⟩ := ba h
      obtain ⟨h3, h⟩ := ba h
      obtain ⟨hz, h4⟩ := ba h
      exact PS.imp (ps_for B.po B.calm ((all_J it X W B.toBd).i _ _ hz h1) (pg_tg B.calm B.eN B.nd B.loc h3) ((all_S b X W B).l _ h4) (fold_ok h2)) fun D σ H q => s_for (all_Kp it).i q
    · cases h
  | .rai c a, X, W, B => .one rfl fun st h => by
    split at h
    · obtain ⟨h1, h⟩ := ba h
      obtain ⟨h2, h⟩ := ba h
      obtain ⟨h3, h⟩ := ba h
      obtain ⟨h4, h5⟩ := ba h
      obtain ⟨pr, mk⟩ := B.mkx X.pn X.xe c _ (of_decide_eq_true h4) (of_decide_eq_true h1)
      refine PS.imp (ps_raise B.calm B.tk (mk _ _ _ _ h2 h3 ((all_J a X W B.toBd).e _ h5))) ?_
      rintro D σ H ⟨F, n, s, q0⟩
      refine ⟨F, n, s, Po.mono (PoS.of (ρ := rV X.K) ((all_Kp a).e n) q0) ?_⟩
      clear q0
      rintro v H1 ⟨F1, n1, r, s1, t1, p1, rv, q⟩
      obtain ⟨F2, s2, t2, dv⟩ := frzS s s1 t1 rv
      have q := PoS.shift q (StepS.of t2 p1)
      by_cases hz : fmtOk r.d = true
      · rw [if_pos hz] at q
        refine ⟨fmt_ok dv hz, fun d hd => ?_⟩
        have ex : Ext F2 H1 F2 (upd H1 d (.xd [((X9 c).2, v)])) := ⟨.refl _, same_upd hd, fun a o q => .inl q, s2.sub.trans (same_upd hd)⟩
        exact q _ _ σ F2 _ (s2.ext ex) (StepS.of (Step.ext ex) .refl) ⟨rfl, d, v, rfl, upd_same, dv, pr⟩
      · rw [if_neg hz] at q; exact q.elim
    · cases h
  | .try1 b i hh, X, W, B => .one rfl fun st h => by
    split at h
    · rename_i body x np n e rp pos' pos
      obtain ⟨h1, g1⟩ := ba h
      obtain ⟨h2, g2⟩ := ba g1
      obtain ⟨h3, g3⟩ := ba g2
      obtain ⟨h4, g4⟩ := ba g3
      obtain ⟨h5, h6⟩ := ba g4
      clear h g1 g2 g3 g4
      obtain ⟨g, dbg⟩ := gl_ok h2
      have hi : X.N[i]? = some n := by rw [B.eN]; exact of_decide_eq_true h3
      refine PS.imp (ps_try_as (i := i) (n := n) (c := .ref rc) (Wout := W) (tb := fun W' => tS (kk X X9 W') (sv T C b)) (ts := fun a cls d => tSeq (tRet (tH X.K X9 i a cls d hh)) tNext) B.hs B.hf B.nd hi (kB_ok h4) ⟨g, dbg, .inl (B.rcn x (of_decide_eq_true h1))⟩ B.tk
        (fun W' pn xe tk po => (all_S b (X.tr pn xe) W' (B.tr tk po)).l _ h5) (fun a oe cls d pn hz hf => pss_cons (ps_ret ((he_ok B.su hz hf hh).e e h6)) pss_nil)) ?_
      rintro D σ H ⟨F, n, s, q⟩
      refine ⟨F, n, s, ?_⟩
      have q : PoS (kk X X9 W) (match sv T C b n with
        | .ex c d n1 => match hv c d hh, n1[i]? with
          | some r, some _ => .rt (.fr r) n1
          | _, _ => .st
        | f => f) σ F H n D := q
      cases ef : sv T C b n with
      | nx n1 => rw [ef] at q; exact q
      | bk n1 => rw [ef] at q; exact q
      | ct n1 => rw [ef] at q; exact q
      | rt r n1 => rw [ef] at q; exact q
      | st => rw [ef] at q; exact q
      | ex c d n1 =>
        rw [ef] at q
        intro cls dd σ' F' H' s' t' x
        have q : PoS (kk X X9 W) (match hv c d hh, n1[i]? with
          | some r, some _ => .rt (.fr r) n1
          | _, _ => .st) σ F H n D := q
        split at q
        · rename_i r u eh eu
          refine ⟨true, ?_, fun _ a ha => ?_, fun z => by cases z⟩
          · obtain ⟨x1, _, _, _, _, _, pr⟩ := x
            rw [x1]; exact B.su.xf.exm c pr
          · have hlen : i < σ'.length := by rw [← s'.len]; exact (List.getElem?_eq_some_iff.mp eu).1
            exact ⟨F', c, d, r, List.getElem?_set_self hlen, s'.sub, x, eh, fun v F2 H2 ex dv => q v σ' F2 H2 (s'.ext ex) (t'.trans (StepS.of (Step.ext ex) .refl)) dv⟩
        · exact q.elim
    · cases h
end
end Z

set_option Elab.async false
set_option linter.all false
set_option maxRecDepth 100000
set_option maxHeartbeats 8000000
namespace Z
open PySem PySem.Spec PyProof.Rows L2

/-! ## a def -/
theorem startSO {K : PySem.W.Frag} {F H : Hp} {N : List Str} {vs : List V} {ss : List Sl} (s : SO K F H (vs.map some) ss) (hl : vs.length ≤ N.length) : SO K F H (start N vs) (ss ++ List.replicate (N.length - ss.length) .un) := by
  have l1 : ss.length = vs.length := by rw [s.len, List.length_map]
  have at1 : ∀ {i : Nat} {t : Sl}, (ss ++ List.replicate (N.length - ss.length) Sl.un)[i]? = some t → (ss[i]? = some t ∧ (start N vs)[i]? = (vs.map some)[i]?) ∨ t = .un := fun {i t} h => by
    by_cases hi : i < ss.length
    · rw [List.getElem?_append_left hi] at h
      exact .inl ⟨h, by unfold L2.start; rw [List.getElem?_append_left (by rw [List.length_map, ← l1]; exact hi)]⟩
    · rw [List.getElem?_append_right (by omega)] at h
      exact .inr (List.mem_replicate.mp (List.mem_of_getElem? h)).2
  refine ⟨s.sub, by unfold L2.start; simp; omega, fun i t h => ?_, fun i j t u hij hi hj ot ou => ?_⟩
  · rcases at1 h with ⟨a, b⟩ | rfl
    · rw [b]; exact s.sl i t a
    · trivial
  · rcases at1 hi with ⟨a, b⟩ | rfl
    · rcases at1 hj with ⟨c, d⟩ | rfl
      · rw [b, d]; exact s.ap i j t u hij a c ot ou
      · exact ou.elim
    · exact ot.elim
theorem finD_get : ∀ {ss : List Sl} {n : En} {i : Nat} {d d' : PyData}, ss[i]? = some (.pn d) → n[i]? = some (.pn d') → (finD ss n)[i]? = some d'
  | [], n, i, d, d', h, _ => by simp at h
  | s :: r, [], i, d, d', _, h => by simp at h
  | s :: r, t :: n, 0, d, d', h1, h2 => by
    simp at h1 h2
    subst h1 h2
    rfl
  | s :: r, t :: n, i + 1, d, d', h1, h2 => by
    have ih := finD_get (ss := r) (n := n) (i := i) (d := d) (d' := d') (by simpa using h1) (by simpa using h2)
    cases s <;> cases t <;> exact ih
/-- what the caller wants, from what the body leaves -/
theorem afterS {K : PySem.W.Frag} {F H F' H' : Hp} {N : List Str} {vs : List V} {ss : List Sl} {σ' : L2.St} {n' : En} (s : SO K F H (vs.map some) ss) (ok : ∀ t ∈ ss, argOk t) (s' : SO K F' H' σ' n')
    (t : StepS (start N vs) F H (ss ++ List.replicate (N.length - ss.length) .un) σ' F' H' n') : After K F H vs ss F' H' (finD ss n') := by
  have l1 : ss.length = vs.length := by rw [s.len, List.length_map]
  have pin : ∀ {i : Nat} {d : PyData}, ss[i]? = some (.pn d) → ∃ a d', vs[i]? = some (.ref a) ∧ n'[i]? = some (.pn d') ∧ Mo K F' H' a d' := by
    intro i d hi
    have li : i < ss.length := (List.getElem?_eq_some_iff.mp hi).1
    have hp : (ss ++ List.replicate (N.length - ss.length) Sl.un)[i]? = some (.pn d) := by rw [List.getElem?_append_left li]; exact hi
    obtain ⟨h1, h2⟩ := t.pn i (by rw [hp]; rfl)
    obtain ⟨a, ha, m⟩ := s.sl i _ hi
    have hv : vs[i]? = some (.ref a) := by
      cases q : vs[i]? with
      | none => simp [q] at ha
      | some v => simp [q] at ha; rw [ha]
    cases q : n'[i]? with
    | none => rw [q] at h2; cases h2
    | some u =>
      rw [q] at h2
      cases u with
      | pn d' =>
        obtain ⟨b, hb, mb⟩ := s'.sl i _ q
        have e : σ'[i]? = (vs.map some)[i]? := by
          rw [h1]
          unfold L2.start
          rw [List.getElem?_append_left (by rw [List.length_map, ← l1]; exact li)]
        rw [e, ha] at hb
        cases hb
        exact ⟨a, d', hv, rfl, mb⟩
      | un => cases h2
      | fz _ => cases h2
      | ow _ => cases h2
      | er _ _ => cases h2
  have own0 : ∀ {a : Addr}, own (start N vs) (ss ++ List.replicate (N.length - ss.length) .un) a → ∃ (i : Nat) (d : PyData), ss[i]? = some (.pn d) ∧ vs[i]? = some (.ref a) := by
    rintro a ⟨i, u, hi, ou, hs⟩
    by_cases li : i < ss.length
    · rw [List.getElem?_append_left li] at hi
      have k := ok u (List.mem_of_getElem? hi)
      unfold L2.start at hs
      rw [List.getElem?_append_left (by rw [List.length_map, ← l1]; exact li)] at hs
      have hv : vs[i]? = some (.ref a) := by
        cases q : vs[i]? with
        | none => simp [q] at hs
        | some v => simp [q] at hs; rw [hs]
      cases u with
      | pn d => exact ⟨i, d, hi, hv⟩
      | fz _ => exact ou.elim
      | un => exact ou.elim
      | er _ _ => exact ou.elim
      | ow _ => exact k.elim
    · rw [List.getElem?_append_right (by omega)] at hi
      rw [(List.mem_replicate.mp (List.mem_of_getElem? hi)).2] at ou
      exact ou.elim
  refine ⟨s'.sub, t.f, fun a o ha no => t.h a o ha fun w => ?_, fun a o ha => ?_, t.dom, fun i d hi => ?_⟩
  · obtain ⟨i, d, h1, h2⟩ := own0 w
    exact no i d h1 h2
  · rcases t.nf a o ha with z | z | z
    · exact .inl z
    · exact .inr z
    · obtain ⟨i, d, h1, h2⟩ := own0 z
      obtain ⟨b, d', h3, h4, m⟩ := pin h1
      rw [h2] at h3; cases h3
      rw [m.1] at ha; cases ha
  · obtain ⟨a, d', h1, h2, m⟩ := pin hi
    exact ⟨a, d', h1, finD_get hi h2, m⟩

/-! ## the module -/
/-- what all bodies lean on -/
structure Md (P : Program) (w : World) (K : PySem.W.Frag) (mg : Str → Option Value) (base : Heap) (X9 : Nat → Addr × Str) (rc : Addr) (cv : Nat → Value) (xc : Nat → Option Str) (lv : Nat) : Prop where
  bi : ∀ x ∈ biNames, mg x = none
  ve : mg "ValueError" = none
  xf : XF K X9 rc cv
  cvV : cv 11 = .type "ValueError"
  nm : ∀ j x, xc j = some x → j ≠ 11 → mg x = some (cv j) ∧ (∃ b, cv j = .ref b) ∧ (j = 10 ∨ (X9 j).2 ≠ ⟨#[]⟩)
  rcn : ∀ x, xc 10 = some x → mg x = some (.ref rc)
  mkx : ∀ (X : Cx), X.prog = P → X.w = w → X.K = K → X.mg = mg → X.base = base → Room lv X.A → ∀ c x, c < 10 → xc c = some x → (X9 c).2 ≠ ⟨#[]⟩ ∧ MkOk X x (X9 c).1 (X9 c).2
section
variable {P : Program} {w : World} {K : PySem.W.Frag} {mg : Str → Option Value} {base : Heap} {X9 : Nat → Addr × Str} {rc : Addr} {cv : Nat → Value} {nx : Nx} {T : Tb} {C : Nat → Option PyData} {lv : Nat}
theorem bd_start {ps : List Str} {qual : Str} {scope : Scope} {f : Addr} {cdv : Value} {A : Around} {outer : List Env} {s : Shared} {H : Hp} {E : XK} (S : FnScope nx.N ps scope) (M : Md P w K mg base X9 rc cv nx.xc lv)
    (fn : ∀ id m fm, T id = some (m, fm) → ∃ x f fd ps, ps.length = m ∧ nx.fn[id]? = some x ∧ mg x = some (.ref f) ∧ PySem.W.keepIn K (.ref f) = true ∧ Binds K fd ps [] ∧ FnG P w K mg base lv f fd ps (spOf K X9 m fm))
    (gl : ∀ g d, C g = some d → ∃ x u v, nx.gc[g]? = some x ∧ mg x = some u ∧ RelV v u ∧ Dz K (fun _ => none) v d) (hg : A.guards = some []) (hr : Room lv (A.deeper (envOfC qual scope s.heap.objs.size f cdv))) :
    BdS nx T C X9 rc cv lv (cxOf (L2.CX P w) P w K mg base nx.N qual scope f cdv A outer s H E) (fun c d _ H => E c d H) where
  toBd := ⟨rfl, S.nd, rfl, hg, hr, takes_of rfl rfl rfl rfl, fn, gl, M.bi⟩
  su := ⟨rfl, by have := hr.un; show (A.deeper (envOfC qual scope s.heap.objs.size f cdv)).units + 65 < cLine; omega, M.xf, M.bi _ (by decide +kernel), M.ve, M.cvV, M.nm⟩
  hs := rfl
  hf := rfl
  po := passes_of rfl
  kf := S.kind
  fnT := fun _ => rfl
  mkx := fun pn xe c x h1 h2 => M.mkx _ rfl rfl rfl rfl rfl hr c x h1 h2
  rcn := M.rcn
theorem def_ok {x qual : Str} {params : Arguments} {stmts : List Stmt} {scope : Scope} {dvs : List V} {kws : List (Str × V)} {f : Addr} {fd : FuncData} {ps : List Str} {m : Nat} {body : S} (D : FunD K x qual params stmts scope dvs kws f fd) (S0 : FnScope nx.N ps scope)
    (hl : ps.length = m) (hm : m ≤ nx.N.length) (hc : (ckS nx scope body).l stmts = true) (M : Md P w K mg base X9 rc cv nx.xc lv)
    (fn : ∀ id m fm, T id = some (m, fm) → ∃ x f fd ps, ps.length = m ∧ nx.fn[id]? = some x ∧ mg x = some (.ref f) ∧ PySem.W.keepIn K (.ref f) = true ∧ Binds K fd ps [] ∧ FnG P w K mg base lv f fd ps (spOf K X9 m fm))
    (gl : ∀ g d, C g = some d → ∃ x u v, nx.gc[g]? = some x ∧ mg x = some u ∧ RelV v u ∧ Dz K (fun _ => none) v d) :
    FnG P w K mg base (lv + 1) f fd ps (spOf K X9 m (evDef T C nx.N.length body)) := by
  obtain ⟨oc, od, dV, kV, doc, pm, an, cdv, ct, osl, rfl, lk, hcd, _, _⟩ := D.ex
  refine FnG.of lk hcd S0 (fun vs H Q E h => by rw [hl]; exact h.1) fun A outer s H vs Q E hg hr h => ?_
  have B := bd_start (E := E) (H := H) (outer := outer) (s := s) (A := A) (f := f) (cdv := cdv) (qual := qual) S0 M fn gl hg hr
  refine ⟨_, (all_S body _ _ B).l stmts hc, ?_⟩
  obtain ⟨hv, F, ss, so, ok, q⟩ := h
  have l1 : ss.length = vs.length := by rw [so.len, List.length_map]
  have s0 := startSO (N := nx.N) so (by omega)
  refine ⟨F, _, s0, ?_⟩
  unfold evDef at q
  cases e : sv T C body (ss ++ List.replicate (nx.N.length - ss.length) .un) with
  | nx n => rw [e] at q; exact fun σ' F' H' s' t => q .non F' H' (afterS so ok s' t) .non
  | rt r n => rw [e] at q; exact fun v σ' F' H' s' t x => q v F' H' (afterS so ok s' t) x
  | ex c d n => rw [e] at q; exact fun cls dd σ' F' H' s' t x => q cls dd F' H' (afterS so ok s' t) x
  | bk n => rw [e] at q; exact q.elim
  | ct n => rw [e] at q; exact q.elim
  | st => rw [e] at q; exact q.elim
end
end Z

set_option Elab.async false
set_option linter.all false
set_option maxRecDepth 100000
set_option maxHeartbeats 8000000
namespace Z
open PySem PySem.Spec PyProof.Rows L2

/-! ## the law's call -/
def notList (o : Obj) : Bool := match o.cls with
  | .type c => !decide (c = "list")
  | _ => true
def scr (K : PySem.W.Frag) (a : Addr) (vs : List Value) (ns : List Int) : Hp := fun b => if b = a then some (.frz { cls := .type "list", data := .seq vs.toArray } (.lst (ns.map V.int))) else none
theorem dzInts {K : PySem.W.Frag} {H : Hp} : ∀ ns : List Int, DzAll K H (ns.map V.int) (ns.map PyData.int)
  | [] => .nil
  | n :: ns => .cons (.int n) (dzInts ns)
section
variable {P : Program} {w : World} {K : PySem.W.Frag} {mg mb : Str → Option Value} {X9 : Nat → Addr × Str} {k : Nat} {fa a : Addr} {fd : FuncData} {x : Str} {fm : Fm} {s₁ : Shared} {vs : List Value} {ns : List Int}
theorem callG (KX : K.In s₁.heap) (hK : ∀ b o, K.lookup b = some o → notList o = true) (hns : s₁.heap.Ns mainGlobals mg) (hb : s₁.heap.Ns builtinsNs mb) (hbb : ∀ x : Str, x ≠ "__name__" → mb x = bootBuiltins x) (hlim : s₁.heap.NoLimit) (hg : s₁.gens = #[])
    (ha : s₁.heap.get? a = some { cls := .type "list", data := .seq vs.toArray }) (hi : IntsAre vs ns) (hl : ns.length ≤ sizeLine) (hr : Room k callerA)
    (F : ∀ base : Heap, K.In base → base.Ns mainGlobals mg → FnG P w K mg base k fa fd [x] (spOf K X9 1 fm)) (hbind : ∀ (s : Shared) (u : Value), BindsTo s fd ⟨[u], []⟩ [(x, u)])
    (hfm : ∃ ds, fm [.fz (.list (ns.map PyData.int))] = .ret (.fr (.bool true)) ds) :
    codeAny (model P w) callerA (.call (.ref fa) ⟨[.ref a], []⟩) (fun r s' => r = .ok (.ret (.bool true)) ∧ OldK s₁.heap s'.heap ∧ s'.os = s₁.os ∧ AllBare s'.gens) s₁ := by
  have off : K.lookup a = none := by
    cases q : K.lookup a with
    | none => rfl
    | some o =>
      have h1 := KX a o q
      rw [ha] at h1
      cases h1
      exact absurd (hK a _ q) (fun h => by have h2 : (!decide (("list" : String) = "list")) = true := h; simp at h2)
  have rv := vals_ints hi
  have at_a : scr K a vs ns a = some (.frz { cls := .type "list", data := .seq vs.toArray } (.lst (ns.map V.int))) := if_pos rfl
  have off_a : ∀ {b : Addr}, b ≠ a → scr K a vs ns b = none := fun h => if_neg h
  have only : ∀ {b : Addr} {u : HO}, scr K a vs ns b = some u → b = a ∧ u = .frz { cls := .type "list", data := .seq vs.toArray } (.lst (ns.map V.int)) := fun {b u} h => by
    by_cases e : b = a
    · subst e; rw [at_a] at h; exact ⟨rfl, (Option.some.inj h).symm⟩
    · rw [off_a e] at h; cases h
  have hok : HOk P w (scr K a vs ns) s₁.heap := fun b u h => by
    obtain ⟨rfl, rfl⟩ := only h
    exact ⟨ha, by rw [List.length_map]; exact hl, vs, _, rv, ha⟩
  -- what is no list stays below
  have low : ∀ {b : Addr} {o : Obj}, s₁.heap.get? b = some o → b ≠ a → (hidT s₁.heap (scr K a vs ns)).get? b = some o := fun e n => hidT_get e (off_a n)
  have nsK : ∀ {b : Addr} {m : Str → Option Value}, s₁.heap.Ns b m → (hidT s₁.heap (scr K a vs ns)).Ns b m := fun {b m} ⟨o, es, ep, e, d, r⟩ => ⟨o, es, ep, low e (fun z => by
    subst z
    rw [ha] at e; cases e
    cases d), d, r⟩
  have hKb : K.In (hidT s₁.heap (scr K a vs ns)) := fun b o e => low (KX b o e) fun z => by rw [z, off] at e; cases e
  have hM : Mod K mg (hidT s₁.heap (scr K a vs ns)) := ⟨hKb, nsK hns, ⟨mb, nsK hb, hbb⟩, let ⟨mc, h1, h2⟩ := hlim; ⟨mc, nsK h1, h2⟩⟩
  have e0 : Env0 P w K mg (hidT s₁.heap (scr K a vs ns)) callerA [] s₁ (scr K a vs ns) :=
    ⟨rfl, hM, fun b o e => of_hidT e, Nat.le_of_eq (hidT_size _ _), trivial, fun b hb => absurd (show b ∈ ([] : List Addr) from hb) (by simp), hok, .of_eq hg⟩
  obtain ⟨ds, hfm⟩ := hfm
  have so : SO K (scr K a vs ns) (scr K a vs ns) ([V.ref a].map some) [.fz (.list (ns.map PyData.int))] := by
    refine ⟨.refl _, rfl, fun i t h => ?_, fun i j t u hij h1 h2 o1 o2 => ?_⟩
    · cases i with
      | zero => simp at h; subst h; exact ⟨.ref a, rfl, .lst (.inr ⟨_, at_a⟩) (dzInts ns)⟩
      | succ i => simp at h
    · cases i with
      | zero => simp at h1; subst h1; exact o1.elim
      | succ i => simp at h1
  have sp : spOf K X9 1 fm [.ref a] (scr K a vs ns) (fun v H' => v = .bl true ∧ ∀ b u, scr K a vs ns b = some u → H' b = some u) (fun _ _ _ => False) := by
    refine ⟨rfl, _, _, so, fun t h => ?_, ?_⟩
    · rw [List.mem_singleton.mp h]; trivial
    · rw [hfm]
      intro v F' H' A x
      have x : Dz K F' v (.bool true) := x
      cases x
      refine ⟨rfl, fun b u h => A.h b u h fun i d hi => ?_⟩
      cases i with
      | zero => simp at hi
      | succ i => simp at hi
  refine codeAny_mono ((F _ hKb (nsK hns)).go callerA [] s₁ (scr K a vs ns) ⟨[.ref a], []⟩ [.ref a] [.ref a] _ _ rfl hr e0 (hbind s₁ (.ref a)) (.cons rfl .nil) sp) fun r s' h => ?_
  cases r with
  | error e =>
    obtain ⟨_, _, _, _, _, _, _, _, _, _, _, _, q⟩ := h
    exact q.elim
  | ok fl =>
    cases fl with
    | next => exact h.elim
    | brk => exact h.elim
    | cont => exact h.elim
    | ret u =>
      obtain ⟨v, H', os, bare, un, hok', r', rfl, q⟩ := h
      obtain rfl : u = Value.bool true := r'
      refine ⟨rfl, OldK.of_keep fun b o e => ?_, os, bare⟩
      by_cases z : b = a
      · subst z
        obtain ⟨e2, _⟩ := hok' b _ (q b _ at_a)
        rw [ha] at e; cases e
        exact e2
      · exact un.keep b o e (off_a z) (by intro z; exact absurd (show b ∈ ([] : List Addr) from z) (by simp)) (by simp)
end
/-- the end of a law's proof -/
theorem walkG {l : PySem.W.OpenLaw} {n k : Nat} {q : Program} {loose : List Str} {XP : (Str → Option Value) → Heap → Prop} {YP : World → Heap → Prop} {d : DefRec} {x : Str} {fm : Fm} (hn : l.most = some n) (hn2 : n ≤ sizeLine) (hdf : d.params.defaults = []) (hr : Room k callerA)
    (hfm : ∀ ns : List Int, ns.length ≤ n → ∃ ds, fm [.fz (.list (ns.map PyData.int))] = .ret (.fr (.bool true)) ds)
    (F : ∀ (w : World) (mg : Str → Option Value) (fa : Addr) (h : Heap), YP w h → h.Ns mainGlobals mg → mg d.name = some (.ref fa) →
      ∃ (K : PySem.W.Frag) (fd : FuncData) (X9 : Nat → Addr × Str), K.In h ∧ (∀ b o, K.lookup b = some o → notList o = true) ∧ (∀ (s : Shared) (u : Value), BindsTo s fd ⟨[u], []⟩ [(x, u)]) ∧
        ∀ base : Heap, K.In base → base.Ns mainGlobals mg → FnG l.prog w K mg base k fa fd [x] (spOf K X9 1 fm)) : PySem.W.WalkO q loose XP YP l.row.toRowW d [] (fun f vs => PySem.call f vs) := by
  refine Att.attach_call hn hdf fun w s₀ s₁ mg mb fa o pm cd doc a vs ns G Y ho hd hcd hmg hobj hints hlen hg => ?_
  obtain ⟨K, fd, X9, KX, hK, hb, hF⟩ := F w mg fa _ Y G.T.g hmg
  exact callG KX hK G.T.g G.T.b G.T.builtins G.T.nolimit hg hobj hints (Nat.le_trans hlen hn2) hr hF hb (hfm ns hlen)
end Z

set_option Elab.async false
set_option linter.all false
set_option maxRecDepth 100000
set_option maxHeartbeats 4000000
namespace Z
open PySem PySem.Spec PySem.W PySem.Calls PyProof.Rows PySem.HandSPX

/-! ## the own error classes: __init__ -/
def inA (fld : Str) (p1 p2 : Pos) : Arguments := { posonlyargs := [], args := [{ arg := "self", annotation := none, pos := p1 }, { arg := fld, annotation := none, pos := p2 }], vararg := none, kwonlyargs := [], kw_defaults := [], kwarg := none, defaults := [] }
def inB (fld msg : Str) (k : Nat) (q : Nat → Pos) : List Stmt :=
  [.Expr (.Call (.Attribute (.Call (.Name "super" (q 0)) [] [] (q 1)) "__init__" (q 2)) [.JoinedStr [.Constant (.str msg) k (q 3), .FormattedValue (.Name fld (q 4)) (-1) none (q 5)] (q 6)] [] (q 7)) (q 8),
    .Assign [.Attribute (.Name "self" (q 9)) fld (q 10)] (.Name fld (q 11)) (q 12)]
structure InTxt (P : Program) (K : Frag) (mg : Str → Option Value) (C fI : Addr) (fld : Str) : Prop where
  cls : ∃ nm q N bs bm sn sub ab col dd k0 k1 k2 k3 k5, K.lookup C = some (excClassObj nm q C N bs bm true sn sub ab col dd k0 k1 k2 k3 k5 "ValueError.__new__") ∧ refsVE bm = true
  sa : findIn K (.ref C) "__setattr__" = some (some (.builtin "object.__setattr__"))
  no : findIn K (.ref C) fld = some none
  iC : findIn K (.ref C) "__init__" = some (some (.ref fI))
  tC : typeIn K (.ref fI) = some (.type "function")
  kC : keepIn K (.ref C) = true
  exC : subIn K (.ref C) (.type "BaseException") = some true
  veC : subIn K (.ref C) (.type "ValueError") = some true
  meC : mroIn K C (.ref C) = some true
  tyC : typeIn K (.ref C) = some (.type "type")
  sup : ks_superIn K C C "__init__" = some (some (.builtin "ValueError.__init__"))
  ei : excInitIn K C [.type "ValueError", .type "Exception", .type "BaseException", .type "object"] "ValueError.__new__" = true
  thp : nsIn K cStatics "thirdparty.any" = some none
  fn : ∃ (oc : Value) (od : Option Addr) (doc pm : Value) (an : Option Addr) (ct : Value) (osl : Array (Option Value)) (cc cda : Addr) (qual msg : Str) (scope : Scope) (p1 p2 : Pos) (k : Nat) (q : Nat → Pos),
    K.lookup fI = some ⟨oc, od, .func (ksFn "__init__" qual (inA fld p1 p2) (inB fld msg k q) scope .none .none doc pm an (.ref cda) ct cc), osl⟩ ∧ codeIn K (.ref cda) qual = true ∧ msg.length ≤ 1000 ∧
    scope.kind = .function ∧ scope.isCoroutine = false ∧ scope.isGenerator = false ∧ (∀ y ∈ scope.names, y.2 ≠ .cell) ∧ scope.names.lookup ("self" : Str) = some .local ∧ scope.names.lookup fld = some .local ∧
    scope.names.lookup ("super" : Str) = some .globalImplicit ∧ scope.names.lookup ("__class__" : Str) = some .free ∧ fld ≠ "self" ∧ (fld == ("__debug__" : Str)) = false ∧ ((q 2).endLine == (q 7).line) = true ∧
    (∀ u z : Value, bindArgs (ksFn "__init__" qual (inA fld p1 p2) (inB fld msg k q) scope .none .none doc pm an (.ref cda) ct cc) ⟨[u, z], []⟩ = pure [(("self" : Str), u), (fld, z)]) ∧
    (∃ (cl : Value) (cld : Option Addr) (csl : Array (Option Value)), K.lookup cc = some ⟨cl, cld, .cell (some (.ref C)), csl⟩) ∧
    ∃ (ccl : Value) (cdd : Option Addr) (vs : Array Value) (ccs : Array (Option Value)) (file : Str) (tf : Tok), K.lookup cda = some ⟨ccl, cdd, .fields vs, ccs⟩ ∧ vs[2]? = some (.str file tf) ∧ ((P.main.file : Str) == file) = true
  noS : mg "super" = none
  top : (P.main.scope.names.lookup ("super" : Str)).isSome = false
structure InEnd (h h' : Heap) (x C dx t1 : Addr) (fld : Str) (v : Value) : Prop where
  keep : ∀ b o, b ≠ x → h.get? b = some o → h'.get? b = some o
  obj : h'.get? x = some { cls := .ref C, dict := some dx, data := .fields #[.ref t1, .none, .none, .none, .bool false, .none] }
  dbig : h.objs.size ≤ dx
  dne : dx ≠ x
  ns : h'.Ns1 dx (fun y => if y = fld then some v else none)
/-- what the message holds -/
def FmtU (v : Value) : Prop := (∃ x t, v = .str x t ∧ x.length ≤ 1000) ∨ ∃ i t, v = .int i t ∧ i.natAbs < 2 ^ 64
section
variable {P : Program} {w : World} {A : Around} {E : Value → Shared → Prop} {R : Result → Shared → Prop} {s : Shared} {K : Frag} {mg mb : Str → Option Value} {C fI : Addr} {fld : Str}
theorem sizeL : (1000 : Nat) + 1000 ≤ sizeLine := by rw [sizeLine_eq]; decide
/-- the message -/
theorem msg_run {M : Shared → Shared} {env : Env} {fld msg : Str} {k : Nat} {p1 p2 p3 p4 : Pos} {m : Str → Option Value} {v : Value} {Q : Value → Shared → Prop} (hv : FmtU v) (hmsg : msg.length ≤ 1000) (hk : env.scope.kind = .function) (hl : env.kindOf fld = some .local) (hn : s.heap.Ns env.locals m) (hm : m fld = some v)
    (hdb : (fld == ("__debug__" : Str)) = false) (h : ∀ out t tk, Q (.str out t) { s with toks := tk }) : wpAny (model P w) A (eval (.JoinedStr [.Constant (.str msg) k p1, .FormattedValue (.Name fld p2) (-1) none p3] p4) env) Q E s := by
  have z := sizeL
  refine wpAny_JoinedStr ?_
  show wpAny _ _ (eval (.Constant (.str msg) k p1) env) _ _ _
  refine Calls.Constant_str ⟨msg, _, rfl, by rw [show (Str.empty ++ msg).length = Str.empty.length + msg.length from Str.length_append _ _]; show 0 + msg.length ≤ _; omega, ?_⟩
  show wpAny _ _ (eval (.FormattedValue (.Name fld p2) (-1) none p3) env) _ _ _
  refine wpAny_FormattedValue_plain (wpAny_Name (wpAny_loadName_local hk hl (show ({ s with toks := s.toks + 1 } : Shared).heap.Ns env.locals m from hn) hm ?_) hdb)
  have fin : ∀ y t tk, y.length ≤ 1000 → ∃ y' t', (Value.str y t) = .str y' t' ∧ ((Str.empty ++ msg) ++ y').length ≤ sizeLine ∧ Joins (model P w) A E [] ((Str.empty ++ msg) ++ y') (fun out s₁ => out.length ≤ sizeLine ∧ Q (.str out s₁.toks) { s₁ with toks := s₁.toks + 1 }) { s with toks := tk } := fun y t tk hy => by
    have e : ((Str.empty ++ msg) ++ y).length ≤ sizeLine := by
      rw [Str.length_append, Str.length_append]
      show 0 + msg.length + y.length ≤ _
      omega
    exact ⟨y, t, rfl, e, e, h _ _ _⟩
  rcases hv with ⟨y, t, rfl, hy⟩ | ⟨i, t, rfl, hi⟩
  · exact wpAny_formatField_str (fin y t _ hy) (fin y _ _ hy) (by omega)
  · have hl2 : i.natAbs.log2 < 1920 := by
      by_cases h0 : i.natAbs = 0
      · rw [h0]; decide
      · exact Nat.lt_trans ((Nat.log2_lt h0).mpr hi) (by decide)
    refine wpAny_formatField_int hl2 (fin _ _ _ ?_)
    have h64 : i.natAbs.log2 < 64 := by
      by_cases h0 : i.natAbs = 0
      · rw [h0]; decide
      · exact (Nat.log2_lt h0).mpr hi
    have e := int_text_length_le (k := 64) (by decide) h64
    rw [PySem.ofString_length]
    omega
theorem in_run (T : InTxt P K mg C fI fld) {x t0 : Addr} {v : Value} (hv : FmtU v) (X : K.In s.heap) (hg : s.heap.Ns mainGlobals mg) (hbn : s.heap.Ns builtinsNs mb) (hbb : ∀ x : Str, x ≠ "__name__" → mb x = bootBuiltins x) (hlim : s.heap.NoLimit)
    (hx : s.heap.get? x = some (excO C t0)) (hnx : K.lookup x = none) (hroom : A.depth < recursionLimit) (hq : ∀ h' tk dx t1, InEnd s.heap h' x C dx t1 fld v → R (.ok (.ret .none)) { s with heap := h', toks := tk }) :
    codeAny (model P w) A (.call (.ref fI) ⟨[.ref x, v], []⟩) R s := by
  obtain ⟨oc, od, doc, pm, an, ct, osl, cc, cda, qual, msg, scope, p1, p2, k, q, ho, hcd, hmsg, hk, hco, hgen, hcell, hself, hfld, hsup, hcls, hne, hdb, hline, hbi, ⟨cl, cld, csl, hcc⟩, ccl, cdd, vs, ccs, file, tf, hcda, hvs, hfile⟩ := T.fn
  obtain ⟨nm, qn, N, bs, bm, sn, sub, ab, col, dd, k0, k1, k2, k3, k5, hC, hbm⟩ := T.cls
  have hcl : clsIn K C = some { name := nm, bases := bs, mro := .ref C :: bm, ns := N, qualname := qn, hasDict := true, slotNames := sn, subclasses := sub, abstract := ab, collection := col, hasDel := false } := by unfold clsIn; rw [hC] <;> rfl
  have hxL : x ≠ s.heap.objs.size := Nat.ne_of_lt (Heap.lt_size hx)
  refine ks_codeAny_call_defAt (fd := ksFn "__init__" qual (inA fld p1 p2) (inB fld msg k q) scope .none .none doc pm an (.ref cda) ct cc) (body := inB fld msg k q) (binds := [("self", .ref x), (fld, v)]) hroom (X _ _ ho) rfl hlim (codeRec_of X hcd) rfl ?hbind hcell ?hloc (fun h₁ hns hk₁ => ?_) hco hgen hk
  case hbind => exact BindsTo.of_eq (hbi _ _)
  case hloc =>
    intro y hy
    rcases List.mem_cons.mp hy with rfl | hy
    · exact hself
    · rcases List.mem_cons.mp hy with rfl | hy
      · exact hfld
      · cases hy
  have vself : (fun y => [(("self" : Str), Value.ref x), (fld, v)].reverse.lookup y) ("self" : Str) = some (.ref x) := by
    show List.lookup ("self" : Str) [(fld, v), ("self", .ref x)] = _
    have e : (("self" : Str) == fld) = false := by simpa using fun z => hne z.symm
    rw [List.lookup_cons, e]; rfl
  have vfld : (fun y => [(("self" : Str), Value.ref x), (fld, v)].reverse.lookup y) fld = some v := by
    show List.lookup fld [(fld, v), ("self", .ref x)] = _
    rw [List.lookup_cons]; simp
  generalize (fun y => [(("self" : Str), Value.ref x), (fld, v)].reverse.lookup y) = m at hns vself vfld
  have X₁ : K.In h₁ := X.keeps hk₁
  have hx₁ := hk₁ _ _ hx
  obtain ⟨hp, g, d, tk, os⟩ := s
  -- super()
  generalize hen : callEnv (ksFn "__init__" qual (inA fld p1 p2) (inB fld msg k q) scope .none .none doc pm an (.ref cda) ct cc) (⟨hp, g, d, tk, os⟩ : Shared).heap.objs.size fI = en
  have he : eval (.Call (.Attribute (.Call (.Name "super" (q 0)) [] [] (q 1)) "__init__" (q 2)) [.JoinedStr [.Constant (.str msg) k (q 3), .FormattedValue (.Name fld (q 4)) (-1) none (q 5)] (q 6)] [] (q 7)) en = (do
      let ov ← attributeBase (.Call (.Name "super" (q 0)) [] [] (q 1)) "__init__" en (eval (.Call (.Name "super" (q 0)) [] [] (q 1)) en)
      standAt (q 2).atName
      let (f, first) ← holding [ov] (getMethod ov "__init__" (do return (← importBound (.Call (.Name "super" (q 0)) [] [] (q 1)) en).getD true))
      callWith (q 7) f first (backTo (q 7) (starEach [.JoinedStr [.Constant (.str msg) k (q 3), .FormattedValue (.Name fld (q 4)) (-1) none (q 5)] (q 6)] en)) []) := by
    have hpos : methodCallPos true (.Call (.Name "super" (q 0)) [] [] (q 1)) en (q 2) (q 7) = pure (q 7) := by unfold methodCallPos; simp [hline]
    rw [arm_eval_Call]
    congr 1
    funext ov
    congr 1
    funext _
    unfold methodCall
    have hform : methodCallForm (([.JoinedStr [.Constant (.str msg) k (q 3), .FormattedValue (.Name fld (q 4)) (-1) none (q 5)] (q 6)] : List Expr).length + ([] : List Keyword).length) (backTo (q 7) (starEach [.JoinedStr [.Constant (.str msg) k (q 3), .FormattedValue (.Name fld (q 4)) (-1) none (q 5)] (q 6)] en)) (backToKw (q 7) (keywordEach [] en)) = true := by rfl
    rw [hform, hpos]
    rfl
  have e1 : en.kindOf "super" = some .globalImplicit := by subst hen; exact hsup
  have e2 : en.kindOf "__class__" = some .free := by subst hen; exact hcls
  have e3 : en.func = some fI := by subst hen; rfl
  have e4 : en.code = .ref cda := by subst hen; rfl
  have e5 : en.scope.kind = .function := by subst hen; exact hk
  have e6 : en.globals = mainGlobals := by subst hen; rfl
  have e7 : en.builtins = builtinsNs := by subst hen; rfl
  have e8 : en.cells.lookup ("__class__" : Str) = some cc := by subst hen; rfl
  have e9 : en.locals = hp.objs.size := by subst hen; rfl
  have e10 : en.kindOf "self" = some .local := by subst hen; exact hself
  have e11 : en.kindOf fld = some .local := by subst hen; exact hfld
  have e12 : interactive en = false := by simp [interactive, e5]
  have hnL : h₁.Ns en.locals m := by rw [e9]; exact hns
  clear hen
  -- super()
  refine ks_wpAt_execs_cons (ks_wpAt_Expr_any (ks_wpAt_MethodCall (ks_wpAt_super_base e1 e2 rfl e3 (hk₁ _ _ (X _ _ ho)) rfl rfl e4 (X₁ _ _ hcda) rfl hvs hfile T.top ?_) he) e12 (by rfl))
  refine ks_loadName_global e5 e1 (loadGlobal_builtin (by rw [e6]; exact hg.keeps hk₁) T.noS (by rw [e7]; exact hbn.keeps hk₁) ((hbb _ (by decide +kernel)).trans (show bootBuiltins "super" = some (.type "super") by decide +kernel)) ⟨rfl, ?_⟩)
  refine wpAny_loadName_free e5 e2 e8 ⟨_, X₁ _ _ hcc, rfl⟩ ?_
  refine wpAny_loadName_local e5 e10 hnL vself ?_
  refine ks_wpAny_isType_cls (X₁ _ _ hC) rfl ⟨rfl, ?_⟩
  refine ks_wpAny_call_super (X₁ _ _ hC) rfl hx₁ rfl (fun c e => by cases e) (looks_mroIn X₁ T.meC) (fun h2 hso k2 => ?_)
  have X₂ : K.In h2 := X₁.keeps k2
  have hI : Looks (model P w) h2 (isInstance (.ref x) (.type "ValueError")) true := Looks.andThen (a := Value.ref C) (fun A Q E s k q => wpAny_typeOf_ref (k _ _ (k2 _ _ hx₁)) q) (looks_subIn X₂ T.veC)
  have hms := T.sup
  unfold ks_superIn at hms
  rw [hcl] at hms
  have hxC : x ≠ C := fun z => by rw [z, hC] at hnx; cases hnx
  refine kxs_getMethod kxs_ValueError hso (looks_opaque X₂ T.thp) (l₀ := .ref C :: bm) (fun A Q E s k q => wpAny_bind ((looks_clsIn X₂ hcl) A _ E s k (wpAny_pure q))) rfl X₂ hms hI hxC (by decide +kernel) ?_
  -- the wrapper, called
  have hxb : x < hp.objs.size := Heap.lt_size hx
  have b12 : h₁.objs.size ≤ h2.objs.size := by
    have this : h₁.objs.size < h2.objs.size := Heap.lt_size hso
    omega
  have bL : hp.objs.size < h₁.objs.size := hns.lt
  have k3 : ∀ b o, hp.get? b = some o → (h2.push (kxs_mw "ValueError.__init__" x)).get? b = some o := fun b o e => Heap.get?_push_of_some _ (k2 _ _ (hk₁ _ _ e))
  have fr3 : Fr (hideAll hp [x]) hp.objs.size (h2.push (kxs_mw "ValueError.__init__" x)) m := ⟨(hns.keeps k2).keeps fun b o e => Heap.get?_push_of_some _ e, fun b o e => k3 b o (of_hideAll _ e), Nat.le_of_eq (hideAll_size _ _)⟩
  have nw3 : News (hideAll hp [x]) hp.objs.size (h2.push (kxs_mw "ValueError.__init__" x)) [(h2.objs.size, kxs_mw "ValueError.__init__" x), (x, excObj C t0 none .none)] := by
    intro p hpm
    rcases List.mem_cons.mp hpm with rfl | hpm
    · refine ⟨Heap.get?_push_at rfl rfl, fun z => ?_, ?_⟩
      · have z : h2.objs.size = hp.objs.size := z
        omega
      · cases z : (hideAll hp [x]).get? h2.objs.size with
        | none => rfl
        | some o =>
          have := Heap.lt_size (of_hideAll _ z)
          have this : h2.objs.size < hp.objs.size := this
          omega
    · rcases List.mem_cons.mp hpm with rfl | hpm
      · exact ⟨k3 _ _ hx, hxL, hideAll_none _ (List.mem_cons_self)⟩
      · cases hpm
  have X0 : K.In (hideAll hp [x]) := fun b o e => hideAll_get _ (X b o e) (by
    intro z
    rcases List.mem_cons.mp z with rfl | z
    · rw [hnx] at e; cases e
    · cases z)
  refine kxs_callWith1 (i := "ValueError.__init__") (x := x) nw3 (List.mem_cons_self) (spliced_more (msg_run (M := id) hv hmsg e5 e11 (by rw [e9]; exact fr3.ns) vfld hdb fun out t tk2 => spliced_none ⟨?_, ?_⟩))
  · exact Heap.get?_push_at rfl rfl
  refine kxs_call (m := m) fr3 X0 nw3 F.excBase_ValueError T.ei (List.mem_cons_self) (.tail (Nat.ne_of_gt (Nat.lt_of_lt_of_le hxb (Nat.le_trans (Nat.le_of_lt bL) b12))) (.head fun p hp => by cases hp)) (by show 1 ≤ sizeLine; have := sizeL; omega) fun t' h4 F4 N4 _ => ?_
  have hx4 : h4.get? x = some (excO C t') := (N4 (x, excObj C t' none .none) (by simp)).1
  have X4 : K.In h4 := X0.keeps F4.keep
  -- self.f = v
  refine wpAt_of_wpAny ?_
  refine wpAny_execs_cons (plainObj_wpAny_Assign_Attribute ?_)
  refine wpAny_Name (wpAny_loadName_local e5 e11 (show (Shared.mk h4 g d tk2 os).heap.Ns en.locals m by rw [e9]; exact F4.ns) vfld ?_) hdb
  refine wpAny_Name (wpAny_loadName_local e5 e10 (show (Shared.mk h4 g d tk2 os).heap.Ns en.locals m by rw [e9]; exact F4.ns) vself ?_) (by decide +kernel)
  refine set_plain X4 (ox := excO C t') (od := none) ⟨hx4, rfl, rfl, trivial⟩ T.sa ?_
  refine exc_osa X4 hx4 hcl (show refsVE (.ref C :: bm) = true from hbm) rfl T.no (fun h5 tk5 dx k5 dn dne hx5 hn5 => ?_)
  refine wpAny_execs_nil (hq h5 tk5 dx t' ⟨fun b o hb e => k5 b o hb (F4.keep b o (hideAll_get _ e fun z => ?_)), hx5, ?_, dne, hn5⟩)
  · rcases List.mem_cons.mp z with z | z
    · exact hb z
    · cases z
  · have : hp.objs.size < h4.objs.size := F4.ns.lt
    have dn : h4.objs.size ≤ dx := dn
    show hp.objs.size ≤ dx
    omega
end
end Z

set_option Elab.async false
set_option linter.all false
set_option maxRecDepth 100000
set_option maxHeartbeats 4000000
namespace Z
open PySem PySem.Spec PySem.W PySem.Calls PyProof.Rows PySem.HandSPX

/-- an error that was made -/
structure Made (h h' : Heap) (e C d : Addr) (fld : Str) (v : Value) : Prop where
  keep : ∀ b o, h.get? b = some o → h'.get? b = some o
  new : h.objs.size ≤ e
  obj : ∃ t1 : Addr, h'.get? e = some { cls := .ref C, dict := some d, data := .fields #[.ref t1, .none, .none, .none, .bool false, .none] }
  dbig : h.objs.size ≤ d
  dne : d ≠ e
  ns : h'.Ns1 d (fun y => if y = fld then some v else none)
section
variable {P : Program} {w : World} {A : Around} {R : Result → Shared → Prop} {s : Shared} {K : Frag} {mg mb : Str → Option Value} {C fI : Addr} {fld : Str}
theorem made_run (T : InTxt P K mg C fI fld) {v : Value} (hv : FmtU v) (X : K.In s.heap) (hg : s.heap.Ns mainGlobals mg) (hbn : s.heap.Ns builtinsNs mb) (hbb : ∀ x : Str, x ≠ "__name__" → mb x = bootBuiltins x) (hlim : s.heap.NoLimit)
    (hroom : A.depth + 1 < recursionLimit) (hq : ∀ h' tk e d, Made s.heap h' e C d fld v → R (.ok (.ret (.ref e))) { s with heap := h', toks := tk }) : codeAny (model P w) A (.call (.ref C) ⟨[v], []⟩) R s := by
  obtain ⟨nm, q, N, bs, bm, sn, sub, ab, col, dd, k0, k1, k2, k3, k5, hC, hbm⟩ := T.cls
  obtain ⟨hp, g, dr, tk, os⟩ := s
  have k : ∀ b o, hp.get? b = some o → ((hp.push (kdv_tup [v])).push (excO C hp.objs.size)).get? b = some o := fun b o e => Heap.get?_push_of_some _ (Heap.get?_push_of_some _ e)
  have hget : ((hp.push (kdv_tup [v])).push (excO C hp.objs.size)).get? (hp.objs.size + 1) = some (excO C hp.objs.size) := by heap_get
  have hnx : K.lookup (hp.objs.size + 1) = none := by
    cases e : K.lookup (hp.objs.size + 1) with
    | none => rfl
    | some o =>
      have z := Heap.lt_size (show hp.get? (hp.objs.size + 1) = some o from X _ _ e)
      exact absurd (Nat.lt_of_succ_lt z) (Nat.lt_irrefl _)
  refine call_own F.excBase_ValueError (fun Y => refsVE_contains Y bm hbm) (X _ _ hC) (looks_findIn X T.iC) (fun self => bind_fn X self T.tC) (by show 1 ≤ sizeLine; have := sizeL; omega) ?_
  refine in_run (s := ⟨(hp.push (kdv_tup [v])).push (excO C hp.objs.size), g, dr, tk, os⟩) T hv (X.keeps k) (hg.keeps k) (hbn.keeps k) hbb (hlim.keeps k) hget hnx hroom fun h' tk' dx t1 e => ?_
  have old : ∀ b o, hp.get? b = some o → h'.get? b = some o := fun b o q => e.keep b o (Nat.ne_of_lt (Nat.lt_succ_of_lt (Heap.lt_size q))) (k b o q)
  have z : hp.objs.size + 1 + 1 ≤ dx := by
    have q := e.dbig
    rw [Heap.size_push, Heap.size_push] at q
    exact q
  exact ⟨rfl, hq h' tk' (hp.objs.size + 1) dx ⟨old, Nat.le_succ _, ⟨t1, e.obj⟩, Nat.le_trans (Nat.le_trans (Nat.le_succ _) (Nat.le_succ _)) z, e.dne, e.ns⟩⟩
end
end Z
namespace Z
open PySem PySem.Spec PyProof.Rows L2
theorem relO_one {f g : Str} {v : V} {u : Value} (r : RelV v u) : RelO (List.lookup g [(f, v)]) (if g = f then some u else none) := by
  by_cases h : g = f
  · subst h; rw [if_pos rfl]
    have : List.lookup g [(g, v)] = some v := by simp [List.lookup]
    rw [this]; exact r
  · rw [if_neg h]
    have e : (g == f) = false := by simpa using h
    have : List.lookup g [(f, v)] = none := by simp [List.lookup, e]
    rw [this]; trivial
section
variable {X : Cx} {C fI : Addr} {fld x : Str} {lv : Nat}
theorem fmt_u {v : V} {u : Value} (h : fmtV v) (r : RelV v u) : FmtU u := by
  rcases h with ⟨y, rfl, hy⟩ | ⟨i, rfl, hi⟩
  · obtain ⟨t, rfl⟩ := r; exact .inl ⟨y, t, rfl, hy⟩
  · obtain ⟨t, rfl⟩ := r; exact .inr ⟨i, t, rfl, hi⟩
theorem mk_ok (T : InTxt X.prog X.K X.mg C fI fld) (hm : X.mg x = some (.ref C)) (hr : Room lv X.A) : MkOk X x C fld := by
  intro e te p pos g ns pe pins s σ H Q I h
  obtain ⟨gl, dbg⟩ := gl_ok g
  refine wpAny_Call_Name_kw (ld_glob I gl hm ?_ dbg)
  refine PySem.W.callWith_K (h₀ := X.base) I.ok.mod.kin T.kC (thn ((pa_cons pe pa_nil (star_ok ns)).run pos pins s σ H (fun vs H1 => match vs with
    | [v] => fmtV v ∧ ∀ d, H1 d = none → Q (.ref C) (some d) (upd H1 d (.xd [(fld, v)]))
    | _ => False) I h) fun us s1 hh => ?_) (star_ok ns) rfl
  obtain ⟨vs, H1, I1, r1, hh⟩ := hh
  obtain ⟨v, rfl, fv, q1⟩ : ∃ v, vs = [v] ∧ fmtV v ∧ ∀ d, H1 d = none → Q (.ref C) (some d) (upd H1 d (.xd [(fld, v)])) := by
    rcases vs with _ | ⟨v, _ | ⟨w, vs⟩⟩
    · exact hh.elim
    · exact ⟨v, rfl, hh⟩
    · exact hh.elim
  refine ⟨I1.kIn, ?_⟩
  cases r1 with
  | cons rv rn =>
    rename_i v' us'
    cases rn
    show wpAny _ _ (call (.ref C) [v']) _ _ _
    have hlim := I1.nolimit
    obtain ⟨mb, hb1, hb2⟩ := I1.ok.mod.blt
    have hg := I1.ok.mod.glob.keeps I1.bk
    have hbn := hb1.keeps I1.bk
    obtain ⟨hp, gs, dr, tk, os⟩ := s1
    refine wpAny_call (made_run T (fmt_u fv rv) I1.kIn hg hbn hb2 hlim (by have := hr.dp; omega) fun h' tk' e d M => ?_)
    show MkP X pins σ Q (.ref e) ⟨h', gs, dr, tk', os⟩
    obtain ⟨t1, hoe⟩ := M.obj
    have hns := M.ns
    obtain ⟨G', g1, g2⟩ := restrict h' fun b => decide (b ≠ e)
    have gk : ∀ b, b ≠ e → G'.get? b = h'.get? b := fun b hb => g1 b (decide_eq_true hb)
    have ge : G'.get? e = none := g2 e (by simp)
    have old : ∀ b o, hp.get? b = some o → G'.get? b = some o := fun b o q => (gk b (Nat.ne_of_lt (Nat.lt_of_lt_of_le (Heap.lt_size q) M.new))).trans (M.keep b o q)
    have ob : ObjOk X.prog X.w (upd H1 d (.xd [(fld, v)])) G' d (.xd [(fld, v)]) := ⟨_, hns.at (fun o q => (gk d M.dne).trans q), fun f => relO_one rv⟩
    have J : Inv X pins σ (upd H1 d (.xd [(fld, v)])) ⟨G', gs, dr, tk', os⟩ := I1.laid (t' := tk') old M.dbig ob
    refine ⟨e, _, _, ⟨G', gs, dr, tk', os⟩, _, .ref C, some d, rfl, J, fun b o q => ?_, ge, hoe, ⟨rfl, rfl⟩, rfl, rfl, ?_, rfl, I1.bare, raises_own T.exC T.tyC, q1 d (I1.hok.fresh M.dbig)⟩
    · by_cases hb : b = e
      · have q' : G'.get? b = some o := q
        rw [hb, ge] at q'; cases q'
      · exact (gk b hb).symm.trans q
    · rw [upd_ne (Ne.symm M.dne)]
      exact I1.hok.fresh M.new
end
end Z

set_option Elab.async false
set_option linter.all false
set_option maxRecDepth 100000
set_option maxHeartbeats 4000000
namespace Z
open PySem PySem.Spec PyProof.Rows L2

/-! ## a program's defs and errors -/
structure DefC where
  name : Str
  ar : Nat
  N : List Str
  calls : List Nat
  gcs : List (Str × Int)
  body : S
structure ErrD where
  id : Nat
  name : Str
  msg : Str
  k : Nat
  qs : List Pos
  p1 : Pos
  p2 : Pos
  scope : Scope
  qual : Str
def ErrD.q (e : ErrD) : Nat → Pos := fun i => e.qs.getD i ⟨0, 0, 0, 0⟩
section
variable (cs : List DefC) (es : List ErrD)
def locT (calls : List Nat) (T : Tb) : Tb := fun i => (calls[i]?).bind T
def cstC (gcs : List (Str × Int)) : Nat → Option PyData := fun g => (gcs[g]?).map fun p => .int p.2
def tbl : Nat → Tb
  | 0 => fun _ => none
  | k + 1 => fun id => (cs[id]?).map fun c => (c.ar, evDef (locT c.calls (tbl k)) (cstC c.gcs) c.N.length c.body)
def errOf (c : Nat) : Option ErrD := es.find? fun e => e.id == c
def xcZ : Nat → Option Str := fun j => if j = 10 then (if es.isEmpty then none else some "ReelError") else (errOf es j).map (·.name)
def x9Z (K : PySem.W.Frag) : Nat → Addr × Str := fun c => match errOf es c with
  | some e => (He.ga K e.name, atN c)
  | none => (0, ⟨#[]⟩)
def cvZ (K : PySem.W.Frag) : Nat → Value := fun j => if j = 11 then .type "ValueError" else if 10 ≤ j then .ref (He.ga K "ReelError") else match errOf es j with
  | some e => .ref (He.ga K e.name)
  | none => .none
def nmD (j : Nat) : Str := match cs[j]? with
  | some c => c.name
  | none => ⟨#[]⟩
def nxZ (c : DefC) : Nx := ⟨c.N, c.calls.map (nmD cs), c.gcs.map (·.1), xcZ es⟩
end

/-! ## what the text says -/
def scB (N P : List Str) (sc : Scope) : Bool := (match sc.kind with
  | .function => true
  | _ => false) && (!sc.isCoroutine && (!sc.isGenerator && (decide N.Nodup && (decide (N.take P.length = P) && ((P.all fun x => kB sc x .local || kB sc x .cell) && sc.names.all fun y => !(y.2 == .free))))))
theorem scB_ok {N P : List Str} {sc : Scope} (h : scB N P sc = true) : FnScope N P sc := by
  obtain ⟨h1, h⟩ := ba h
  obtain ⟨h2, h⟩ := ba h
  obtain ⟨h3, h⟩ := ba h
  obtain ⟨h4, h⟩ := ba h
  obtain ⟨h5, h⟩ := ba h
  obtain ⟨h6, h7⟩ := ba h
  refine ⟨?_, by simpa using h2, by simpa using h3, of_decide_eq_true h4, of_decide_eq_true h5, fun x hx => ?_, fun y hy => ?_⟩
  · split at h1
    · assumption
    · cases h1
  · rcases Bool.or_eq_true_iff.mp (List.all_eq_true.mp h6 x hx) with z | z
    · exact .inl (kB_ok z)
    · exact .inr (kB_ok z)
  · have := List.all_eq_true.mp h7 y hy
    intro z
    rw [z] at this
    cases this
def ckD (cs : List DefC) (es : List ErrD) (c : DefC) (d : He.DefD) : Bool := decide (c.ar ≤ c.N.length) && (decide (d.at_ = (c.name, none)) && (decide (d.dfl.length = 0) && (scB c.N (c.N.take c.ar) d.scope && (ckS (nxZ cs es c) d.scope c.body).l d.body)))
/-- parameters bind by place -/
def BindP (n : Nat) (N : List Str) (d : He.DefD) : Prop := ∀ (kV doc pm : Value) (an : Option Addr) (cdv ct : Value) (us : List Value), us.length = n → bindArgs (PySem.W.fnOf d.name d.qual d.params d.body d.scope .none kV doc pm an cdv ct) ⟨us, []⟩ = pure ((N.take n).zip us)

/-! ## what the heap says -/
def isNon : Value → Bool
  | .none => true
  | _ => false
def shapeB (K : PySem.W.Frag) (C : Addr) : Bool := match K.lookup C with
  | some ⟨.type t, _, .cls cd, sl⟩ => decide (t = "type") && (match cd.mro, sl.toList with
    | .ref C' :: bm, [_, _, _, _, some (.builtin n), _] => (C' == C && n == "ValueError.__new__") && (!cd.hasDel && (cd.hasDict && PySem.HandSPX.refsVE bm))
    | _, _ => false)
  | _ => false
theorem shape_ok {K : PySem.W.Frag} {C : Addr} (h : shapeB K C = true) : ∃ nm q N bs bm sn sub ab col dd k0 k1 k2 k3 k5, K.lookup C = some (excClassObj nm q C N bs bm true sn sub ab col dd k0 k1 k2 k3 k5 "ValueError.__new__") ∧ PySem.HandSPX.refsVE bm = true := by
  unfold shapeB at h
  split at h
  · rename_i t dd cd sl ho
    obtain ⟨h1, h2⟩ := ba h
    have e1 := of_decide_eq_true h1
    subst e1
    split at h2
    · rename_i C' bm k0 k1 k2 k3 n k5 hm hs
      obtain ⟨a, b⟩ := ba h2
      obtain ⟨a1, a2⟩ := ba a
      obtain ⟨b1, b⟩ := ba b
      obtain ⟨b2, b3⟩ := ba b
      have e2 := beq_iff_eq.mp a1
      have e3 := beq_iff_eq.mp a2
      obtain ⟨nm, bs, mro, ns, qn, hd, sn, sub, ab, col, del⟩ := cd
      dsimp only at hm b1 b2
      have e4 : del = false := by simpa using b1
      subst hm b2 e2 e3 e4
      have hsl : sl = #[k0, k1, k2, k3, some (.builtin "ValueError.__new__"), k5] := by
        obtain ⟨l⟩ := sl
        simp only at hs
        rw [hs]
      subst hsl
      exact ⟨nm, qn, ns, bs, bm, sn, sub, ab, col, dd, k0, k1, k2, k3, k5, ho, b3⟩
    · cases h2
  · cases h
abbrev InW : Type := Option (Str × Str × Arguments × FuncBody × Scope × Addr × List Str × Addr)
def inAd (K : PySem.W.Frag) (e : ErrD) : Addr := He.ma K (He.ga K e.name) "__init__"
def inW (K : PySem.W.Frag) (e : ErrD) : InW := match K.lookup (inAd K e) with
  | some ⟨_, _, .func fd, _⟩ => some (fd.name, fd.qualname, fd.params, fd.body, fd.scope, fd.globals, fd.closure.map (·.1), fd.builtins)
  | _ => none
def ErrD.val (e : ErrD) : InW := some ("__init__", e.qual, inA (atN e.id) e.p1 e.p2, .stmts (inB (atN e.id) e.msg e.k e.q), e.scope, mainGlobals, ["__class__"], builtinsNs)
/-- the rest of an __init__'s object -/
def inR (P : Program) (K : PySem.W.Frag) (e : ErrD) : Bool := match K.lookup (inAd K e) with
  | some ⟨_, _, .func fd, _⟩ => (isNon fd.defaults && isNon fd.kwdefaults) && ((match fd.closure with
    | [(_, cc)] => (match K.lookup cc with
      | some ⟨_, _, .cell (some (.ref C)), _⟩ => C == He.ga K e.name
      | _ => false)
    | _ => false) && (match fd.code with
    | .ref cda => PySem.W.codeIn K (.ref cda) e.qual && (match K.lookup cda with
      | some ⟨_, _, .fields vs, _⟩ => (match vs[2]? with
        | some (Value.str file _) => (P.main.file : Str) == file
        | _ => false)
      | _ => false)
    | _ => false))
  | _ => false
def veL : List Value := [.type "ValueError", .type "Exception", .type "BaseException", .type "object"]
def clsB (P : Program) (es : List ErrD) (K : PySem.W.Frag) (e : ErrD) : Bool :=
  let C := He.ga K e.name
  (He.Fa.glo e.name).ok K && (shapeB K C && (xfB K C && (decide (PySem.W.findIn K (.ref C) "__setattr__" = some (some (.builtin "object.__setattr__"))) && (decide (PySem.W.findIn K (.ref C) (atN e.id) = some none) &&
  (decide (PySem.W.findIn K (.ref C) "__init__" = some (some (.ref (inAd K e)))) && (decide (PySem.W.typeIn K (.ref (inAd K e)) = some (.type "function")) && (PySem.W.keepIn K (.ref C) &&
  (decide (PySem.W.subIn K (.ref C) (.type "ValueError") = some true) && (decide (PySem.W.mroIn K C (.ref C) = some true) && (decide (PySem.W.typeIn K (.ref C) = some (.type "type")) &&
  (decide (PySem.W.ks_superIn K C C "__init__" = some (some (.builtin "ValueError.__init__"))) && (PySem.W.excInitIn K C veL "ValueError.__new__" && (inR P K e &&
  (decide (PySem.W.exmOne K (.ref C) (.ref (He.ga K "ReelError")) = some true) && (decide (PySem.W.kitOne K (.ref C) (.type "ValueError") = some true) && (decide (PySem.W.kitOne K (.ref C) (.ref (He.ga K "ReelError")) = some true) &&
  ((es.all fun e' => decide (PySem.W.kitOne K (.ref C) (.ref (He.ga K e'.name)) = some (e.id == e'.id))) && (decide (PySem.W.findIn K (.ref C) "__class__" = some (some (.builtin "object.__class__"))) && decide (PySem.W.mroIn K C (.type "object") = some true)))))))))))))))))))
def exZ (P : Program) (cs : List DefC) (es : List ErrD) (K : PySem.W.Frag) : Bool :=
  (cs.all fun c => (He.Fa.glo c.name).ok K && c.gcs.all fun p => (He.Fa.int p.1 p.2).ok K) && ((((("ValueError" : Str) :: ("super" : Str) :: biNames)).all fun x => (He.Fa.free x).ok K) && ((K.all fun p => notList p.2) &&
  ((es.isEmpty || ((He.Fa.glo "ReelError").ok K && (decide (PySem.W.specialIn K (.builtin "object.__class__") "__get__" = some (some (.builtin "getset_descriptor.__get__"))) && (decide (PySem.W.takesIn K (.builtin "object.__class__") = some true) && decide (PySem.W.nsIn K cStatics "thirdparty.any" = some none))))) && es.all fun e => clsB P es K e)))
def asZ (g : Addr → Option Obj) : Nat → List Addr
  | 0 => [mainGlobals, cStatics]
  | n + 1 => He.growD g (asZ g n)
abbrev AlZ : Type := Bool × List He.FnW × List InW
def obsK (P : Program) (cs : List DefC) (ds : List He.DefD) (es : List ErrD) (K : PySem.W.Frag) : AlZ := (exZ P cs es K && ds.all fun d => d.ok K, ds.map fun d => He.fnW K d.at_, es.map (inW K))
def obsZ (n : Nat) (P : Program) (cs : List DefC) (ds : List He.DefD) (es : List ErrD) (g : Addr → Option Obj) : AlZ := obsK P cs ds es (He.frG g (asZ g n))
def valZ (ds : List He.DefD) (es : List ErrD) : AlZ := (true, ds.map He.DefD.val, es.map ErrD.val)
def hookZ (n : Nat) (P : Program) (cs : List DefC) (ds : List He.DefD) (es : List ErrD) : PySem.W.Hook where
  α := AlZ
  obs := fun s => obsZ n P cs ds es s.heap.get?
  val := fun _ => valZ ds es
  says := fun _ h => ∃ K : PySem.W.Frag, K.In h ∧ obsK P cs ds es K = valZ ds es
  of := fun _ _ e => ⟨_, He.frG_in, e⟩
  keeps := fun _ _ _ ⟨K, hK, c⟩ k => ⟨K, PySem.W.Frag.In.keeps hK k, c⟩
theorem obsZ_eq {n : Nat} {P : Program} {cs : List DefC} {ds : List He.DefD} {es : List ErrD} {g : Addr → Option Obj} {s : Shared} (h : ∀ a, g a = s.heap.get? a) : obsZ n P cs ds es g = (hookZ n P cs ds es).obs s := by
  have e : g = s.heap.get? := funext h
  rw [e] <;> rfl

/-! ## facts -/
section
variable {P : Program} {cs : List DefC} {ds : List He.DefD} {es : List ErrD} {K : PySem.W.Frag} {h : Heap} {mg : Str → Option Value}
theorem obs_ex (c : obsK P cs ds es K = valZ ds es) : exZ P cs es K = true ∧ ∀ d ∈ ds, d.ok K = true := by
  have e : (exZ P cs es K && ds.all fun d => d.ok K) = true := congrArg (fun z : AlZ => z.1) c
  obtain ⟨a, b⟩ := ba e
  exact ⟨a, fun d hd => List.all_eq_true.mp b d hd⟩
theorem obs_def (c : obsK P cs ds es K = valZ ds es) {d : He.DefD} (hd : d ∈ ds) : ∃ fd, FunD K d.name d.qual d.params d.body d.scope (d.dvs K) (d.kws K) (He.fAd K d.at_) fd := by
  have e : ds.map (fun d => He.fnW K d.at_) = ds.map He.DefD.val := congrArg (fun z : AlZ => z.2.1) c
  obtain ⟨i, hi⟩ := List.mem_iff_getElem?.mp hd
  have e2 : (ds.map fun d => He.fnW K d.at_)[i]? = (ds.map He.DefD.val)[i]? := by rw [e]
  rw [List.getElem?_map, List.getElem?_map, hi] at e2
  exact He.DefD.funD (Option.some.inj e2) ((obs_ex c).2 d hd)
theorem obs_in (c : obsK P cs ds es K = valZ ds es) {e : ErrD} (he : e ∈ es) : inW K e = e.val := by
  have z : es.map (inW K) = es.map ErrD.val := congrArg (fun z : AlZ => z.2.2) c
  obtain ⟨i, hi⟩ := List.mem_iff_getElem?.mp he
  have e2 : (es.map (inW K))[i]? = (es.map ErrD.val)[i]? := by rw [z]
  rw [List.getElem?_map, List.getElem?_map, hi] at e2
  exact Option.some.inj e2
theorem find_mem {c : Nat} {e : ErrD} (h : errOf es c = some e) : e ∈ es ∧ e.id = c := by
  unfold errOf at h
  exact ⟨List.mem_of_find?_eq_some h, by have := List.find?_some h; exact beq_iff_eq.mp this⟩
/-- a class's facts -/
structure ClsF (P : Program) (es : List ErrD) (K : PySem.W.Frag) (e : ErrD) : Prop where
  glo : (He.Fa.glo e.name).ok K = true
  shape : shapeB K (He.ga K e.name) = true
  xf : XfC K (He.ga K e.name)
  sa : PySem.W.findIn K (.ref (He.ga K e.name)) "__setattr__" = some (some (.builtin "object.__setattr__"))
  no : PySem.W.findIn K (.ref (He.ga K e.name)) (atN e.id) = some none
  iC : PySem.W.findIn K (.ref (He.ga K e.name)) "__init__" = some (some (.ref (inAd K e)))
  tC : PySem.W.typeIn K (.ref (inAd K e)) = some (.type "function")
  kC : PySem.W.keepIn K (.ref (He.ga K e.name)) = true
  ve : PySem.W.subIn K (.ref (He.ga K e.name)) (.type "ValueError") = some true
  me : PySem.W.mroIn K (He.ga K e.name) (.ref (He.ga K e.name)) = some true
  ty : PySem.W.typeIn K (.ref (He.ga K e.name)) = some (.type "type")
  sup : PySem.W.ks_superIn K (He.ga K e.name) (He.ga K e.name) "__init__" = some (some (.builtin "ValueError.__init__"))
  ei : PySem.W.excInitIn K (He.ga K e.name) veL "ValueError.__new__" = true
  inr : inR P K e = true
  exm : PySem.W.exmOne K (.ref (He.ga K e.name)) (.ref (He.ga K "ReelError")) = some true
  kv : PySem.W.kitOne K (.ref (He.ga K e.name)) (.type "ValueError") = some true
  kr : PySem.W.kitOne K (.ref (He.ga K e.name)) (.ref (He.ga K "ReelError")) = some true
  ke : ∀ e' ∈ es, PySem.W.kitOne K (.ref (He.ga K e.name)) (.ref (He.ga K e'.name)) = some (e.id == e'.id)
  cl : PySem.W.findIn K (.ref (He.ga K e.name)) "__class__" = some (some (.builtin "object.__class__"))
  ob : PySem.W.mroIn K (He.ga K e.name) (.type "object") = some true
theorem clsF_of {e : ErrD} (h : clsB P es K e = true) : ClsF P es K e := by
  obtain ⟨h1, h⟩ := ba h
  obtain ⟨h2, h⟩ := ba h
  obtain ⟨h3, h⟩ := ba h
  obtain ⟨h4, h⟩ := ba h
  obtain ⟨h5, h⟩ := ba h
  obtain ⟨h6, h⟩ := ba h
  obtain ⟨h7, h⟩ := ba h
  obtain ⟨h8, h⟩ := ba h
  obtain ⟨h9, h⟩ := ba h
  obtain ⟨h10, h⟩ := ba h
  obtain ⟨h11, h⟩ := ba h
  obtain ⟨h12, h⟩ := ba h
  obtain ⟨h13, h⟩ := ba h
  obtain ⟨h14, h⟩ := ba h
  obtain ⟨h15, h⟩ := ba h
  obtain ⟨h16, h⟩ := ba h
  obtain ⟨h17, h⟩ := ba h
  obtain ⟨h18, h⟩ := ba h
  obtain ⟨h19, h20⟩ := ba h
  exact ⟨h1, h2, xfB_ok h3, of_decide_eq_true h4, of_decide_eq_true h5, of_decide_eq_true h6, of_decide_eq_true h7, h8, of_decide_eq_true h9, of_decide_eq_true h10, of_decide_eq_true h11, of_decide_eq_true h12, h13, h14, of_decide_eq_true h15, of_decide_eq_true h16, of_decide_eq_true h17,
    fun e' he' => of_decide_eq_true (List.all_eq_true.mp h18 e' he'), of_decide_eq_true h19, of_decide_eq_true h20⟩
structure ExF (P : Program) (cs : List DefC) (es : List ErrD) (K : PySem.W.Frag) : Prop where
  glo : ∀ c ∈ cs, (He.Fa.glo c.name).ok K = true
  int : ∀ c ∈ cs, ∀ p ∈ c.gcs, (He.Fa.int p.1 p.2).ok K = true
  free : ∀ x : Str, x = "ValueError" ∨ x = "super" ∨ x ∈ biNames → (He.Fa.free x).ok K = true
  nl : ∀ b o, K.lookup b = some o → notList o = true
  rl : es ≠ [] → (He.Fa.glo "ReelError").ok K = true ∧ PySem.W.specialIn K (.builtin "object.__class__") "__get__" = some (some (.builtin "getset_descriptor.__get__")) ∧ PySem.W.takesIn K (.builtin "object.__class__") = some true ∧ PySem.W.nsIn K cStatics "thirdparty.any" = some none
  cls : ∀ e ∈ es, ClsF P es K e
theorem memA {a : Addr} {o : Obj} : ∀ {l : List (Addr × Obj)}, l.lookup a = some o → (a, o) ∈ l
  | [], h => by cases h
  | (b, u) :: r, h => by
    rw [List.lookup_cons] at h
    cases q : a == b with
    | true =>
      rw [q] at h
      cases h
      rw [beq_iff_eq.mp q]
      exact List.mem_cons_self
    | false =>
      rw [q] at h
      exact List.mem_cons_of_mem _ (memA h)
theorem exF_of (h : exZ P cs es K = true) : ExF P cs es K := by
  obtain ⟨h1, h⟩ := ba h
  obtain ⟨h2, h⟩ := ba h
  obtain ⟨h3, h⟩ := ba h
  obtain ⟨h4, h5⟩ := ba h
  refine ⟨fun c hc => (ba (List.all_eq_true.mp h1 c hc)).1, fun c hc p hp => List.all_eq_true.mp (ba (List.all_eq_true.mp h1 c hc)).2 p hp, fun x hx => List.all_eq_true.mp h2 x ?_, fun b o hb => ?_, fun hne => ?_, fun e he => clsF_of (List.all_eq_true.mp h5 e he)⟩
  · rcases hx with rfl | rfl | hx
    · simp
    · simp
    · simp [hx]
  · have : (b, o) ∈ K := memA hb
    exact List.all_eq_true.mp h3 _ this
  · rcases Bool.or_eq_true_iff.mp h4 with z | z
    · exact absurd (List.isEmpty_iff.mp z) hne
    · obtain ⟨z1, z⟩ := ba z
      obtain ⟨z2, z⟩ := ba z
      obtain ⟨z3, z4⟩ := ba z
      exact ⟨z1, of_decide_eq_true z2, of_decide_eq_true z3, of_decide_eq_true z4⟩
def inC (e : ErrD) : Bool := (match e.scope.kind with
  | .function => true
  | _ => false) && (!e.scope.isCoroutine && (!e.scope.isGenerator && (e.scope.names.all (fun y => !(y.2 == .cell)) && (kB e.scope "self" .local && (kB e.scope (atN e.id) .local && (kB e.scope "super" .globalImplicit && (kB e.scope "__class__" .free &&
  (((e.q 2).endLine == (e.q 7).line) && (decide (e.msg.length ≤ 1000) && decide (e.id < 10))))))))))
theorem atN_cases (c : Nat) : atN c = "at" ∨ atN c = "line" ∨ atN c = "reason" := by
  unfold atN
  by_cases h : c = 0
  · rw [if_pos h]; exact .inl rfl
  · rw [if_neg h]
    by_cases h2 : c = 9
    · rw [if_pos h2]; exact .inr (.inl rfl)
    · rw [if_neg h2]; exact .inr (.inr rfl)
theorem in_bind {f qual : Str} {p1 p2 : Pos} {body : List Stmt} {scope : Scope} {doc pm cd ct u z : Value} {an : Option Addr} {cc : Addr} (hf : f = "at" ∨ f = "line" ∨ f = "reason") :
    bindArgs (PySem.W.ksFn "__init__" qual (inA f p1 p2) body scope .none .none doc pm an cd ct cc) ⟨[u, z], []⟩ = pure [(("self" : Str), u), (f, z)] := by
  rcases hf with rfl | rfl | rfl <;> first | rfl | with_unfolding_all rfl
/-- what is known of a class's __init__ -/
theorem in_txt {e : ErrD} (X : K.In h) (G : h.Ns mainGlobals mg) (F : ExF P cs es K) (he : e ∈ es) (hi : inW K e = e.val) (htop : (P.main.scope.names.lookup ("super" : Str)).isSome = false) (ht : inC e = true) : InTxt P K mg (He.ga K e.name) (inAd K e) (atN e.id) := by
  have c := F.cls e he
  have ne : es ≠ [] := fun z => by rw [z] at he; cases he
  obtain ⟨r1, r2, r3, r4⟩ := F.rl ne
  obtain ⟨t1, ht⟩ := ba ht
  obtain ⟨t2, ht⟩ := ba ht
  obtain ⟨t3, ht⟩ := ba ht
  obtain ⟨t4, ht⟩ := ba ht
  obtain ⟨t5, ht⟩ := ba ht
  obtain ⟨t6, ht⟩ := ba ht
  obtain ⟨t7, ht⟩ := ba ht
  obtain ⟨t8, ht⟩ := ba ht
  obtain ⟨t9, ht⟩ := ba ht
  obtain ⟨t10, t11⟩ := ba ht
  refine ⟨shape_ok c.shape, c.sa, c.no, c.iC, c.tC, c.kC, c.xf.exC, c.ve, c.me, c.ty, c.sup, c.ei, r4, ?_, He.free_ok X G (F.free _ (.inr (.inl rfl))), htop⟩
  have hin := c.inr
  unfold inR at hin
  unfold inW at hi
  cases q : K.lookup (inAd K e) with
  | none => rw [q] at hin; cases hin
  | some o =>
    obtain ⟨oc, od, dt, osl⟩ := o
    rw [q] at hin hi
    cases dt with
    | func fd =>
      obtain ⟨n1, n2, n3, n4, n5, n6, n7, n8, n9, n10, n11, n12, n13, n14, n15⟩ := fd
      have e2 : (some (n1, n2, n3, n4, n5, n6, n7.map (·.1), n15) : InW) = some (("__init__" : Str), e.qual, inA (atN e.id) e.p1 e.p2, .stmts (inB (atN e.id) e.msg e.k e.q), e.scope, mainGlobals, [("__class__" : Str)], builtinsNs) := hi
      simp only [Option.some.injEq, Prod.mk.injEq] at e2
      obtain ⟨g1, g2, g3, g4, g5, g6, g7, g8⟩ := e2
      subst g1 g2 g3 g4 g5 g6 g8
      obtain ⟨i1, i2⟩ := ba hin
      obtain ⟨i3, i4⟩ := ba i1
      obtain ⟨i5, i6⟩ := ba i2
      dsimp only at i3 i4 i5 i6
      have d1 : n8 = .none := by cases n8 <;> first | rfl | (cases i3; done)
      have d2 : n9 = .none := by cases n9 <;> first | rfl | (cases i4; done)
      subst d1 d2
      split at i5
      · rename_i nm cc
        have hn : nm = "__class__" := by simpa using g7
        subst hn
        split at i5
        · rename_i cl cld C csl hcc
          have eC := beq_iff_eq.mp i5
          subst eC
          split at i6
          · rename_i cda
            obtain ⟨j1, j2⟩ := ba i6
            split at j2
            · rename_i ccl cdd vs ccs hcd
              split at j2
              · rename_i file tf hvs
                have hk : e.scope.kind = .function := by
                  split at t1
                  · assumption
                  · cases t1
                have hfs : atN e.id ≠ "self" := by rcases atN_cases e.id with z | z | z <;> rw [z] <;> decide
                have hdb : (atN e.id == ("__debug__" : Str)) = false := by rcases atN_cases e.id with z | z | z <;> rw [z] <;> decide +kernel
                exact ⟨oc, od, n10, n11, n12, n14, osl, cc, cda, e.qual, e.msg, e.scope, e.p1, e.p2, e.k, e.q, rfl, j1, of_decide_eq_true t10, hk, by simpa using t2, by simpa using t3, (fun y hy z => by
                  have := List.all_eq_true.mp t4 y hy
                  rw [z] at this; cases this), kB_ok t5, kB_ok t6, kB_ok t7, kB_ok t8, hfs, hdb, t9, fun u z => in_bind (atN_cases _), ⟨cl, cld, csl, hcc⟩, ccl, cdd, vs, ccs, file, tf, hcd, hvs, j2⟩
              · cases j2
            · cases j2
          · cases i6
        · cases i5
      · cases i5
    | _ => cases hin
end
end Z

set_option Elab.async false
set_option linter.all false
set_option maxRecDepth 100000
set_option maxHeartbeats 4000000
namespace Z
open PySem PySem.Spec PyProof.Rows L2
section
variable {P : Program} {w : World} {cs : List DefC} {ds : List He.DefD} {es : List ErrD} {K : PySem.W.Frag} {h base : Heap} {mg : Str → Option Value}
theorem x9_some {c : Nat} (p : (x9Z es K c).2 ≠ ⟨#[]⟩) : ∃ e, errOf es c = some e ∧ x9Z es K c = (He.ga K e.name, atN c) := by
  unfold x9Z at p ⊢
  cases q : errOf es c with
  | none => rw [q] at p; exact absurd rfl p
  | some e => exact ⟨e, rfl, rfl⟩
theorem atN_ne (c : Nat) : atN c ≠ ⟨#[]⟩ := by rcases atN_cases c with z | z | z <;> rw [z] <;> decide +kernel
theorem x9_of {c : Nat} {e : ErrD} (q : errOf es c = some e) : x9Z es K c = (He.ga K e.name, atN c) := by unfold x9Z; rw [q]
theorem md_of (X : K.In h) (G : h.Ns mainGlobals mg) (c : obsK P cs ds es K = valZ ds es) (hI : es.all inC = true) (htop : (P.main.scope.names.lookup ("super" : Str)).isSome = false) (lv : Nat) :
    Md P w K mg base (x9Z es K) (He.ga K "ReelError") (cvZ es K) (xcZ es) lv := by
  have F := exF_of (obs_ex c).1
  have hid : ∀ {j : Nat} {e : ErrD}, errOf es j = some e → e ∈ es ∧ e.id = j ∧ j < 10 := fun {j e} q => by
    obtain ⟨a, b⟩ := find_mem q
    have t := List.all_eq_true.mp hI e a
    obtain ⟨_, t⟩ := ba t
    obtain ⟨_, t⟩ := ba t
    obtain ⟨_, t⟩ := ba t
    obtain ⟨_, t⟩ := ba t
    obtain ⟨_, t⟩ := ba t
    obtain ⟨_, t⟩ := ba t
    obtain ⟨_, t⟩ := ba t
    obtain ⟨_, t⟩ := ba t
    obtain ⟨_, t⟩ := ba t
    obtain ⟨_, t⟩ := ba t
    exact ⟨a, b, by rw [← b]; exact of_decide_eq_true t⟩
  have xf : XF K (x9Z es K) (He.ga K "ReelError") (cvZ es K) := by
    refine ⟨fun c p => ?_, fun c p => ?_, fun c p => ?_, fun c p => ?_, fun c j p pj => ?_, fun c p => ?_⟩
    · obtain ⟨e, q, r⟩ := x9_some p; rw [r]
    · obtain ⟨e, q, r⟩ := x9_some p
      rw [r]; exact (F.cls e (hid q).1).xf
    · obtain ⟨e, q, r⟩ := x9_some p
      obtain ⟨a, b, _⟩ := hid q
      rw [r]; have := (F.cls e a).no; rw [b] at this; exact this
    · obtain ⟨e, q, r⟩ := x9_some p
      rw [r]; exact (F.cls e (hid q).1).exm
    · obtain ⟨e, q, r⟩ := x9_some p
      obtain ⟨a, b, c10⟩ := hid q
      rw [r]
      have C := F.cls e a
      unfold cvZ sbC
      by_cases h11 : j = 11
      · subst h11
        rw [if_pos rfl, C.kv]
        have : (c == 11 || decide (10 ≤ 11)) = true := by simp
        rw [this]
      · rw [if_neg h11]
        by_cases h10 : 10 ≤ j
        · rw [if_pos h10, C.kr]
          have : (c == j || decide (10 ≤ j)) = true := by simp [h10]
          rw [this]
        · rw [if_neg h10]
          rcases pj with z | z
          · exact absurd z h10
          · obtain ⟨e', q', r'⟩ := x9_some z
            obtain ⟨a', b', _⟩ := hid q'
            rw [q']
            show PySem.W.kitOne K (.ref (He.ga K e.name)) (.ref (He.ga K e'.name)) = _
            rw [C.ke e' a', b, b']
            simp [h10]
    · obtain ⟨e, q, r⟩ := x9_some p
      obtain ⟨a, b, c10⟩ := hid q
      rw [r]
      have C := F.cls e a
      obtain ⟨r1, r2, r3, r4⟩ := F.rl (fun z => by rw [z] at a; cases a)
      exact ⟨C.xf.ga, C.xf.gg, C.xf.exC, C.xf.hdC, C.cl, r2, r3, C.ob⟩
  have rcn : ∀ x, xcZ es 10 = some x → mg x = some (.ref (He.ga K "ReelError")) := fun x hx => by
    unfold xcZ at hx
    rw [if_pos rfl] at hx
    by_cases z : es.isEmpty = true
    · rw [if_pos z] at hx; cases hx
    · rw [if_neg z] at hx; cases hx
      exact He.glo_ok X G (F.rl (fun y => z (by rw [y]; rfl))).1
  refine ⟨fun x hx => He.free_ok X G (F.free x (.inr (.inr hx))), He.free_ok X G (F.free _ (.inl rfl)), xf, rfl, fun j x hx h11 => ?_, rcn, fun X' e1 e2 e3 e4 e5 hr c x hc hx => ?_⟩
  · by_cases h10 : j = 10
    · subst h10
      exact ⟨rcn x hx, ⟨_, rfl⟩, .inl rfl⟩
    · unfold xcZ at hx
      rw [if_neg h10] at hx
      cases q : errOf es j with
      | none => rw [q] at hx; cases hx
      | some e =>
        rw [q] at hx; cases hx
        obtain ⟨a, b, c10⟩ := hid q
        have ecv : cvZ es K j = .ref (He.ga K e.name) := by
          unfold cvZ
          rw [if_neg h11, if_neg (by omega), q]
        exact ⟨by rw [ecv]; exact He.glo_ok X G (F.cls e a).glo, ⟨_, ecv⟩, .inr (by rw [x9_of q]; exact atN_ne j)⟩
  · unfold xcZ at hx
    rw [if_neg (by omega)] at hx
    cases q : errOf es c with
    | none => rw [q] at hx; cases hx
    | some e =>
      rw [q] at hx; cases hx
      obtain ⟨a, b, c10⟩ := hid q
      rw [x9_of q]
      refine ⟨atN_ne c, ?_⟩
      subst e1 e3 e4
      have T := in_txt X G F a (obs_in ‹_› a) htop (List.all_eq_true.mp hI e a)
      rw [b] at T
      exact mk_ok T (He.glo_ok X G (F.cls e a).glo) hr
/-- all defs keep their promises, level by level -/
theorem lv_ok (X : K.In h) (G : h.Ns mainGlobals mg) (c : obsK P cs ds es K = valZ ds es) (hI : es.all inC = true) (htop : (P.main.scope.names.lookup ("super" : Str)).isSome = false)
    (hck : ∀ (i : Nat) (c : DefC), cs[i]? = some c → ∃ d, ds[i]? = some d ∧ ckD cs es c d = true ∧ BindP c.ar c.N d) : ∀ (k id m : Nat) (fm : Fm), tbl cs k id = some (m, fm) →
      ∃ c d f fd, cs[id]? = some c ∧ ds[id]? = some d ∧ m = c.ar ∧ FunD K d.name d.qual d.params d.body d.scope [] (d.kws K) f fd ∧ mg c.name = some (.ref f) ∧ (c.N.take c.ar).length = m ∧ FnG P w K mg base k f fd (c.N.take c.ar) (spOf K (x9Z es K) m fm)
  | 0, id, m, fm, e => by cases e
  | k + 1, id, m, fm, e => by
    have F := exF_of (obs_ex c).1
    have e : (cs[id]?).map (fun c => (c.ar, evDef (locT c.calls (tbl cs k)) (cstC c.gcs) c.N.length c.body)) = some (m, fm) := e
    cases q : cs[id]? with
    | none => rw [q] at e; cases e
    | some cc =>
      rw [q] at e
      cases e
      obtain ⟨d, hd, hcd, hb⟩ := hck id cc q
      obtain ⟨h1, hcd⟩ := ba hcd
      obtain ⟨h2, hcd⟩ := ba hcd
      obtain ⟨h3, hcd⟩ := ba hcd
      obtain ⟨h4, h5⟩ := ba hcd
      have hat := of_decide_eq_true h2
      have har := of_decide_eq_true h1
      have hdf : d.dfl = [] := List.length_eq_zero_iff.mp (of_decide_eq_true h3)
      obtain ⟨fd, D⟩ := obs_def c (List.mem_of_getElem? hd)
      have hdv : d.dvs K = [] := by unfold He.DefD.dvs; rw [hdf]; rfl
      rw [hdv] at D
      have hlen : (cc.N.take cc.ar).length = cc.ar := by rw [List.length_take]; omega
      have hf : mg cc.name = some (.ref (He.fAd K d.at_)) := by rw [hat]; exact He.glo_ok X G (F.glo cc (List.mem_of_getElem? q))
      refine ⟨cc, d, _, fd, rfl, hd, rfl, D, hf, hlen, ?_⟩
      refine def_ok (nx := nxZ cs es cc) D (scB_ok h4) hlen har h5 (md_of X G c hI htop k) (fun i m fm hi => ?_) (fun g dd hg => ?_)
      · unfold locT at hi
        cases q2 : cc.calls[i]? with
        | none => rw [q2] at hi; cases hi
        | some j =>
          rw [q2] at hi
          obtain ⟨c', d', f', fd', a1, a2, a3, a4, a5, a6, a7⟩ := lv_ok X G c hI htop hck k j m fm hi
          refine ⟨c'.name, f', fd', c'.N.take c'.ar, a6, ?_, a5, a4.kp, ?_, a7⟩
          · show (cc.calls.map (nmD cs))[i]? = _
            rw [List.getElem?_map, q2]
            show some (nmD cs j) = _
            unfold nmD
            rw [a1]
          · obtain ⟨d2, b1, b2, b3⟩ := hck j c' a1
            rw [a2] at b1; cases b1
            exact a4.bindsN (ps := c'.N.take c'.ar) fun kV doc pm an cdv ct us hl => by
              have hl : us.length = c'.ar := by rw [hl, a6, a3]
              rw [b3 kV doc pm an cdv ct us hl]
      · unfold cstC at hg
        cases q2 : cc.gcs[g]? with
        | none => rw [q2] at hg; cases hg
        | some p =>
          rw [q2] at hg; cases hg
          obtain ⟨t, ht⟩ := He.int_ok X G (F.int cc (List.mem_of_getElem? q) p (List.mem_of_getElem? q2))
          refine ⟨p.1, .int p.2 t, .int p.2, ?_, ht, ⟨t, rfl⟩, .int _⟩
          show (cc.gcs.map (·.1))[g]? = _
          rw [List.getElem?_map, q2]; rfl
end
/-- a law's end -/
theorem walkZ {l : PySem.W.OpenLaw} {n k N id : Nat} {q : Program} {loose : List Str} {XP : (Str → Option Value) → Heap → Prop} {d : DefRec} {x : Str} {cs : List DefC} {ds : List He.DefD} {es : List ErrD} {c : DefC} {fm : Fm} (hn : l.most = some n) (hn2 : n ≤ sizeLine) (hdf : d.params.defaults = []) (hr : Room k callerA)
    (hI : es.all inC = true) (htop : (l.prog.main.scope.names.lookup ("super" : Str)).isSome = false) (hck : ∀ (i : Nat) (c : DefC), cs[i]? = some c → ∃ d, ds[i]? = some d ∧ ckD cs es c d = true ∧ BindP c.ar c.N d)
    (hc : cs[id]? = some c) (hnm : d.name = c.name) (hx : c.N.take c.ar = [x]) (hfm : tbl cs k id = some (1, fm))
    (hlaw : ∀ ns : List Int, ns.length ≤ n → ∃ ds, fm [.fz (.list (ns.map PyData.int))] = .ret (.fr (.bool true)) ds) : PySem.W.WalkO q loose XP (hookZ N l.prog cs ds es).says l.row.toRowW d [] (fun f vs => PySem.call f vs) := by
  refine walkG (x := x) (fm := fm) hn hn2 hdf hr hlaw fun w mg fa h Y G hmg => ?_
  obtain ⟨K, KX, o⟩ := Y
  have F := exF_of (obs_ex o).1
  obtain ⟨c', d', f', fd', a1, a2, a3, a4, a5, a6, a7⟩ := lv_ok (w := w) (base := h) KX G o hI htop hck k id 1 fm hfm
  rw [hc] at a1; cases a1
  rw [hnm, a5] at hmg
  cases hmg
  obtain ⟨d2, b1, b2, b3⟩ := hck id c hc
  rw [a2] at b1; cases b1
  have hbind := a4.bindsA (ps := [x]) fun kV doc pm an cdv ct us hl => by
    have hl : us.length = c.ar := by rw [← a3]; exact hl
    rw [b3 kV doc pm an cdv ct us hl, hx]
  refine ⟨K, fd', x9Z es K, KX, F.nl, fun s u => hbind s [u] rfl, fun base bX bG => ?_⟩
  obtain ⟨c3, d3, f3, fd3, e1, e2, e3, e4, e5, e6, e7⟩ := lv_ok (w := w) (base := base) KX G o hI htop hck k id 1 fm hfm
  rw [hc] at e1; cases e1
  rw [a2] at e2; cases e2
  rw [a5] at e5; cases e5
  have efd : fd3 = fd' := by
    obtain ⟨oc, od, _, _, _, _, _, _, _, osl, _, l1, _⟩ := e4.ex
    obtain ⟨oc', od', _, _, _, _, _, _, _, osl', _, l2, _⟩ := a4.ex
    rw [l1] at l2
    have := Option.some.inj l2
    injection this with _ _ z _
    injection z
  subst efd
  rw [hx] at e7
  exact e7
end Z

set_option Elab.async false
set_option linter.all false
set_option maxRecDepth 100000
set_option maxHeartbeats 0
namespace Z
open PySem PySem.Spec PyProof.Rows L2
/-! ## reckoning with codes -/
theorem eqv_int (a b : Int) : PyData.eqv (.int a) (.int b) = decide (a = b) := by
  by_cases h : a = b
  · subst h; simp [PyData.eqv]
  · simp [PyData.eqv, h]
theorem shaped_int (a : Int) : SeqAt.shaped (.int a) = true := rfl
theorem bind_some' {α β : Type} (a : α) (f : α → Option β) : (some a).bind f = f a := rfl
theorem lcGo_nil {tg : Tg} {own : List Nat} {fc : En → Ou Bool} {fe : En → Ou R} {acc : List PyData} {n : En} : lcGo tg own fc fe [] acc n = .ok acc n := rfl
theorem lcGo_cons {tg : Tg} {own : List Nat} {fc : En → Ou Bool} {fe : En → Ou R} {x : PyData} {xs acc : List PyData} {n : En} : lcGo tg own fc fe (x :: xs) acc n = match tg.put x (wipeN n own) with
    | none => .st
    | some n1 => (fc n1).bd fun b n2 => if b then (fe n2).bd fun r n3 => if decide (acc.length < sizeLine) then lcGo tg own fc fe xs (acc ++ [r.d]) n3 else .st
      else lcGo tg own fc fe xs acc n2 := rfl
/-- by an invariant over what is left, what is made, the slots -/
theorem lcGo_inv {tg : Tg} {own : List Nat} {fc : En → Ou Bool} {fe : En → Ou R} (I : List PyData → List PyData → En → Prop)
    (step : ∀ x xs acc n, I (x :: xs) acc n → ∃ n1 b n2, tg.put x (wipeN n own) = some n1 ∧ fc n1 = .ok b n2 ∧ (b = true → ∃ r n3, fe n2 = .ok r n3 ∧ acc.length < sizeLine ∧ I xs (acc ++ [r.d]) n3) ∧ (b = false → I xs acc n2)) :
    ∀ xs acc n, I xs acc n → ∃ acc' n', lcGo tg own fc fe xs acc n = .ok acc' n' ∧ I [] acc' n'
  | [], acc, n, h => ⟨acc, n, rfl, h⟩
  | x :: xs, acc, n, h => by
    obtain ⟨n1, b, n2, h1, h2, h3, h4⟩ := step x xs acc n h
    rw [lcGo_cons, h1]
    dsimp only
    rw [h2]
    dsimp only [Ou.bd]
    cases b with
    | true =>
      obtain ⟨r, n3, e1, e2, e3⟩ := h3 rfl
      rw [if_pos rfl, e1]
      dsimp only [Ou.bd]
      rw [if_pos (by simpa using e2)]
      exact lcGo_inv I step xs _ _ e3
    | false =>
      rw [if_neg Bool.false_ne_true]
      exact lcGo_inv I step xs _ _ (h4 rfl)
theorem forGo_nil {t : Tg} {b : En → Fl} {n : En} : forGo t b [] n = .nx n := rfl
theorem forGo_cons {t : Tg} {b : En → Fl} {x : PyData} {xs : List PyData} {n : En} : forGo t b (x :: xs) n = match t.put x n with
    | none => .st
    | some n1 => match b n1 with
      | .nx n2 => forGo t b xs n2
      | .ct n2 => forGo t b xs n2
      | .bk n2 => .nx n2
      | .rt r n2 => .rt r n2
      | .ex c d n2 => .ex c d n2
      | .st => .st := rfl
theorem forGo_inv {t : Tg} {b : En → Fl} (I : List PyData → En → Prop) (step : ∀ x xs n, I (x :: xs) n → ∃ n1 n2, t.put x n = some n1 ∧ b n1 = .nx n2 ∧ I xs n2) : ∀ xs n, I xs n → ∃ n', forGo t b xs n = .nx n' ∧ I [] n'
  | [], n, h => ⟨n, rfl, h⟩
  | x :: xs, n, h => by
    obtain ⟨n1, n2, h1, h2, h3⟩ := step x xs n h
    rw [forGo_cons, h1]
    dsimp only
    rw [h2]
    exact forGo_inv I step xs n2 h3
theorem opd_pk {i : Nat} {f : En → Ou R} {n : En} : opd (.pk i) f n = match n[i]? with
    | some (.fz _) => .ok (.sl i) n
    | some (.ow _) => .ok (.sl i) n
    | some (.pn _) => .ok (.sl i) n
    | _ => .st := rfl
theorem opd_io {i : Nat} {f : En → Ou R} {n : En} : opd (.io i) f n = match n[i]? with
    | some (.ow _) => .ok (.io i) n
    | some (.pn _) => .ok (.io i) n
    | _ => .st := rfl
theorem opd_var {i : Nat} {f : En → Ou R} {n : En} : opd (.var i) f n = (f n).bd fun r n1 => .ok (.dd r.d) n1 := rfl
theorem opd_cst {d : PyData} {f : En → Ou R} {n : En} : opd (.cst d) f n = (f n).bd fun r n1 => .ok (.dd r.d) n1 := rfl
theorem opd_glb {i : Nat} {f : En → Ou R} {n : En} : opd (.glb i) f n = (f n).bd fun r n1 => .ok (.dd r.d) n1 := rfl
theorem opd_op {o : Op} {a : E} {f : En → Ou R} {n : En} : opd (.op o a) f n = (f n).bd fun r n1 => .ok (.dd r.d) n1 := rfl
theorem opd_chn {o p : COp} {a b c : E} {f : En → Ou R} {n : En} : opd (.chn o p a b c) f n = (f n).bd fun r n1 => .ok (.dd r.d) n1 := rfl
theorem opd_slc {a b c : E} {f : En → Ou R} {n : En} : opd (.slc a b c) f n = (f n).bd fun r n1 => .ok (.dd r.d) n1 := rfl
theorem opd_and {a b : E} {f : En → Ou R} {n : En} : opd (.and a b) f n = (f n).bd fun r n1 => .ok (.dd r.d) n1 := rfl
theorem opd_or {a b : E} {f : En → Ou R} {n : En} : opd (.or a b) f n = (f n).bd fun r n1 => .ok (.dd r.d) n1 := rfl
theorem opd_not {a : E} {f : En → Ou R} {n : En} : opd (.not a) f n = (f n).bd fun r n1 => .ok (.dd r.d) n1 := rfl
theorem opd_ife {a b c : E} {f : En → Ou R} {n : En} : opd (.ife a b c) f n = (f n).bd fun r n1 => .ok (.dd r.d) n1 := rfl
theorem opd_call {i : Nat} {a : E} {f : En → Ou R} {n : En} : opd (.call i a) f n = (f n).bd fun r n1 => .ok (.dd r.d) n1 := rfl
theorem opd_lc {a b c : E} {t : Tg} {v : List Nat} {f : En → Ou R} {n : En} : opd (.lc a t b c v) f n = (f n).bd fun r n1 => .ok (.dd r.d) n1 := rfl
theorem opd_chn3 {o p q : COp} {a b c d : E} {f : En → Ou R} {n : En} : opd (.chn3 o p q a b c d) f n = (f n).bd fun r n1 => .ok (.dd r.d) n1 := rfl
theorem opd_lrg1 {a : E} {f : En → Ou R} {n : En} : opd (.lrg1 a) f n = (f n).bd fun r n1 => .ok (.dd r.d) n1 := rfl
theorem opd_lrg2 {a b : E} {f : En → Ou R} {n : En} : opd (.lrg2 a b) f n = (f n).bd fun r n1 => .ok (.dd r.d) n1 := rfl
theorem isTy_tt {xs : List PyData} : isTy .tuple (.tuple xs) = true := rfl
end Z

set_option Elab.async false
set_option linter.all false
set_option maxRecDepth 100000
set_option maxHeartbeats 4000000
namespace Z
open PySem PySem.Spec PyProof.Rows L2
/-! ## statements one by one -/
section
variable {T : Tb} {C : Nat → Option D} {s r : S} {n n1 : En} {f : Fl}
theorem sv_nx (h : sv T C s n = .nx n1) (g : sv T C r n1 = f) : sv T C (.cons s r) n = f := by
  show (match sv T C s n with
    | .nx n1 => sv T C r n1
    | .rt v n1 => .rt v n1
    | .bk n1 => .bk n1
    | .ct n1 => .ct n1
    | .ex c d n1 => .ex c d n1
    | .st => .st) = f
  rw [h]; exact g
theorem sv_rt {v : R} (h : sv T C s n = .rt v n1) : sv T C (.cons s r) n = .rt v n1 := by
  show (match sv T C s n with
    | .nx n1 => sv T C r n1
    | .rt v n1 => .rt v n1
    | .bk n1 => .bk n1
    | .ct n1 => .ct n1
    | .ex c d n1 => .ex c d n1
    | .st => .st) = _
  rw [h]
theorem sv_ex {c : Nat} {d : D} (h : sv T C s n = .ex c d n1) : sv T C (.cons s r) n = .ex c d n1 := by
  show (match sv T C s n with
    | .nx n1 => sv T C r n1
    | .rt v n1 => .rt v n1
    | .bk n1 => .bk n1
    | .ct n1 => .ct n1
    | .ex c d n1 => .ex c d n1
    | .st => .st) = _
  rw [h]
theorem sv_bk (h : sv T C s n = .bk n1) : sv T C (.cons s r) n = .bk n1 := by
  show (match sv T C s n with
    | .nx n1 => sv T C r n1
    | .rt v n1 => .rt v n1
    | .bk n1 => .bk n1
    | .ct n1 => .ct n1
    | .ex c d n1 => .ex c d n1
    | .st => .st) = _
  rw [h]
theorem sv_end : sv T C .nil n = .nx n := rfl
theorem def_rt {m : Nat} {b : S} {ss : List Sl} {v : R} (h : sv T C b (ss ++ List.replicate (m - ss.length) .un) = .rt v n1) : evDef T C m b ss = .ret v (finD ss n1) := by
  unfold evDef; rw [h]
theorem def_ex {m : Nat} {b : S} {ss : List Sl} {c : Nat} {d : D} (h : sv T C b (ss ++ List.replicate (m - ss.length) .un) = .ex c d n1) : evDef T C m b ss = .ex c d (finD ss n1) := by
  unfold evDef; rw [h]
theorem def_nx {m : Nat} {b : S} {ss : List Sl} (h : sv T C b (ss ++ List.replicate (m - ss.length) .un) = .nx n1) : evDef T C m b ss = .ret (.fr .none) (finD ss n1) := by
  unfold evDef; rw [h]
end
theorem sv_set {T : Tb} {C : Nat → Option D} {i : Nat} {a : E} {n n1 : En} {r : R} {t : Sl} (h : (ev T C a).e n = .ok r n1) (ht : n1[i]? = some t) (hp : isPn (some t) = false) : sv T C (.set (.nm i) a) n = .nx (n1.set i r.sl) := by
  show Fl.of ((ev T C a).e n) _ = _
  rw [h]
  dsimp only [Fl.of]
  have e : putR (.nm i) r n1 = some (n1.set i r.sl) := by
    dsimp only [putR]
    rw [ht]
    cases t <;> first | rfl | (cases hp; done)
  rw [e]
theorem sv_for {T : Tb} {C : Nat → Option D} {t : Tg} {it : E} {b : S} {n n1 : En} {xs : List D} {f : Fl} (h : (ev T C it).i n = .ok xs n1) (g : forGo t (sv T C b) xs n1 = f) : sv T C (.for_ t it b) n = f := by
  show Fl.of ((ev T C it).i n) (fun xs n1 => forGo t (sv T C b) xs n1) = f
  rw [h]
  exact g
theorem rng1_ok {T : Tb} {C : Nat → Option D} {a : E} {n n1 : En} {p : P} {i : Int} (ha : opd a (ev T C a).e n = .ok p n1) (hp : Z.rs n1 p = some (.int i)) (h0 : rngOk i = true) : (ev T C (.rng1 a)).i n = .ok (rangeD 0 i) n1 := by
  show zRng1 (opd a (ev T C a).e) n = _
  unfold zRng1
  rw [ha]
  dsimp only [Ou.bd]
  rw [hp]
  dsimp only
  rw [if_pos h0]
theorem rng2_ok {T : Tb} {C : Nat → Option D} {a b : E} {n n1 n2 : En} {p q : P} {i j : Int} (ha : opd a (ev T C a).e n = .ok p n1) (hb : opd b (ev T C b).e n1 = .ok q n2) (hp : Z.rs n2 p = some (.int i)) (hq : Z.rs n2 q = some (.int j)) (h0 : rngOk i = true) (h1 : rngOk j = true) :
    (ev T C (.rng2 a b)).i n = .ok (rangeD i j) n2 := by
  show zRng2 (opd a (ev T C a).e) (opd b (ev T C b).e) n = _
  unfold zRng2
  rw [ha]
  dsimp only [Ou.bd]
  rw [hb]
  dsimp only [Ou.bd]
  rw [hp, hq]
  dsimp only
  rw [if_pos (by rw [h0, h1]; rfl)]
theorem lrg1_ok {T : Tb} {C : Nat → Option D} {a : E} {n n1 : En} {p : P} {i : Int} (ha : opd a (ev T C a).e n = .ok p n1) (hp : Z.rs n1 p = some (.int i)) (h0 : rngOk i = true) (h1 : i.toNat ≤ 16777216) : (ev T C (.lrg1 a)).e n = .ok (.nw (.list (rangeD 0 i))) n1 := by
  show zLrg1 (opd a (ev T C a).e) n = _
  unfold zLrg1
  rw [ha]
  dsimp only [Ou.bd]
  rw [hp]
  dsimp only
  rw [if_pos (by rw [h0, Bool.true_and]; exact decide_eq_true h1)]
theorem lrg2_ok {T : Tb} {C : Nat → Option D} {a b : E} {n n1 n2 : En} {p q : P} {i j : Int} (ha : opd a (ev T C a).e n = .ok p n1) (hb : opd b (ev T C b).e n1 = .ok q n2) (hp : Z.rs n2 p = some (.int i)) (hq : Z.rs n2 q = some (.int j)) (h0 : rngOk i = true) (h1 : rngOk j = true) (h2 : (j - i).toNat ≤ 16777216) :
    (ev T C (.lrg2 a b)).e n = .ok (.nw (.list (rangeD i j))) n2 := by
  show zLrg2 (opd a (ev T C a).e) (opd b (ev T C b).e) n = _
  unfold zLrg2
  rw [ha]
  dsimp only [Ou.bd]
  rw [hb]
  dsimp only [Ou.bd]
  rw [hp, hq]
  dsimp only
  rw [if_pos (by rw [h0, h1, Bool.true_and, Bool.true_and]; exact decide_eq_true h2)]
/-! ## data that may be compared and shown -/
theorem ok_of (s : String) : PyData.strOk (Str.ofString s) = true := by
  rw [Str.ofString_eq_toList]
  unfold PyData.strOk
  rw [List.all_toArray]
  refine List.all_eq_true.mpr fun c hc => ?_
  obtain ⟨d, _, rfl⟩ := List.mem_map.mp hc
  refine decide_eq_true ?_
  have v := d.valid
  show d.val.toNat < 0x110000
  rcases v with v | v
  · exact Nat.lt_trans v (by decide)
  · exact v.2
theorem ok_app {x y : Str} (h : PyData.strOk x = true) (g : PyData.strOk y = true) : PyData.strOk (x ++ y) = true := by
  unfold PyData.strOk at *
  show (x.cps ++ y.cps).all _ = true
  rw [Array.all_append, h, g]; rfl
theorem ok_join {s : Str} (hs : PyData.strOk s = true) : ∀ {ts : List Str}, (∀ t ∈ ts, PyData.strOk t = true) → PyData.strOk (Str.join s ts) = true
  | [], _ => by unfold Str.join; decide +kernel
  | [x], h => h x List.mem_cons_self
  | x :: y :: r, h => ok_app (ok_app (h x List.mem_cons_self) hs) (ok_join hs fun t ht => h t (List.mem_cons_of_mem _ ht))
/-- data of a height and a width of its text -/
structure Gd (h w : Nat) (d : D) : Prop where
  lay : d.canLay0 = true
  dep : d.depth ≤ h
  sh : d.showable = true
  ok : PyData.strOk d.shown = true
  len : d.shown.length ≤ w
section
variable {h w h' w' : Nat} {d : D} {xs : List D}
theorem Gd.mono (g : Gd h w d) (a : h ≤ h') (b : w ≤ w') : Gd h' w' d := ⟨g.lay, Nat.le_trans g.dep a, g.sh, g.ok, Nat.le_trans g.len b⟩
theorem Gd.int {i : Int} (hi : i.natAbs < 10 ^ 40) : Gd 0 41 (.int i) := by
  refine ⟨rfl, Nat.zero_le _, ?_, ok_of _, ?_⟩
  · refine decide_eq_true ?_
    by_cases z : i.natAbs = 0
    · rw [z]; decide
    · have : i.natAbs.log2 < 134 := (Nat.log2_lt z).mpr (Nat.lt_of_lt_of_le hi (by decide))
      omega
  · show (Str.ofString (toString i)).length ≤ 41
    rw [PySem.ofString_length]
    exact int_text_length_le10 (by decide) hi
theorem Gd.none : Gd 0 4 .none := ⟨rfl, Nat.zero_le _, rfl, by decide +kernel, by decide +kernel⟩
theorem Gd.bool (b : Bool) : Gd 0 5 (.bool b) := by cases b <;> exact ⟨rfl, Nat.zero_le _, rfl, by decide +kernel, by decide +kernel⟩
theorem gd_all (g : ∀ x ∈ xs, Gd h w x) : PyData.canLayAll0 xs = true ∧ PyData.depthAll xs ≤ h ∧ PyData.showableAll xs = true ∧ (∀ t ∈ PyData.shownAll xs, PyData.strOk t = true ∧ t.length ≤ w) ∧ (PyData.shownAll xs).length = xs.length := by
  induction xs with
  | nil => exact ⟨rfl, Nat.zero_le _, rfl, fun t ht => (nomatch ht), rfl⟩
  | cons x xs ih =>
    obtain ⟨a, b, c, e, f⟩ := ih fun y hy => g y (List.mem_cons_of_mem _ hy)
    have gx := g x List.mem_cons_self
    refine ⟨?_, ?_, ?_, fun t ht => ?_, ?_⟩
    · simp only [PyData.canLayAll0, gx.lay, a, Bool.and_self]
    · simp only [PyData.depthAll]; have := gx.dep; omega
    · simp only [PyData.showableAll, gx.sh, c, Bool.and_self]
    · simp only [PyData.shownAll] at ht
      rcases List.mem_cons.mp ht with rfl | ht
      · exact ⟨gx.ok, gx.len⟩
      · exact e t ht
    · simp only [PyData.shownAll, List.length_cons, f]
theorem join_len {w : Nat} : ∀ {ts : List Str}, (∀ t ∈ ts, t.length ≤ w) → (Str.join ", " ts).length ≤ ts.length * (w + 2)
  | [], _ => Nat.zero_le _
  | [x], h => by
    have := h x List.mem_cons_self
    show x.length ≤ 1 * (w + 2)
    omega
  | x :: y :: r, h => by
    have ih := join_len (ts := y :: r) fun t ht => h t (List.mem_cons_of_mem _ ht)
    have := h x List.mem_cons_self
    show (x ++ ", " ++ Str.join ", " (y :: r)).length ≤ (r.length + 1 + 1) * (w + 2)
    have e2 : ((", " : String) : Str).length = 2 := rfl
    rw [strLen_append, strLen_append, e2]
    have e3 : (y :: r).length = r.length + 1 := rfl
    rw [e3] at ih
    have : (r.length + 1 + 1) * (w + 2) = (r.length + 1) * (w + 2) + (w + 2) := by rw [Nat.succ_mul]
    omega
theorem Gd.tup (g : ∀ x ∈ xs, Gd h w x) : Gd (h + 1) (3 + xs.length * (w + 2)) (.tuple xs) := by
  obtain ⟨a, b, c, e, f⟩ := gd_all g
  have j := join_len (ts := PyData.shownAll xs) fun t ht => (e t ht).2
  rw [f] at j
  refine ⟨by simp only [PyData.canLay0]; exact a, by simp only [PyData.depth]; omega, by simp only [PyData.showable]; exact c, ?_, ?_⟩
  · rw [PyData.shown_tuple]
    exact ok_app (ok_app (ok_of _) (ok_join (ok_of _) fun t ht => (e t ht).1)) (ok_of _)
  · rw [PyData.shown_tuple, strLen_append, strLen_append]
    have e1 : ((("(" : String) : Str)).length = 1 := rfl
    have e3 : (((if xs.length == 1 then ",)" else ")" : String) : Str)).length ≤ 2 := by split <;> decide
    omega
theorem Gd.lst (g : ∀ x ∈ xs, Gd h w x) : Gd (h + 1) (3 + xs.length * (w + 2)) (.list xs) := by
  obtain ⟨a, b, c, e, f⟩ := gd_all g
  have j := join_len (ts := PyData.shownAll xs) fun t ht => (e t ht).2
  rw [f] at j
  refine ⟨by simp only [PyData.canLay0]; exact a, by simp only [PyData.depth]; omega, by simp only [PyData.showable]; exact c, ?_, ?_⟩
  · rw [PyData.shown_list]
    exact ok_app (ok_app (ok_of _) (ok_join (ok_of _) fun t ht => (e t ht).1)) (ok_of _)
  · rw [PyData.shown_list, strLen_append, strLen_append]
    have e1 : ((("[" : String) : Str)).length = 1 := rfl
    have e3 : ((("]" : String) : Str)).length = 1 := rfl
    omega
theorem Gd.shaped (g : Gd h w d) (hh : h ≤ 64) : SeqAt.shaped d = true := by
  unfold SeqAt.shaped
  rw [g.lay, Bool.true_and]
  exact decide_eq_true (Nat.le_trans g.dep hh)
theorem Gd.refl (g : Gd h w d) : PyData.eqv d d = true := SeqAt.eqv_refl d g.lay
/-- what `a == a and repr(a) == repr(a)` wants -/
theorem Gd.same (g : Gd h w d) (hh : h ≤ 64) (hw : w ≤ sizeLine) : SeqAt.shaped d = true ∧ PyData.eqv d d = true ∧ d.showable = true ∧ fitL d.shown.length = true ∧ SeqAt.shaped (.str d.shown) = true ∧ PyData.eqv (.str d.shown) (.str d.shown) = true := by
  have s : SeqAt.shaped (.str d.shown) = true := by
    unfold SeqAt.shaped
    simp only [PyData.canLay0, g.ok, PyData.depth, Bool.true_and]
    rfl
  exact ⟨g.shaped hh, g.refl, g.sh, decide_eq_true (Nat.le_trans g.len hw), s, SeqAt.eqv_refl _ (SeqAt.canLay_of_shaped s)⟩
end
end Z

set_option Elab.async false
set_option linter.all false
set_option maxRecDepth 100000
set_option maxHeartbeats 0
namespace Z
open PySem PySem.Spec PyProof.Rows L2
def clsFn (s : Stmt) : Stmt := match s with
  | .ClassDef _ _ _ body _ _ _ _ _ _ _ => (match body with
    | [f] => f
    | _ :: f :: _ => f
    | [] => s)
  | _ => s
def mkErr (id : Nat) (name : Str) (s : Stmt) : ErrD :=
  let f := clsFn s
  let ps : Pos × Pos := match (defArgs f).args with
    | [a, b] => (a.pos, b.pos)
    | _ => (⟨0, 0, 0, 0⟩, ⟨0, 0, 0, 0⟩)
  let w : Str × Nat × List Pos := match defBody f with
    | [.Expr (.Call (.Attribute (.Call (.Name _ q0) _ _ q1) _ q2) [.JoinedStr [.Constant (.str msg) k q3, .FormattedValue (.Name _ q4) _ _ q5] q6] _ q7) q8, .Assign [.Attribute (.Name _ q9) _ q10] (.Name _ q11) q12] =>
      (msg, k, [q0, q1, q2, q3, q4, q5, q6, q7, q8, q9, q10, q11, q12])
    | _ => (⟨#[]⟩, 0, [])
  ⟨id, name, w.1, w.2.1, w.2.2, ps.1, ps.2, defScope f, name ++ ".__init__"⟩
abbrev Pg : PySem.Program := PySem.Challenge.pw_reelhouse_k02_unrolled_titles
def top (i : Nat) : Stmt := Pg.main.body.getD i (.Pass ⟨0, 0, 0, 0⟩)
def c_is_integer : DefC := ⟨"is_integer", 1, ["value"], [], [],
  (.cons (.ret (.and (.op (.isi .int) (.cons (.pk 0) .nil)) (.not (.op (.isi .bool) (.cons (.pk 0) .nil)))))
  .nil)⟩
abbrev d_is_integer : He.DefD := ⟨("is_integer", none), "is_integer", "is_integer", defArgs (top 4), defBody (top 4), defScope (top 4), [], []⟩
def l_is_row_0 : E := (.lc (.call 0 (.cons (.var 1) .nil)) (.nm 1) (.var 0) .yes [1])
def c_is_row : DefC := ⟨"is_row", 1, ["value", "part"], [0], [],
  (.cons (.ret (.and (.op (.isi .tuple) (.cons (.pk 0) .nil)) (.op .all (.cons l_is_row_0 .nil))))
  .nil)⟩
abbrev d_is_row : He.DefD := ⟨("is_row", none), "is_row", "is_row", defArgs (top 11), defBody (top 11), defScope (top 11), [], []⟩
def b_has_form_0 : S :=
  (.cons (.ife (.or (.not (.op (.isi .tuple) (.cons (.pk 1) .nil))) (.or (.op (.cmp .ne) (.cons (.op .len (.cons (.pk 1) .nil)) (.cons (.cst (.int 2)) .nil))) (.or (.not (.call 1 (.cons (.op .idx (.cons (.pk 1) (.cons (.cst (.int 0)) .nil))) .nil))) (.not (.call 0 (.cons (.op .idx (.cons (.pk 1) (.cons (.cst (.int 1)) .nil))) .nil))))))
   (.cons (.ret (.cst (.bool false)))
    .nil)
   .nil)
  .nil)
def c_has_form : DefC := ⟨"has_form", 1, ["value", "rate", "spans", "loop", "rates"], [1, 0], [],
  (.cons (.ife (.or (.not (.op (.isi .tuple) (.cons (.pk 0) .nil))) (.op (.cmp .ne) (.cons (.op .len (.cons (.pk 0) .nil)) (.cons (.cst (.int 3)) .nil))))
   (.cons (.ret (.cst (.bool false)))
    .nil)
   .nil)
  (.cons (.set (.tp [2, 3, 4]) (.var 0))
  (.cons (.ife (.or (.not (.call 0 (.cons (.var 2) .nil))) (.or (.not (.call 1 (.cons (.var 3) .nil))) (.not (.op (.isi .tuple) (.cons (.pk 4) .nil)))))
   (.cons (.ret (.cst (.bool false)))
    .nil)
   .nil)
  (.cons (.for_ (.nm 1) (.var 4) b_has_form_0)
  (.cons (.ret (.cst (.bool true)))
  .nil)))))⟩
abbrev d_has_form : He.DefD := ⟨("has_form", none), "has_form", "has_form", defArgs (top 12), defBody (top 12), defScope (top 12), [], []⟩
def l_are_between_0 : E := (.lc (.chn .le .le (.pk 1) (.pk 3) (.pk 2)) (.nm 3) (.var 0) .yes [3])
def c_are_between : DefC := ⟨"are_between", 3, ["row", "least", "most", "number"], [], [],
  (.cons (.ret (.op .all (.cons l_are_between_0 .nil)))
  .nil)⟩
abbrev d_are_between : He.DefD := ⟨("are_between", none), "are_between", "are_between", defArgs (top 13), defBody (top 13), defScope (top 13), [], []⟩
def b_check_title_0 : S :=
  (.cons (.ife (.or (.not (.chn .le .le (.cst (.int 0)) (.pk 4) (.glb 3))) (.or (.op (.cmp .ne) (.cons (.op .len (.cons (.pk 5) .nil)) (.cons (.op .len (.cons (.pk 1) .nil)) .nil))) (.not (.call 1 (.cons (.var 5) (.cons (.cst (.int 1)) (.cons (.glb 4) .nil)))))))
   (.cons (.rai 1 (.cst (.str "rates")))
    .nil)
   .nil)
  .nil)
def c_check_title : DefC := ⟨"check_title", 1, ["title", "spans", "loop", "rates", "quality", "sizes"], [2, 3], [("MAX_PIECES", 40), ("MAX_SPAN", 8), ("MAX_RATES", 6), ("MAX_QUALITY", 99), ("MAX_SIZE", 60)],
  (.cons (.ife (.not (.call 0 (.cons (.var 0) .nil)))
   (.cons (.rai 1 (.cst (.str "form")))
    .nil)
   .nil)
  (.cons (.set (.tp [1, 2, 3]) (.var 0))
  (.cons (.ife (.or (.not (.chn .le .le (.cst (.int 1)) (.op .len (.cons (.pk 1) .nil)) (.glb 0))) (.not (.call 1 (.cons (.var 1) (.cons (.cst (.int 1)) (.cons (.glb 1) .nil))))))
   (.cons (.rai 1 (.cst (.str "spans")))
    .nil)
   .nil)
  (.cons (.ife (.not (.chn .le .lt (.op .neg (.cons (.cst (.int 1)) .nil)) (.pk 2) (.op .len (.cons (.pk 1) .nil))))
   (.cons (.rai 1 (.cst (.str "loop")))
    .nil)
   .nil)
  (.cons (.ife (.not (.chn .le .le (.cst (.int 1)) (.op .len (.cons (.pk 3) .nil)) (.glb 2)))
   (.cons (.rai 1 (.cst (.str "rates")))
    .nil)
   .nil)
  (.cons (.for_ (.tp [4, 5]) (.var 3) b_check_title_0)
  .nil))))))⟩
abbrev d_check_title : He.DefD := ⟨("check_title", none), "check_title", "check_title", defArgs (top 14), defBody (top 14), defScope (top 14), [], []⟩
def b__law_start_0 : S :=
  (.cons (.set (.nm 1) (.op (.bin .add) (.cons (.op (.bin .mod) (.cons (.op .int1 (.cons (.op (.bin .add) (.cons (.op (.bin .mul) (.cons (.pk 1) (.cons (.cst (.int 48271)) .nil))) (.cons (.pk 2) .nil))) .nil)) (.cons (.cst (.int 2147483629)) .nil))) (.cons (.cst (.int 1)) .nil))))
  .nil)
def c__law_start : DefC := ⟨"_law_start", 1, ["script", "seed", "cell"], [], [],
  (.cons (.set (.nm 1) (.cst (.int 7)))
  (.cons (.for_ (.nm 2) (.var 0) b__law_start_0)
  (.cons (.ret (.op .lst (.cons (.op .lstOf (.cons (.pk 0) .nil)) (.cons (.cst (.int 0)) (.cons (.cst (.int 0)) (.cons (.var 1) .nil))))))
  .nil)))⟩
abbrev d__law_start : He.DefD := ⟨("_law_start", none), "_law_start", "_law_start", defArgs (top 18), defBody (top 18), defScope (top 18), [], []⟩
def c__law_draw : DefC := ⟨"_law_draw", 2, ["state", "many", "value"], [], [],
  (.cons (.ife (.and (.op (.cmp .eq) (.cons (.op .idx (.cons (.pk 0) (.cons (.cst (.int 1)) .nil))) (.cons (.cst (.int 0)) .nil))) (.op (.cmp .ge) (.cons (.op .idx (.cons (.pk 0) (.cons (.cst (.int 2)) .nil))) (.cons (.op .len (.cons (.op .idx (.cons (.pk 0) (.cons (.cst (.int 0)) .nil))) .nil)) .nil))))
   (.cons (.setI 0 (.cst (.int 3)) (.op (.bin .mod) (.cons (.op .int1 (.cons (.op (.bin .add) (.cons (.op (.bin .mul) (.cons (.op .idx (.cons (.pk 0) (.cons (.cst (.int 3)) .nil))) (.cons (.cst (.int 48271)) .nil))) (.cons (.cst (.int 69621)) .nil))) .nil)) (.cons (.cst (.int 2147483629)) .nil))))
    (.cons (.ret (.op (.bin .mod) (.cons (.op .int1 (.cons (.op (.bin .fdiv) (.cons (.op .idx (.cons (.pk 0) (.cons (.cst (.int 3)) .nil))) (.cons (.cst (.int 13)) .nil))) .nil)) (.cons (.pk 1) .nil))))
    .nil))
   .nil)
  (.cons (.ife (.op (.cmp .eq) (.cons (.op .idx (.cons (.pk 0) (.cons (.cst (.int 1)) .nil))) (.cons (.cst (.int 0)) .nil)))
   (.cons (.setI 0 (.cst (.int 1)) (.op .abs (.cons (.op .idx (.cons (.op .idx (.cons (.pk 0) (.cons (.cst (.int 0)) .nil))) (.cons (.op .idx (.cons (.pk 0) (.cons (.cst (.int 2)) .nil))) .nil))) .nil)))
    (.cons (.setI 0 (.cst (.int 2)) (.op (.bin .add) (.cons (.op .idx (.cons (.pk 0) (.cons (.cst (.int 2)) .nil))) (.cons (.cst (.int 1)) .nil))))
    .nil))
   .nil)
  (.cons (.set (.nm 2) (.op (.bin .mod) (.cons (.op .int1 (.cons (.op .idx (.cons (.pk 0) (.cons (.cst (.int 1)) .nil))) .nil)) (.cons (.pk 1) .nil))))
  (.cons (.setI 0 (.cst (.int 1)) (.op (.bin .fdiv) (.cons (.op .idx (.cons (.pk 0) (.cons (.cst (.int 1)) .nil))) (.cons (.pk 1) .nil))))
  (.cons (.ret (.var 2))
  .nil)))))⟩
abbrev d__law_draw : He.DefD := ⟨("_law_draw", none), "_law_draw", "_law_draw", defArgs (top 19), defBody (top 19), defScope (top 19), [], []⟩
def c__law_pick : DefC := ⟨"_law_pick", 2, ["state", "some"], [6], [],
  (.cons (.ret (.op .idx (.cons (.pk 1) (.cons (.call 0 (.cons (.io 0) (.cons (.op .len (.cons (.pk 1) .nil)) .nil))) .nil))))
  .nil)⟩
abbrev d__law_pick : He.DefD := ⟨("_law_pick", none), "_law_pick", "_law_pick", defArgs (top 20), defBody (top 20), defScope (top 20), [], []⟩
def c__law_same : DefC := ⟨"_law_same", 2, ["actual", "due"], [], [],
  (.cons (.ret (.and (.op (.cmp .eq) (.cons (.pk 0) (.cons (.pk 1) .nil))) (.op (.cmp .eq) (.cons (.op .repr (.cons (.pk 0) .nil)) (.cons (.op .repr (.cons (.pk 1) .nil)) .nil)))))
  .nil)⟩
abbrev d__law_same : He.DefD := ⟨("_law_same", none), "_law_same", "_law_same", defArgs (top 21), defBody (top 21), defScope (top 21), [], []⟩
def l__law_title_0 : E := (.lc (.call 1 (.cons (.io 0) (.cons (.op .lst (.cons (.cst (.int 1)) (.cons (.cst (.int 2)) (.cons (.cst (.int 2)) (.cons (.cst (.int 3)) (.cons (.cst (.int 4)) (.cons (.cst (.int 8)) .nil))))))) .nil))) (.nm 7) (.rng1 (.pk 3)) .yes [7])
def l__law_title_1 : E := (.lc (.call 1 (.cons (.io 0) (.cons (.op .lst (.cons (.cst (.int 1)) (.cons (.cst (.int 2)) (.cons (.cst (.int 3)) (.cons (.cst (.int 5)) (.cons (.cst (.int 8)) (.cons (.cst (.int 13)) .nil))))))) .nil))) (.nm 8) (.rng1 (.pk 3)) .yes [8])
def b__law_title_0 : S :=
  (.cons (.app 6 (.op .tup (.cons (.call 1 (.cons (.io 0) (.cons (.op .lst (.cons (.cst (.int 0)) (.cons (.cst (.int 1)) (.cons (.cst (.int 5)) (.cons (.cst (.int 9)) (.cons (.cst (.int 99)) .nil)))))) .nil))) (.cons (.op .tupOf (.cons l__law_title_1 .nil)) .nil))))
  .nil)
def c__law_title : DefC := ⟨"_law_title", 3, ["state", "most", "loops", "many", "spans", "loop", "rates", "k", "j"], [6, 7], [],
  (.cons (.set (.nm 3) (.op (.bin .add) (.cons (.cst (.int 1)) (.cons (.call 0 (.cons (.io 0) (.cons (.var 1) .nil))) .nil))))
  (.cons (.set (.nm 4) (.op .tupOf (.cons l__law_title_0 .nil)))
  (.cons (.set (.nm 5) (.ife (.pk 2) (.op (.bin .sub) (.cons (.call 0 (.cons (.io 0) (.cons (.op (.bin .add) (.cons (.pk 3) (.cons (.cst (.int 1)) .nil))) .nil))) (.cons (.cst (.int 1)) .nil))) (.op .neg (.cons (.cst (.int 1)) .nil))))
  (.cons (.set (.nm 6) (.op .lst .nil))
  (.cons (.for_ (.nm 7) (.rng1 (.op (.bin .add) (.cons (.cst (.int 1)) (.cons (.call 0 (.cons (.io 0) (.cons (.cst (.int 3)) .nil))) .nil)))) b__law_title_0)
  (.cons (.ret (.op .tup (.cons (.var 4) (.cons (.var 5) (.cons (.op .tupOf (.cons (.pk 6) .nil)) .nil)))))
  .nil))))))⟩
abbrev d__law_title : He.DefD := ⟨("_law_title", none), "_law_title", "_law_title", defArgs (top 22), defBody (top 22), defScope (top 22), [], []⟩
def c__law_odd : DefC := ⟨"_law_odd", 1, ["state", "some"], [7], [],
  (.cons (.set (.nm 1) (.op .lst (.cons (.cst .none) (.cons (.cst (.bool true)) (.cons (.cst (.bool false)) (.cons (.op .neg (.cons (.cst (.int 1)) .nil)) (.cons (.cst (.int 0)) (.cons (.cst (.int 1)) (.cons (.cst (.int 2)) (.cons (.cst (.int 8)) (.cons (.cst (.int 9)) (.cons (.cst (.int 39)) (.cons (.cst (.int 40)) (.cons (.cst (.int 41)) (.cons (.cst (.int 60)) (.cons (.cst (.int 61)) (.cons (.cst (.int 99)) (.cons (.cst (.int 100)) (.cons (.op (.bin .pow) (.cons (.cst (.int 10)) (.cons (.cst (.int 30)) .nil))) (.cons (.cst (.str "")) (.cons (.cst (.str "a")) (.cons (.cst (.str "form")) (.cons (.op .tup .nil) (.cons (.op .tup (.cons (.cst (.int 1)) .nil)) (.cons (.op .tup (.cons (.cst (.int 0)) (.cons (.op .tup (.cons (.cst (.int 1)) .nil)) .nil))) (.cons (.op .tup (.cons (.op .tup (.cons (.cst (.int 1)) .nil)) .nil)) (.cons (.op .neg (.cons (.cst (.int 2)) .nil)) .nil)))))))))))))))))))))))))))
  (.cons (.ret (.call 0 (.cons (.io 0) (.cons (.var 1) .nil))))
  .nil))⟩
abbrev d__law_odd : He.DefD := ⟨("_law_odd", none), "_law_odd", "_law_odd", defArgs (top 23), defBody (top 23), defScope (top 23), [], []⟩
def c__law_spoilt : DefC := ⟨"_law_spoilt", 2, ["state", "value", "at", "some"], [6, 10, 7, 11], [],
  (.cons (.ife (.or (.not (.op (.isi .tuple) (.cons (.pk 1) .nil))) (.or (.not (.pk 1)) (.op (.cmp .eq) (.cons (.call 0 (.cons (.io 0) (.cons (.cst (.int 5)) .nil))) (.cons (.cst (.int 0)) .nil)))))
   (.cons (.ife (.and (.op (.isi .tuple) (.cons (.pk 1) .nil)) (.op (.cmp .eq) (.cons (.call 0 (.cons (.io 0) (.cons (.cst (.int 2)) .nil))) (.cons (.cst (.int 0)) .nil))))
     (.cons (.set (.nm 3) (.op .lst (.cons (.op (.bin .add) (.cons (.pk 1) (.cons (.op .tup (.cons (.call 1 (.cons (.io 0) .nil)) .nil)) .nil))) (.cons (.op (.slc false true) (.cons (.pk 1) (.cons (.op .neg (.cons (.cst (.int 1)) .nil)) .nil))) (.cons (.op (.slc true false) (.cons (.pk 1) (.cons (.cst (.int 1)) .nil))) (.cons (.op (.bin .add) (.cons (.pk 1) (.cons (.op (.slc false true) (.cons (.pk 1) (.cons (.cst (.int 1)) .nil))) .nil))) (.cons (.op .rev (.cons (.pk 1) .nil)) (.cons (.op (.bin .add) (.cons (.pk 1) (.cons (.pk 1) .nil))) .nil))))))))
      (.cons (.ret (.call 2 (.cons (.io 0) (.cons (.var 3) .nil))))
      .nil))
     .nil)
    (.cons (.ret (.call 1 (.cons (.io 0) .nil)))
    .nil))
   .nil)
  (.cons (.set (.nm 2) (.call 0 (.cons (.io 0) (.cons (.op .len (.cons (.pk 1) .nil)) .nil))))
  (.cons (.ret (.op (.bin .add) (.cons (.op (.bin .add) (.cons (.op (.slc false true) (.cons (.pk 1) (.cons (.pk 2) .nil))) (.cons (.op .tup (.cons (.call 3 (.cons (.io 0) (.cons (.op .idx (.cons (.pk 1) (.cons (.pk 2) .nil))) .nil))) .nil)) .nil))) (.cons (.op (.slc true false) (.cons (.pk 1) (.cons (.op (.bin .add) (.cons (.pk 2) (.cons (.cst (.int 1)) .nil))) .nil))) .nil))))
  .nil)))⟩
abbrev d__law_spoilt : He.DefD := ⟨("_law_spoilt", none), "_law_spoilt", "_law_spoilt", defArgs (top 24), defBody (top 24), defScope (top 24), [], []⟩
def c__law_is_int : DefC := ⟨"_law_is_int", 1, ["value"], [], [],
  (.cons (.ret (.and (.op (.isi .int) (.cons (.pk 0) .nil)) (.not (.op (.isi .bool) (.cons (.pk 0) .nil)))))
  .nil)⟩
abbrev d__law_is_int : He.DefD := ⟨("_law_is_int", none), "_law_is_int", "_law_is_int", defArgs (top 25), defBody (top 25), defScope (top 25), [], []⟩
def l__law_is_row_0 : E := (.lc (.call 0 (.cons (.var 1) .nil)) (.nm 1) (.var 0) .yes [1])
def c__law_is_row : DefC := ⟨"_law_is_row", 1, ["value", "part"], [12], [],
  (.cons (.ret (.and (.op (.isi .tuple) (.cons (.pk 0) .nil)) (.op .all (.cons l__law_is_row_0 .nil))))
  .nil)⟩
abbrev d__law_is_row : He.DefD := ⟨("_law_is_row", none), "_law_is_row", "_law_is_row", defArgs (top 26), defBody (top 26), defScope (top 26), [], []⟩
def b__law_title_due_0 : S :=
  (.cons (.ife (.or (.not (.op (.isi .tuple) (.cons (.pk 1) .nil))) (.or (.op (.cmp .ne) (.cons (.op .len (.cons (.pk 1) .nil)) (.cons (.cst (.int 2)) .nil))) (.or (.not (.call 1 (.cons (.op .idx (.cons (.pk 1) (.cons (.cst (.int 0)) .nil))) .nil))) (.not (.call 0 (.cons (.op .idx (.cons (.pk 1) (.cons (.cst (.int 1)) .nil))) .nil))))))
   (.cons (.ret (.cst (.str "form")))
    .nil)
   .nil)
  .nil)
def l__law_title_due_0 : E := (.lc (.var 7) (.nm 7) (.var 2) (.or (.op (.cmp .lt) (.cons (.pk 7) (.cons (.cst (.int 1)) .nil))) (.op (.cmp .gt) (.cons (.pk 7) (.cons (.cst (.int 8)) .nil)))) [7])
def l__law_title_due_1 : E := (.lc (.var 8) (.nm 8) (.var 6) (.or (.op (.cmp .lt) (.cons (.pk 8) (.cons (.cst (.int 1)) .nil))) (.op (.cmp .gt) (.cons (.pk 8) (.cons (.cst (.int 60)) .nil)))) [8])
def b__law_title_due_1 : S :=
  (.cons (.ife (.or (.op (.cmp .lt) (.cons (.pk 5) (.cons (.cst (.int 0)) .nil))) (.or (.op (.cmp .gt) (.cons (.pk 5) (.cons (.cst (.int 99)) .nil))) (.or (.op (.cmp .ne) (.cons (.op .len (.cons (.pk 6) .nil)) (.cons (.op .len (.cons (.pk 2) .nil)) .nil))) l__law_title_due_1)))
   (.cons (.ret (.cst (.str "rates")))
    .nil)
   .nil)
  .nil)
def c__law_title_due : DefC := ⟨"_law_title_due", 1, ["value", "rate", "spans", "loop", "rates", "quality", "sizes", "span", "size"], [13, 12], [],
  (.cons (.ife (.or (.not (.op (.isi .tuple) (.cons (.pk 0) .nil))) (.or (.op (.cmp .ne) (.cons (.op .len (.cons (.pk 0) .nil)) (.cons (.cst (.int 3)) .nil))) (.or (.not (.call 0 (.cons (.op .idx (.cons (.pk 0) (.cons (.cst (.int 0)) .nil))) .nil))) (.or (.not (.call 1 (.cons (.op .idx (.cons (.pk 0) (.cons (.cst (.int 1)) .nil))) .nil))) (.not (.op (.isi .tuple) (.cons (.op .idx (.cons (.pk 0) (.cons (.cst (.int 2)) .nil))) .nil)))))))
   (.cons (.ret (.cst (.str "form")))
    .nil)
   .nil)
  (.cons (.for_ (.nm 1) (.op .idx (.cons (.pk 0) (.cons (.cst (.int 2)) .nil))) b__law_title_due_0)
  (.cons (.set (.tp [2, 3, 4]) (.var 0))
  (.cons (.ife (.or (.not (.chn .le .le (.cst (.int 1)) (.op .len (.cons (.pk 2) .nil)) (.cst (.int 40)))) l__law_title_due_0)
   (.cons (.ret (.cst (.str "spans")))
    .nil)
   .nil)
  (.cons (.ife (.or (.op (.cmp .lt) (.cons (.pk 3) (.cons (.op .neg (.cons (.cst (.int 1)) .nil)) .nil))) (.op (.cmp .ge) (.cons (.pk 3) (.cons (.op .len (.cons (.pk 2) .nil)) .nil))))
   (.cons (.ret (.cst (.str "loop")))
    .nil)
   .nil)
  (.cons (.ife (.not (.chn .le .le (.cst (.int 1)) (.op .len (.cons (.pk 4) .nil)) (.cst (.int 6))))
   (.cons (.ret (.cst (.str "rates")))
    .nil)
   .nil)
  (.cons (.for_ (.tp [5, 6]) (.var 4) b__law_title_due_1)
  (.cons (.ret (.cst .none))
  .nil))))))))⟩
abbrev d__law_title_due : He.DefD := ⟨("_law_title_due", none), "_law_title_due", "_law_title_due", defArgs (top 27), defBody (top 27), defScope (top 27), [], []⟩
def c_following : DefC := ⟨"following", 2, ["title", "piece"], [], [],
  (.cons (.ife (.op (.cmp .lt) (.cons (.op (.bin .add) (.cons (.pk 1) (.cons (.cst (.int 1)) .nil))) (.cons (.op .len (.cons (.op .idx (.cons (.pk 0) (.cons (.cst (.int 0)) .nil))) .nil)) .nil)))
   (.cons (.ret (.op (.bin .add) (.cons (.pk 1) (.cons (.cst (.int 1)) .nil))))
    .nil)
   .nil)
  (.cons (.ret (.op .idx (.cons (.pk 0) (.cons (.cst (.int 1)) .nil))))
  .nil))⟩
abbrev d_following : He.DefD := ⟨("following", none), "following", "following", defArgs (top 15), defBody (top 15), defScope (top 15), [], []⟩
def l_unrolled_0 : E := (.lc (.op .idx (.cons (.op .idx (.cons (.pk 0) (.cons (.cst (.int 0)) .nil))) (.cons (.pk 6) .nil))) (.nm 6) (.var 2) .yes [6])
def l_unrolled_1 : E := (.lc (.op .idx (.cons (.pk 8) (.cons (.pk 6) .nil))) (.nm 6) (.var 2) .yes [6])
def l_unrolled_2 : E := (.lc (.op .tup (.cons (.var 7) (.cons (.op .tupOf (.cons l_unrolled_1 .nil)) .nil))) (.tp [7, 8]) (.op .idx (.cons (.pk 0) (.cons (.cst (.int 2)) .nil))) .yes [7, 8])
def c_unrolled : DefC := ⟨"unrolled", 2, ["title", "turns", "order", "spans", "rates", "made", "piece", "quality", "sizes"], [4], [("MAX_PIECES", 40)],
  (.cons (.ex (.call 0 (.cons (.var 0) .nil)))
  (.cons (.set (.nm 2) (.lrg1 (.op .len (.cons (.op .idx (.cons (.pk 0) (.cons (.cst (.int 0)) .nil))) .nil))))
  (.cons (.ife (.op (.cmp .ge) (.cons (.op .idx (.cons (.pk 0) (.cons (.cst (.int 1)) .nil))) (.cons (.cst (.int 0)) .nil)))
   (.cons (.set (.nm 2) (.op (.bin .add) (.cons (.pk 2) (.cons (.op (.bin .mul) (.cons (.lrg2 (.op .idx (.cons (.pk 0) (.cons (.cst (.int 1)) .nil))) (.op .len (.cons (.op .idx (.cons (.pk 0) (.cons (.cst (.int 0)) .nil))) .nil))) (.cons (.op .min2 (.cons (.pk 1) (.cons (.glb 0) .nil))) .nil))) .nil))))
    .nil)
   .nil)
  (.cons (.set (.nm 3) (.op .tupOf (.cons l_unrolled_0 .nil)))
  (.cons (.set (.nm 4) (.op .tupOf (.cons l_unrolled_2 .nil)))
  (.cons (.set (.nm 5) (.op .tup (.cons (.var 3) (.cons (.op .neg (.cons (.cst (.int 1)) .nil)) (.cons (.var 4) .nil)))))
  (.cons (.ex (.call 0 (.cons (.var 5) .nil)))
  (.cons (.ret (.var 5))
  .nil))))))))⟩
abbrev d_unrolled : He.DefD := ⟨("unrolled", none), "unrolled", "unrolled", defArgs (top 16), defBody (top 16), defScope (top 16), [], []⟩
def b__law_order_0 : S :=
  (.cons (.app 2 (.var 3))
  (.cons (.ife (.op (.cmp .lt) (.cons (.op (.bin .add) (.cons (.pk 3) (.cons (.cst (.int 1)) .nil))) (.cons (.op .len (.cons (.pk 6) .nil)) .nil)))
   (.cons (.set (.nm 3) (.op (.bin .add) (.cons (.pk 3) (.cons (.cst (.int 1)) .nil))))
    .nil)
   (.cons (.ife (.op (.cmp .gt) (.cons (.pk 4) (.cons (.cst (.int 0)) .nil)))
     (.cons (.set (.nm 4) (.op (.bin .sub) (.cons (.pk 4) (.cons (.cst (.int 1)) .nil))))
      (.cons (.set (.nm 3) (.var 7))
      .nil))
     (.cons .brk
      .nil))
    .nil))
  .nil))
def c__law_order : DefC := ⟨"_law_order", 2, ["title", "turns", "order", "piece", "left", "k", "spans", "loop", "rates"], [], [],
  (.cons (.set (.tp [6, 7, 8]) (.var 0))
  (.cons (.set (.nm 2) (.op .lst .nil))
  (.cons (.set (.nm 3) (.cst (.int 0)))
  (.cons (.set (.nm 4) (.ife (.op (.cmp .ge) (.cons (.pk 7) (.cons (.cst (.int 0)) .nil))) (.var 1) (.cst (.int 0))))
  (.cons (.for_ (.nm 5) (.rng1 (.cst (.int 2000))) b__law_order_0)
  (.cons (.ret (.var 2))
  .nil))))))⟩
abbrev d__law_order : He.DefD := ⟨("_law_order", none), "_law_order", "_law_order", defArgs (top 28), defBody (top 28), defScope (top 28), [], []⟩
def c__law_told : DefC := ⟨"_law_told", 2, ["title", "turns", "error"], [16], [],
  (.cons (.try1 (.cons (.ret (.call 0 (.cons (.var 0) (.cons (.var 1) .nil))))
    .nil)
    2 (.ife (.isI 1) (.rsn "reason") (.cst (.str "!other"))))
  .nil)⟩
abbrev d__law_told : He.DefD := ⟨("_law_told", none), "_law_told", "_law_told", defArgs (top 29), defBody (top 29), defScope (top 29), [], []⟩
def b_law_0 : S :=
  (.cons (.set (.nm 10) (.ife (.op (.cmp .lt) (.cons (.op (.bin .add) (.cons (.pk 4) (.cons (.cst (.int 1)) .nil))) (.cons (.op .len (.cons (.pk 7) .nil)) .nil))) (.op (.bin .add) (.cons (.pk 4) (.cons (.cst (.int 1)) .nil))) (.var 8)))
  (.cons (.ife (.not (.call 4 (.cons (.call 3 (.cons (.var 3) (.cons (.var 4) .nil))) (.cons (.var 10) .nil))))
   (.cons (.ret (.cst (.bool false)))
    .nil)
   .nil)
  .nil))
def l_law_0 : E := (.lc (.op .idx (.cons (.pk 7) (.cons (.pk 13) .nil))) (.nm 13) (.var 11) .yes [13])
def l_law_1 : E := (.lc (.op .idx (.cons (.op .idx (.cons (.pk 14) (.cons (.cst (.int 1)) .nil))) (.cons (.pk 13) .nil))) (.nm 13) (.var 11) .yes [13])
def l_law_2 : E := (.lc (.op .tup (.cons (.op .idx (.cons (.pk 14) (.cons (.cst (.int 0)) .nil))) (.cons (.op .tupOf (.cons l_law_1 .nil)) .nil))) (.nm 14) (.var 9) .yes [14])
def b_law_1 : S :=
  (.cons (.set (.nm 11) (.call 6 (.cons (.var 3) (.cons (.var 5) .nil))))
  (.cons (.set (.nm 10) (.cst (.str "spans")))
  (.cons (.ife (.op (.cmp .le) (.cons (.op .len (.cons (.pk 11) .nil)) (.cons (.cst (.int 40)) .nil)))
   (.cons (.set (.nm 10) (.op .tup (.cons (.op .tupOf (.cons l_law_0 .nil)) (.cons (.op .neg (.cons (.cst (.int 1)) .nil)) (.cons (.op .tupOf (.cons l_law_2 .nil)) .nil)))))
    .nil)
   .nil)
  (.cons (.set (.nm 12) (.call 7 (.cons (.var 3) (.cons (.var 5) .nil))))
  (.cons (.ife (.not (.call 4 (.cons (.var 12) (.cons (.var 10) .nil))))
   (.cons (.ret (.cst (.bool false)))
    .nil)
   .nil)
  (.cons (.ife (.and (.op (.cmp .ne) (.cons (.pk 10) (.cons (.cst (.str "spans")) .nil))) (.or (.op (.cmp .isn) (.cons (.call 8 (.cons (.var 12) .nil)) (.cons (.cst .none) .nil))) (.not (.call 4 (.cons (.call 7 (.cons (.var 12) (.cons (.var 5) .nil))) (.cons (.var 12) .nil))))))
   (.cons (.ret (.cst (.bool false)))
    .nil)
   .nil)
  .nil))))))
def b_law_2 : S :=
  (.cons (.set (.nm 3) (.call 2 (.cons (.io 1) (.cons (.call 1 (.cons (.io 1) (.cons (.op .lst (.cons (.cst (.int 1)) (.cons (.cst (.int 3)) (.cons (.cst (.int 6)) (.cons (.cst (.int 12)) .nil))))) .nil))) (.cons (.cst (.bool true)) .nil)))))
  (.cons (.set (.tp [7, 8, 9]) (.var 3))
  (.cons (.for_ (.nm 4) (.rng1 (.op .len (.cons (.pk 7) .nil))) b_law_0)
  (.cons (.for_ (.nm 5) (.op .lst (.cons (.cst (.int 0)) (.cons (.cst (.int 1)) (.cons (.cst (.int 2)) (.cons (.call 5 (.cons (.io 1) (.cons (.cst (.int 9)) .nil))) (.cons (.call 1 (.cons (.io 1) (.cons (.op .lst (.cons (.cst (.int 38)) (.cons (.cst (.int 39)) (.cons (.cst (.int 40)) (.cons (.cst (.int 41)) (.cons (.cst (.int 60)) (.cons (.op (.bin .pow) (.cons (.cst (.int 10)) (.cons (.cst (.int 6)) .nil))) (.cons (.op (.bin .pow) (.cons (.cst (.int 10)) (.cons (.cst (.int 30)) .nil))) .nil)))))))) .nil))) .nil)))))) b_law_1)
  (.cons (.set (.nm 6) (.call 9 (.cons (.io 1) (.cons (.var 3) .nil))))
  (.cons (.ife (.and (.op (.cmp .isn) (.cons (.call 10 (.cons (.var 6) .nil)) (.cons (.cst .none) .nil))) (.not (.call 4 (.cons (.call 7 (.cons (.var 6) (.cons (.var 2) .nil))) (.cons (.call 10 (.cons (.var 6) .nil)) .nil)))))
   (.cons (.ret (.cst (.bool false)))
    .nil)
   .nil)
  .nil))))))
def c_law : DefC := ⟨"law", 1, ["script", "state", "turn", "title", "piece", "turns", "value", "spans", "loop", "rates", "due", "order", "made", "k", "rate"], [5, 7, 9, 15, 8, 6, 17, 18, 4, 11, 14], [],
  (.cons (.set (.nm 1) (.call 0 (.cons (.var 0) .nil)))
  (.cons (.for_ (.nm 2) (.rng1 (.cst (.int 4))) b_law_2)
  (.cons (.ret (.cst (.bool true)))
  .nil)))⟩
abbrev d_law : He.DefD := ⟨("law", none), "law", "law", defArgs (top 30), defBody (top 30), defScope (top 30), [], []⟩
def cs : List DefC := [c_is_integer, c_is_row, c_has_form, c_are_between, c_check_title, c__law_start, c__law_draw, c__law_pick, c__law_same, c__law_title, c__law_odd, c__law_spoilt, c__law_is_int, c__law_is_row, c__law_title_due, c_following, c_unrolled, c__law_order, c__law_told, c_law]
abbrev ds : List He.DefD := [d_is_integer, d_is_row, d_has_form, d_are_between, d_check_title, d__law_start, d__law_draw, d__law_pick, d__law_same, d__law_title, d__law_odd, d__law_spoilt, d__law_is_int, d__law_is_row, d__law_title_due, d_following, d_unrolled, d__law_order, d__law_told, d_law]
abbrev es : List ErrD := [mkErr 1 "TitleError" (top 2)]
-- info: 0:is_integer/1 1:is_row/1 2:has_form/1 3:are_between/3 4:check_title/1 5:_law_start/1 6:_law_draw/2 7:_law_pick/2 8:_law_same/2 9:_law_title/3 10:_law_odd/1 11:_law_spoilt/2 12:_law_is_int/1 13:_law_is_row/1 14:_law_title_due/1 15:following/2 16:unrolled/2 17:_law_order/2 18:_law_told/2 19:law/1
-- io: _law_draw:state _law_pick:state _law_title:state _law_odd:state _law_spoilt:state
theorem ck_is_integer : ckD cs es c_is_integer d_is_integer = true := by decide +kernel
theorem ck_is_row : ckD cs es c_is_row d_is_row = true := by decide +kernel
theorem ck_has_form : ckD cs es c_has_form d_has_form = true := by decide +kernel
theorem ck_are_between : ckD cs es c_are_between d_are_between = true := by decide +kernel
theorem ck_check_title : ckD cs es c_check_title d_check_title = true := by decide +kernel
theorem ck__law_start : ckD cs es c__law_start d__law_start = true := by decide +kernel
theorem ck__law_draw : ckD cs es c__law_draw d__law_draw = true := by decide +kernel
theorem ck__law_pick : ckD cs es c__law_pick d__law_pick = true := by decide +kernel
theorem ck__law_same : ckD cs es c__law_same d__law_same = true := by decide +kernel
theorem ck__law_title : ckD cs es c__law_title d__law_title = true := by decide +kernel
theorem ck__law_odd : ckD cs es c__law_odd d__law_odd = true := by decide +kernel
theorem ck__law_spoilt : ckD cs es c__law_spoilt d__law_spoilt = true := by decide +kernel
theorem ck__law_is_int : ckD cs es c__law_is_int d__law_is_int = true := by decide +kernel
theorem ck__law_is_row : ckD cs es c__law_is_row d__law_is_row = true := by decide +kernel
theorem ck__law_title_due : ckD cs es c__law_title_due d__law_title_due = true := by decide +kernel
theorem ck_following : ckD cs es c_following d_following = true := by decide +kernel
theorem ck_unrolled : ckD cs es c_unrolled d_unrolled = true := by decide +kernel
theorem ck__law_order : ckD cs es c__law_order d__law_order = true := by decide +kernel
theorem ck__law_told : ckD cs es c__law_told d__law_told = true := by decide +kernel
theorem ck_law : ckD cs es c_law d_law = true := by decide +kernel
theorem ci : es.all inC = true := by decide +kernel
end Z

set_option Elab.async false
set_option linter.all false
set_option maxRecDepth 100000
set_option maxHeartbeats 0
namespace Z
open PySem PySem.Spec PyProof.Rows L2
abbrev Rw : PySem.W.OpenRow := PySem.W.OpenLaw.row PySem.Challenge.rw_reelhouse_k02_unrolled_titles
abbrev lawAt : Nat := 30
abbrev hk : PySem.W.Hook := hookZ 6 Pg cs ds es
def ob (s : PySem.W.SharedT) : AlZ := obsZ 6 Pg cs ds es (HandSHeadRun.getT s)
theorem ob_eq (s : PySem.W.SharedT) : ob s = hk.obs s.abs := obsZ_eq (HandSHeadRun.getT_eq s)
def names : List Str := ["ReelError", "TitleError", "is_integer", "MAX_PIECES", "MAX_RATES", "MAX_SPAN", "MAX_SIZE", "MAX_QUALITY", "is_row", "has_form", "are_between", "check_title", "following", "unrolled", "_law_start", "_law_draw", "_law_pick", "_law_same", "_law_title", "_law_odd", "_law_spoilt", "_law_is_int", "_law_is_row", "_law_title_due", "_law_order", "_law_told"]
theorem run (w : World) : HandSHeadRun.RunEq Rw (PySem.W.view Rw.prog [lawAt]) hk ob 4000 names w := by
  intro os
  kernel_rfl
end Z

set_option Elab.async false
set_option linter.all false
set_option maxRecDepth 100000
set_option maxHeartbeats 0
namespace Z
open PySem PySem.Spec PyProof.Rows L2
/-- def id at level k + 1 -/
def Fd (k id : Nat) (ss : List Sl) : Rt := match tbl cs (k + 1) id with
  | some p => p.2 ss
  | none => .st
theorem T0 (k : Nat) : tbl cs (k + 1) 0 = some (1, Fd k 0) := rfl
theorem T1 (k : Nat) : tbl cs (k + 1) 1 = some (1, Fd k 1) := rfl
theorem T2 (k : Nat) : tbl cs (k + 1) 2 = some (1, Fd k 2) := rfl
theorem T3 (k : Nat) : tbl cs (k + 1) 3 = some (3, Fd k 3) := rfl
theorem T4 (k : Nat) : tbl cs (k + 1) 4 = some (1, Fd k 4) := rfl
theorem T5 (k : Nat) : tbl cs (k + 1) 5 = some (1, Fd k 5) := rfl
theorem T6 (k : Nat) : tbl cs (k + 1) 6 = some (2, Fd k 6) := rfl
theorem T7 (k : Nat) : tbl cs (k + 1) 7 = some (2, Fd k 7) := rfl
theorem T8 (k : Nat) : tbl cs (k + 1) 8 = some (2, Fd k 8) := rfl
theorem T9 (k : Nat) : tbl cs (k + 1) 9 = some (3, Fd k 9) := rfl
theorem T10 (k : Nat) : tbl cs (k + 1) 10 = some (1, Fd k 10) := rfl
theorem T11 (k : Nat) : tbl cs (k + 1) 11 = some (2, Fd k 11) := rfl
theorem T12 (k : Nat) : tbl cs (k + 1) 12 = some (1, Fd k 12) := rfl
theorem T13 (k : Nat) : tbl cs (k + 1) 13 = some (1, Fd k 13) := rfl
theorem T14 (k : Nat) : tbl cs (k + 1) 14 = some (1, Fd k 14) := rfl
theorem T15 (k : Nat) : tbl cs (k + 1) 15 = some (2, Fd k 15) := rfl
theorem T16 (k : Nat) : tbl cs (k + 1) 16 = some (2, Fd k 16) := rfl
theorem T17 (k : Nat) : tbl cs (k + 1) 17 = some (2, Fd k 17) := rfl
theorem T18 (k : Nat) : tbl cs (k + 1) 18 = some (2, Fd k 18) := rfl
theorem T19 (k : Nat) : tbl cs (k + 1) 19 = some (1, Fd k 19) := rfl
theorem U0 (k : Nat) (ss : List Sl) : Fd k 0 ss = evDef (locT c_is_integer.calls (tbl cs k)) (cstC c_is_integer.gcs) c_is_integer.N.length c_is_integer.body ss := rfl
theorem U1 (k : Nat) (ss : List Sl) : Fd k 1 ss = evDef (locT c_is_row.calls (tbl cs k)) (cstC c_is_row.gcs) c_is_row.N.length c_is_row.body ss := rfl
theorem U2 (k : Nat) (ss : List Sl) : Fd k 2 ss = evDef (locT c_has_form.calls (tbl cs k)) (cstC c_has_form.gcs) c_has_form.N.length c_has_form.body ss := rfl
theorem U3 (k : Nat) (ss : List Sl) : Fd k 3 ss = evDef (locT c_are_between.calls (tbl cs k)) (cstC c_are_between.gcs) c_are_between.N.length c_are_between.body ss := rfl
theorem U4 (k : Nat) (ss : List Sl) : Fd k 4 ss = evDef (locT c_check_title.calls (tbl cs k)) (cstC c_check_title.gcs) c_check_title.N.length c_check_title.body ss := rfl
theorem U5 (k : Nat) (ss : List Sl) : Fd k 5 ss = evDef (locT c__law_start.calls (tbl cs k)) (cstC c__law_start.gcs) c__law_start.N.length c__law_start.body ss := rfl
theorem U6 (k : Nat) (ss : List Sl) : Fd k 6 ss = evDef (locT c__law_draw.calls (tbl cs k)) (cstC c__law_draw.gcs) c__law_draw.N.length c__law_draw.body ss := rfl
theorem U7 (k : Nat) (ss : List Sl) : Fd k 7 ss = evDef (locT c__law_pick.calls (tbl cs k)) (cstC c__law_pick.gcs) c__law_pick.N.length c__law_pick.body ss := rfl
theorem U8 (k : Nat) (ss : List Sl) : Fd k 8 ss = evDef (locT c__law_same.calls (tbl cs k)) (cstC c__law_same.gcs) c__law_same.N.length c__law_same.body ss := rfl
theorem U9 (k : Nat) (ss : List Sl) : Fd k 9 ss = evDef (locT c__law_title.calls (tbl cs k)) (cstC c__law_title.gcs) c__law_title.N.length c__law_title.body ss := rfl
theorem U10 (k : Nat) (ss : List Sl) : Fd k 10 ss = evDef (locT c__law_odd.calls (tbl cs k)) (cstC c__law_odd.gcs) c__law_odd.N.length c__law_odd.body ss := rfl
theorem U11 (k : Nat) (ss : List Sl) : Fd k 11 ss = evDef (locT c__law_spoilt.calls (tbl cs k)) (cstC c__law_spoilt.gcs) c__law_spoilt.N.length c__law_spoilt.body ss := rfl
theorem U12 (k : Nat) (ss : List Sl) : Fd k 12 ss = evDef (locT c__law_is_int.calls (tbl cs k)) (cstC c__law_is_int.gcs) c__law_is_int.N.length c__law_is_int.body ss := rfl
theorem U13 (k : Nat) (ss : List Sl) : Fd k 13 ss = evDef (locT c__law_is_row.calls (tbl cs k)) (cstC c__law_is_row.gcs) c__law_is_row.N.length c__law_is_row.body ss := rfl
theorem U14 (k : Nat) (ss : List Sl) : Fd k 14 ss = evDef (locT c__law_title_due.calls (tbl cs k)) (cstC c__law_title_due.gcs) c__law_title_due.N.length c__law_title_due.body ss := rfl
theorem U15 (k : Nat) (ss : List Sl) : Fd k 15 ss = evDef (locT c_following.calls (tbl cs k)) (cstC c_following.gcs) c_following.N.length c_following.body ss := rfl
theorem U16 (k : Nat) (ss : List Sl) : Fd k 16 ss = evDef (locT c_unrolled.calls (tbl cs k)) (cstC c_unrolled.gcs) c_unrolled.N.length c_unrolled.body ss := rfl
theorem U17 (k : Nat) (ss : List Sl) : Fd k 17 ss = evDef (locT c__law_order.calls (tbl cs k)) (cstC c__law_order.gcs) c__law_order.N.length c__law_order.body ss := rfl
theorem U18 (k : Nat) (ss : List Sl) : Fd k 18 ss = evDef (locT c__law_told.calls (tbl cs k)) (cstC c__law_told.gcs) c__law_told.N.length c__law_told.body ss := rfl
theorem U19 (k : Nat) (ss : List Sl) : Fd k 19 ss = evDef (locT c_law.calls (tbl cs k)) (cstC c_law.gcs) c_law.N.length c_law.body ss := rfl
end Z

set_option Elab.async false
set_option linter.all false
set_option maxRecDepth 100000
set_option maxHeartbeats 0
namespace Z
open PySem PySem.Spec PyProof.Rows L2
/-! ## drawing -/
def stD (sc : List Int) (c i s : Int) : PyData := .list [.list (sc.map .int), .int c, .int i, .int s]
def St (d : PyData) : Prop := ∃ sc c i s, d = stD sc c i s ∧ 0 ≤ i ∧ i ≤ (sc.length : Int)
theorem F6a (k : Nat) (sc : List Int) (c i s m : Int) (h : c ≠ 0) (hm : m ≠ 0) (hm2 : m.natAbs < 1073741824) : Fd k 6 [.pn (stD sc c i s), .fz (.int m)] = .ret (.fr (.int (c.fmod m))) [stD sc (c.fdiv m) i s, .none] := by
  show evDef _ _ _ _ _ = _
  simp [evDef, sv, ev, Fl.of, Ev.val, Ev.no, Ev.itr, opd_pk, opd_io, opd_var, opd_cst, opd_glb, opd_op, opd_chn, opd_slc, opd_and, opd_or, opd_not, opd_ife, opd_call, opd_lc, Ou.bd, zOp, opdl, retains, rsl, Z.rs, frl, opD, binD, cmpD, Ou.of, slD, atI, ixN, eqv_int, shaped_int, dbl, dint, zVar, zPkT, putR, ownAt, R.sl, R.d, finD, truD, zCall, locT, cstC, argsS, argS, ioIx, afterCall, putBack, zAnd, zOr, zNot, zChn, zSlc, slcD, cutD, Tg.put, setAll, seqD, isTy_tt, fmtOk, fitL, zRng1, zRng2, smallI, zChn3, zLrg1, zLrg2, zEnm, zZip, opd_chn3, opd_lrg1, opd_lrg2, c__law_draw, stD, h, hm, hm2]
theorem F6b (k : Nat) (sc : List Int) (i s m : Int) (h : (sc.length : Int) ≤ i) (hm : m ≠ 0) (hm2 : m.natAbs < 1073741824) : Fd k 6 [.pn (stD sc 0 i s), .fz (.int m)] = .ret (.fr (.int ((((s * 48271 + 69621).fmod 2147483629).fdiv 13).fmod m))) [stD sc 0 i ((s * 48271 + 69621).fmod 2147483629), .none] := by
  show evDef _ _ _ _ _ = _
  simp [evDef, sv, ev, Fl.of, Ev.val, Ev.no, Ev.itr, opd_pk, opd_io, opd_var, opd_cst, opd_glb, opd_op, opd_chn, opd_slc, opd_and, opd_or, opd_not, opd_ife, opd_call, opd_lc, Ou.bd, zOp, opdl, retains, rsl, Z.rs, frl, opD, binD, cmpD, Ou.of, slD, atI, ixN, eqv_int, shaped_int, dbl, dint, zVar, zPkT, putR, ownAt, R.sl, R.d, finD, truD, zCall, locT, cstC, argsS, argS, ioIx, afterCall, putBack, zAnd, zOr, zNot, zChn, zSlc, slcD, cutD, Tg.put, setAll, seqD, isTy_tt, fmtOk, fitL, zRng1, zRng2, smallI, zChn3, zLrg1, zLrg2, zEnm, zZip, opd_chn3, opd_lrg1, opd_lrg2, c__law_draw, stD, h, hm, hm2]
theorem F6c (k : Nat) (sc : List Int) (i s m : Int) (h0 : 0 ≤ i) (h : i < (sc.length : Int)) (hl : i.toNat < sc.length) (hm : m ≠ 0) (hm2 : m.natAbs < 1073741824) :
    Fd k 6 [.pn (stD sc 0 i s), .fz (.int m)] = .ret (.fr (.int ((if sc[i.toNat] < 0 then -sc[i.toNat] else sc[i.toNat]).fmod m))) [stD sc ((if sc[i.toNat] < 0 then -sc[i.toNat] else sc[i.toNat]).fdiv m) (i + 1) s, .none] := by
  show evDef _ _ _ _ _ = _
  have h2 : ¬ (sc.length : Int) ≤ i := by omega
  simp [evDef, sv, ev, Fl.of, Ev.val, Ev.no, Ev.itr, opd_pk, opd_io, opd_var, opd_cst, opd_glb, opd_op, opd_chn, opd_slc, opd_and, opd_or, opd_not, opd_ife, opd_call, opd_lc, Ou.bd, zOp, opdl, retains, rsl, Z.rs, frl, opD, binD, cmpD, Ou.of, slD, atI, ixN, eqv_int, shaped_int, dbl, dint, zVar, zPkT, putR, ownAt, R.sl, R.d, finD, truD, zCall, locT, cstC, argsS, argS, ioIx, afterCall, putBack, zAnd, zOr, zNot, zChn, zSlc, slcD, cutD, Tg.put, setAll, seqD, isTy_tt, fmtOk, fitL, zRng1, zRng2, smallI, zChn3, zLrg1, zLrg2, zEnm, zZip, opd_chn3, opd_lrg1, opd_lrg2, c__law_draw, stD, h0, h, h2, hl, hm, hm2]
theorem draw (k : Nat) {d : PyData} {m : Int} (h : St d) (hm : 1 ≤ m) (hm2 : m < 1073741824) : ∃ v d', Fd k 6 [.pn d, .fz (.int m)] = .ret (.fr (.int v)) [d', .none] ∧ St d' ∧ 0 ≤ v ∧ v < m := by
  obtain ⟨sc, c, i, s, rfl, h0, h1⟩ := h
  have m0 : m ≠ 0 := by omega
  have m2 : m.natAbs < 1073741824 := by omega
  have md : ∀ a : Int, 0 ≤ a.fmod m ∧ a.fmod m < m := fun a => ⟨Int.fmod_nonneg_of_pos a (by omega), Int.fmod_lt_of_pos a (by omega)⟩
  by_cases hc : c = 0
  · subst hc
    by_cases hi : (sc.length : Int) ≤ i
    · exact ⟨_, _, F6b k sc i s m hi m0 m2, ⟨sc, _, _, _, rfl, h0, h1⟩, md _⟩
    · have hl : i.toNat < sc.length := by omega
      exact ⟨_, _, F6c k sc i s m h0 (by omega) hl m0 m2, ⟨sc, _, _, _, rfl, by omega, by omega⟩, md _⟩
  · exact ⟨_, _, F6a k sc c i s m hc m0 m2, ⟨sc, _, _, _, rfl, h0, h1⟩, md _⟩
theorem pick (k : Nat) {d : PyData} {xs : List PyData} (h : St d) (h1 : xs ≠ []) (h2 : xs.length < 1073741824) : ∃ x d', Fd (k + 1) 7 [.pn d, .fz (.list xs)] = .ret (.fr x) [d', .none] ∧ St d' ∧ x ∈ xs := by
  have hl : 1 ≤ xs.length := by cases xs with
    | nil => exact absurd rfl h1
    | cons _ _ => simp
  obtain ⟨v, d', e, s', v0, v1⟩ := draw k h (m := xs.length) (by omega) (by omega)
  have hv : v.toNat < xs.length := by omega
  refine ⟨xs[v.toNat], d', ?_, s', List.getElem_mem hv⟩
  show evDef _ _ _ _ _ = _
  simp [evDef, sv, ev, Fl.of, Ev.val, Ev.no, Ev.itr, opd_pk, opd_io, opd_var, opd_cst, opd_glb, opd_op, opd_chn, opd_slc, opd_and, opd_or, opd_not, opd_ife, opd_call, opd_lc, Ou.bd, zOp, opdl, retains, rsl, Z.rs, frl, opD, binD, cmpD, Ou.of, slD, atI, ixN, eqv_int, shaped_int, dbl, dint, zVar, zPkT, putR, ownAt, R.sl, R.d, finD, truD, zCall, locT, cstC, argsS, argS, ioIx, afterCall, putBack, zAnd, zOr, zNot, zChn, zSlc, slcD, cutD, Tg.put, setAll, seqD, isTy_tt, fmtOk, fitL, zRng1, zRng2, smallI, zChn3, zLrg1, zLrg2, zEnm, zZip, opd_chn3, opd_lrg1, opd_lrg2, c__law_pick, T6, e, v0, v1, hv]
/-! ## values -/
def atom : PyData → Prop
  | .none => True
  | .bool _ => True
  | .int _ => True
  | .str _ => True
  | _ => False
def okV (b : Nat) : Nat → PyData → Prop
  | 0, v => atom v
  | h + 1, v => atom v ∨ ∃ xs, v = .tuple xs ∧ xs.length ≤ b ∧ ∀ x ∈ xs, okV b h x
theorem okV_mono {b b' : Nat} (hb : b ≤ b') : ∀ {h h' : Nat} {v : PyData}, h ≤ h' → okV b h v → okV b' h' v
  | 0, 0, v, _, q => q
  | 0, h' + 1, v, _, q => .inl q
  | h + 1, 0, v, hh, q => by omega
  | h + 1, h' + 1, v, hh, q => by
    rcases q with q | ⟨xs, rfl, h1, h2⟩
    · exact .inl q
    · exact .inr ⟨xs, rfl, by omega, fun x hx => okV_mono hb (by omega) (h2 x hx)⟩
theorem okV_atom {b h : Nat} {v : PyData} (a : atom v) : okV b h v := by cases h with
  | zero => exact a
  | succ h => exact .inl a
theorem okV_tup {b h : Nat} {xs : List PyData} (h1 : xs.length ≤ b) (h2 : ∀ x ∈ xs, okV b h x) : okV b (h + 1) (.tuple xs) := .inr ⟨xs, rfl, h1, h2⟩
theorem odd (k : Nat) {d : PyData} (h : St d) : ∃ x d', Fd (k + 2) 10 [.pn d] = .ret (.fr x) [d'] ∧ St d' ∧ okV 2 2 x := by
  let lst : List PyData := [.none, .bool true, .bool false, .int (-1), .int 0, .int 1, .int 2, .int 8, .int 9, .int 39, .int 40, .int 41, .int 60, .int 61, .int 99, .int 100, .int 1000000000000000000000000000000, .str "", .str "a", .str "form", .tuple [], .tuple [.int 1], .tuple [.int 0, .tuple [.int 1]], .tuple [.tuple [.int 1]], .int (-2)]
  obtain ⟨x, d', e, s', hx⟩ := pick k (xs := lst) h (by simp [lst]) (by simp [lst])
  refine ⟨x, d', ?_, s', ?_⟩
  · show evDef _ _ _ _ _ = _
    have z : (25 : Nat) ≤ sizeLine := by rw [sizeLine_eq]; decide
    have z0 : (0 : Nat) ≤ sizeLine := Nat.zero_le _
    have z1 : (1 : Nat) ≤ sizeLine := by omega
    have z2 : (2 : Nat) ≤ sizeLine := by omega
    simp only [lst] at e
    simp [evDef, sv, ev, Fl.of, Ev.val, Ev.no, Ev.itr, opd_pk, opd_io, opd_var, opd_cst, opd_glb, opd_op, opd_chn, opd_slc, opd_and, opd_or, opd_not, opd_ife, opd_call, opd_lc, Ou.bd, zOp, opdl, retains, rsl, Z.rs, frl, opD, binD, cmpD, Ou.of, slD, atI, ixN, eqv_int, shaped_int, dbl, dint, zVar, zPkT, putR, ownAt, R.sl, R.d, finD, truD, zCall, locT, cstC, argsS, argS, ioIx, afterCall, putBack, zAnd, zOr, zNot, zChn, zSlc, slcD, cutD, Tg.put, setAll, seqD, isTy_tt, fmtOk, fitL, zRng1, zRng2, smallI, zChn3, zLrg1, zLrg2, zEnm, zZip, opd_chn3, opd_lrg1, opd_lrg2, c__law_odd, T7, e, z, z0, z1, z2]
  · have all : ∀ y ∈ lst, okV 2 2 y := by
      intro y hy
      simp only [lst, List.mem_cons, List.not_mem_nil, or_false] at hy
      rcases hy with rfl | rfl | rfl | rfl | rfl | rfl | rfl | rfl | rfl | rfl | rfl | rfl | rfl | rfl | rfl | rfl | rfl | rfl | rfl | rfl | rfl | rfl | rfl | rfl | rfl <;> first
        | exact okV_atom trivial
        | (refine okV_tup (by simp) ?_; simp [okV, atom])
    exact all x hx
end Z

set_option Elab.async false
set_option linter.all false
set_option maxRecDepth 100000
set_option maxHeartbeats 0
namespace Z
open PySem PySem.Spec PyProof.Rows L2
/-! ## what titles are -/
theorem okV_len {b h : Nat} {xs : List PyData} (q : okV b h (.tuple xs)) : xs.length ≤ b := by
  cases h with
  | zero => exact q.elim
  | succ h =>
    rcases q with q | ⟨ys, e, h1, _⟩
    · exact q.elim
    · cases e; exact h1
theorem okV_mem {b h : Nat} {xs : List PyData} (q : okV b h (.tuple xs)) {x : PyData} (hx : x ∈ xs) : okV b h x := by
  cases h with
  | zero => exact q.elim
  | succ h =>
    rcases q with q | ⟨ys, e, _, h2⟩
    · exact q.elim
    · cases e; exact okV_mono (Nat.le_refl _) (Nat.le_succ _) (h2 x hx)
def isI (x : PyData) : Bool := isTy .int x && !isTy .bool x
theorem F0 (k : Nat) (x : PyData) : Fd k 0 [.fz x] = .ret (dbl (isI x)) [.none] := by cases x <;> rfl
theorem F0' (k : Nat) (x : PyData) : Fd k 0 [.fz x] = .ret (.fr (.bool (isI x))) [.none] := F0 k x
theorem F12' (k : Nat) (x : PyData) : Fd k 12 [.fz x] = .ret (.fr (.bool (isI x))) [.none] := by cases x <;> rfl
/-- a comprehension that only looks -/
theorem lcGo_look {tg : Tg} {own : List Nat} {fc : En → Ou Bool} {fe : En → Ou R} {n0 : En} {p : PyData → Bool} {f : PyData → PyData} : ∀ (xs acc : List PyData) (n : En), wipeN n own = n0 →
    (∀ x ∈ xs, ∃ n1, tg.put x n0 = some n1 ∧ wipeN n1 own = n0 ∧ fc n1 = .ok (p x) n1 ∧ (p x = true → ∃ r, fe n1 = .ok r n1 ∧ r.d = f x)) → acc.length + xs.length ≤ sizeLine →
    ∃ n', wipeN n' own = n0 ∧ lcGo tg own fc fe xs acc n = .ok (acc ++ (xs.filter p).map f) n'
  | [], acc, n, hn, _, _ => ⟨n, hn, by rw [lcGo_nil]; simp⟩
  | x :: xs, acc, n, hn, h, hl => by
    obtain ⟨n1, h1, h2, h3, h4⟩ := h x List.mem_cons_self
    rw [lcGo_cons, hn, h1]
    dsimp only
    rw [h3]
    dsimp only [Ou.bd]
    have hl' : acc.length + (xs.length + 1) ≤ sizeLine := by simpa using hl
    cases hp : p x with
    | true =>
      obtain ⟨r, e1, e2⟩ := h4 hp
      rw [if_pos rfl, e1]
      dsimp only [Ou.bd]
      rw [if_pos (by simp; omega)]
      obtain ⟨n', a, b⟩ := lcGo_look xs (acc ++ [r.d]) n1 h2 (fun y hy => h y (List.mem_cons_of_mem _ hy)) (by simp; omega)
      exact ⟨n', a, by rw [b, e2]; simp [hp]⟩
    | false =>
      rw [if_neg Bool.false_ne_true]
      obtain ⟨n', a, b⟩ := lcGo_look xs acc n1 h2 (fun y hy => h y (List.mem_cons_of_mem _ hy)) (by omega)
      exact ⟨n', a, by rw [b]; simp [hp]⟩
theorem zLc_look {tg : Tg} {own : List Nat} {fi : En → Ou (List PyData)} {fc : En → Ou Bool} {fe : En → Ou R} {n n1 n0 : En} {xs : List PyData} {p : PyData → Bool} {f : PyData → PyData} (hi : fi n = .ok xs n1) (hp : noPn n1 own = true) (h0 : wipeN n1 own = n0) (h00 : wipeN n0 own = n0)
    (h : ∀ x ∈ xs, ∃ n1, tg.put x n0 = some n1 ∧ wipeN n1 own = n0 ∧ fc n1 = .ok (p x) n1 ∧ (p x = true → ∃ r, fe n1 = .ok r n1 ∧ r.d = f x)) (hl : xs.length ≤ sizeLine) :
    zLc tg own fi fc fe n = .ok (.nw (.list ((xs.filter p).map f))) n0 := by
  unfold zLc
  rw [hi]
  dsimp only [Ou.bd]
  rw [if_pos hp, h0]
  obtain ⟨n', a, b⟩ := lcGo_look (acc := []) xs n0 h00 h (by simpa using hl)
  rw [b]
  dsimp only
  rw [a]
  simp
theorem ft (xs : List PyData) : xs.filter (fun _ => true) = xs := List.filter_eq_self.mpr fun _ _ => rfl
theorem boolsD_map (f : PyData → Bool) : ∀ xs : List PyData, boolsD (xs.map fun x => .bool (f x)) = some (xs.map f)
  | [] => rfl
  | x :: xs => by
    show (boolsD (xs.map fun x => .bool (f x))).map (f x :: ·) = _
    rw [boolsD_map f xs]; rfl
def rowB : PyData → Bool
  | .tuple xs => xs.all isI
  | _ => false
theorem all_id (f : PyData → Bool) (xs : List PyData) : (xs.map f).all id = xs.all f := by simp [Function.comp_def]
theorem L1 (k : Nat) {xs : List PyData} (hl : xs.length ≤ sizeLine) : (ev (locT c_is_row.calls (tbl cs (k + 1))) (cstC c_is_row.gcs) l_is_row_0).e [.fz (.tuple xs), .un] = .ok (.nw (.list (xs.map fun x => .bool (isI x)))) [.fz (.tuple xs), .un] := by
  have h := zLc_look (tg := .nm 1) (own := [1]) (fi := (ev (locT c_is_row.calls (tbl cs (k + 1))) (cstC c_is_row.gcs) (.var 0)).i) (fc := (ev (locT c_is_row.calls (tbl cs (k + 1))) (cstC c_is_row.gcs) .yes).t)
    (fe := (ev (locT c_is_row.calls (tbl cs (k + 1))) (cstC c_is_row.gcs) (.call 0 (.cons (.var 1) .nil))).e) (n := [.fz (.tuple xs), .un]) (n1 := [.fz (.tuple xs), .un]) (n0 := [.fz (.tuple xs), .un]) (xs := xs) (p := fun _ => true) (f := fun x => .bool (isI x))
    rfl rfl rfl rfl (fun x hx => ⟨[.fz (.tuple xs), .fz x], rfl, rfl, rfl, fun _ => ⟨.fr (.bool (isI x)), by simp [evDef, sv, ev, Fl.of, Ev.val, Ev.no, Ev.itr, opd_pk, opd_io, opd_var, opd_cst, opd_glb, opd_op, opd_chn, opd_slc, opd_and, opd_or, opd_not, opd_ife, opd_call, opd_lc, Ou.bd, zOp, opdl, retains, rsl, Z.rs, frl, opD, binD, cmpD, Ou.of, slD, atI, ixN, eqv_int, shaped_int, dbl, dint, zVar, zPkT, putR, ownAt, R.sl, R.d, finD, truD, zCall, locT, cstC, argsS, argS, ioIx, afterCall, putBack, zAnd, zOr, zNot, zChn, zSlc, slcD, cutD, Tg.put, setAll, seqD, isTy_tt, fmtOk, fitL, zRng1, zRng2, smallI, zChn3, zLrg1, zLrg2, zEnm, zZip, opd_chn3, opd_lrg1, opd_lrg2, c_is_row, T0, F0'], rfl⟩⟩) hl
  rw [ft] at h
  exact h
theorem oL1 {f : En → Ou R} {n : En} : opd l_is_row_0 f n = (f n).bd fun r n1 => .ok (.dd r.d) n1 := rfl
theorem F1 (k : Nat) {x : PyData} (hb : ∀ xs, x = .tuple xs → xs.length ≤ sizeLine) : Fd (k + 1) 1 [.fz x] = .ret (.fr (.bool (rowB x))) [.none] := by
  cases x <;> try rfl
  rename_i xs
  have h := L1 k (hb xs rfl)
  show evDef _ _ _ _ _ = _
  simp only [c_is_row] at h ⊢
  simp [evDef, sv, ev, Fl.of, Ev.val, Ev.no, Ev.itr, opd_pk, opd_io, opd_var, opd_cst, opd_glb, opd_op, opd_chn, opd_slc, opd_and, opd_or, opd_not, opd_ife, opd_call, opd_lc, Ou.bd, zOp, opdl, retains, rsl, Z.rs, frl, opD, binD, cmpD, Ou.of, slD, atI, ixN, eqv_int, shaped_int, dbl, dint, zVar, zPkT, putR, ownAt, R.sl, R.d, finD, truD, zCall, locT, cstC, argsS, argS, ioIx, afterCall, putBack, zAnd, zOr, zNot, zChn, zSlc, slcD, cutD, Tg.put, setAll, seqD, isTy_tt, fmtOk, fitL, zRng1, zRng2, smallI, zChn3, zLrg1, zLrg2, zEnm, zZip, opd_chn3, opd_lrg1, opd_lrg2, oL1, h, boolsD_map, rowB, all_id]
theorem L13 (k : Nat) {xs : List PyData} (hl : xs.length ≤ sizeLine) : (ev (locT c__law_is_row.calls (tbl cs (k + 1))) (cstC c__law_is_row.gcs) l__law_is_row_0).e [.fz (.tuple xs), .un] = .ok (.nw (.list (xs.map fun x => .bool (isI x)))) [.fz (.tuple xs), .un] := by
  have h := zLc_look (tg := .nm 1) (own := [1]) (fi := (ev (locT c__law_is_row.calls (tbl cs (k + 1))) (cstC c__law_is_row.gcs) (.var 0)).i) (fc := (ev (locT c__law_is_row.calls (tbl cs (k + 1))) (cstC c__law_is_row.gcs) .yes).t)
    (fe := (ev (locT c__law_is_row.calls (tbl cs (k + 1))) (cstC c__law_is_row.gcs) (.call 0 (.cons (.var 1) .nil))).e) (n := [.fz (.tuple xs), .un]) (n1 := [.fz (.tuple xs), .un]) (n0 := [.fz (.tuple xs), .un]) (xs := xs) (p := fun _ => true) (f := fun x => .bool (isI x))
    rfl rfl rfl rfl (fun x hx => ⟨[.fz (.tuple xs), .fz x], rfl, rfl, rfl, fun _ => ⟨.fr (.bool (isI x)), by simp [evDef, sv, ev, Fl.of, Ev.val, Ev.no, Ev.itr, opd_pk, opd_io, opd_var, opd_cst, opd_glb, opd_op, opd_chn, opd_slc, opd_and, opd_or, opd_not, opd_ife, opd_call, opd_lc, Ou.bd, zOp, opdl, retains, rsl, Z.rs, frl, opD, binD, cmpD, Ou.of, slD, atI, ixN, eqv_int, shaped_int, dbl, dint, zVar, zPkT, putR, ownAt, R.sl, R.d, finD, truD, zCall, locT, cstC, argsS, argS, ioIx, afterCall, putBack, zAnd, zOr, zNot, zChn, zSlc, slcD, cutD, Tg.put, setAll, seqD, isTy_tt, fmtOk, fitL, zRng1, zRng2, smallI, zChn3, zLrg1, zLrg2, zEnm, zZip, opd_chn3, opd_lrg1, opd_lrg2, c__law_is_row, T12, F12'], rfl⟩⟩) hl
  rw [ft] at h
  exact h
theorem oL13 {f : En → Ou R} {n : En} : opd l__law_is_row_0 f n = (f n).bd fun r n1 => .ok (.dd r.d) n1 := rfl
theorem F13 (k : Nat) {x : PyData} (hb : ∀ xs, x = .tuple xs → xs.length ≤ sizeLine) : Fd (k + 1) 13 [.fz x] = .ret (.fr (.bool (rowB x))) [.none] := by
  cases x <;> try rfl
  rename_i xs
  have h := L13 k (hb xs rfl)
  show evDef _ _ _ _ _ = _
  simp only [c__law_is_row] at h ⊢
  simp [evDef, sv, ev, Fl.of, Ev.val, Ev.no, Ev.itr, opd_pk, opd_io, opd_var, opd_cst, opd_glb, opd_op, opd_chn, opd_slc, opd_and, opd_or, opd_not, opd_ife, opd_call, opd_lc, Ou.bd, zOp, opdl, retains, rsl, Z.rs, frl, opD, binD, cmpD, Ou.of, slD, atI, ixN, eqv_int, shaped_int, dbl, dint, zVar, zPkT, putR, ownAt, R.sl, R.d, finD, truD, zCall, locT, cstC, argsS, argS, ioIx, afterCall, putBack, zAnd, zOr, zNot, zChn, zSlc, slcD, cutD, Tg.put, setAll, seqD, isTy_tt, fmtOk, fitL, zRng1, zRng2, smallI, zChn3, zLrg1, zLrg2, zEnm, zZip, opd_chn3, opd_lrg1, opd_lrg2, oL13, h, boolsD_map, rowB, all_id]
/-! ### are_between -/
def btw (a b : Int) : PyData → Bool
  | .int i => decide (a ≤ i) && decide (i ≤ b)
  | _ => false
theorem isI_int {x : PyData} (h : isI x = true) : ∃ i, x = .int i := by
  cases x <;> first | exact ⟨_, rfl⟩ | (cases h; done)
theorem oL3 {f : En → Ou R} {n : En} : opd l_are_between_0 f n = (f n).bd fun r n1 => .ok (.dd r.d) n1 := rfl
theorem F3 (k : Nat) {xs : List PyData} {a b : Int} (hl : xs.length ≤ sizeLine) (hx : ∀ x ∈ xs, isI x = true) : Fd k 3 [.fz (.tuple xs), .fz (.int a), .fz (.int b)] = .ret (.fr (.bool (xs.all (btw a b)))) [.none, .none, .none] := by
  have h := zLc_look (tg := .nm 3) (own := [3]) (fi := (ev (locT c_are_between.calls (tbl cs k)) (cstC c_are_between.gcs) (.var 0)).i) (fc := (ev (locT c_are_between.calls (tbl cs k)) (cstC c_are_between.gcs) .yes).t)
    (fe := (ev (locT c_are_between.calls (tbl cs k)) (cstC c_are_between.gcs) (.chn .le .le (.pk 1) (.pk 3) (.pk 2))).e) (n := [.fz (.tuple xs), .fz (.int a), .fz (.int b), .un]) (n1 := [.fz (.tuple xs), .fz (.int a), .fz (.int b), .un]) (n0 := [.fz (.tuple xs), .fz (.int a), .fz (.int b), .un]) (xs := xs) (p := fun _ => true) (f := fun x => .bool (btw a b x))
    rfl rfl rfl rfl (fun x hxm => by
      obtain ⟨i, rfl⟩ := isI_int (hx x hxm)
      refine ⟨[.fz (.tuple xs), .fz (.int a), .fz (.int b), .fz (.int i)], rfl, rfl, rfl, fun _ => ⟨.fr (.bool (btw a b (.int i))), ?_, rfl⟩⟩
      by_cases h1 : a ≤ i
      · simp [evDef, sv, ev, Fl.of, Ev.val, Ev.no, Ev.itr, opd_pk, opd_io, opd_var, opd_cst, opd_glb, opd_op, opd_chn, opd_slc, opd_and, opd_or, opd_not, opd_ife, opd_call, opd_lc, Ou.bd, zOp, opdl, retains, rsl, Z.rs, frl, opD, binD, cmpD, Ou.of, slD, atI, ixN, eqv_int, shaped_int, dbl, dint, zVar, zPkT, putR, ownAt, R.sl, R.d, finD, truD, zCall, locT, cstC, argsS, argS, ioIx, afterCall, putBack, zAnd, zOr, zNot, zChn, zSlc, slcD, cutD, Tg.put, setAll, seqD, isTy_tt, fmtOk, fitL, zRng1, zRng2, smallI, zChn3, zLrg1, zLrg2, zEnm, zZip, opd_chn3, opd_lrg1, opd_lrg2, h1, btw]
      · simp [evDef, sv, ev, Fl.of, Ev.val, Ev.no, Ev.itr, opd_pk, opd_io, opd_var, opd_cst, opd_glb, opd_op, opd_chn, opd_slc, opd_and, opd_or, opd_not, opd_ife, opd_call, opd_lc, Ou.bd, zOp, opdl, retains, rsl, Z.rs, frl, opD, binD, cmpD, Ou.of, slD, atI, ixN, eqv_int, shaped_int, dbl, dint, zVar, zPkT, putR, ownAt, R.sl, R.d, finD, truD, zCall, locT, cstC, argsS, argS, ioIx, afterCall, putBack, zAnd, zOr, zNot, zChn, zSlc, slcD, cutD, Tg.put, setAll, seqD, isTy_tt, fmtOk, fitL, zRng1, zRng2, smallI, zChn3, zLrg1, zLrg2, zEnm, zZip, opd_chn3, opd_lrg1, opd_lrg2, h1, btw]) hl
  rw [ft] at h
  have h : (ev (locT c_are_between.calls (tbl cs k)) (cstC c_are_between.gcs) l_are_between_0).e [.fz (.tuple xs), .fz (.int a), .fz (.int b), .un] = .ok (.nw (.list (xs.map fun x => .bool (btw a b x)))) [.fz (.tuple xs), .fz (.int a), .fz (.int b), .un] := h
  show evDef _ _ _ _ _ = _
  simp only [c_are_between] at h ⊢
  simp [evDef, sv, ev, Fl.of, Ev.val, Ev.no, Ev.itr, opd_pk, opd_io, opd_var, opd_cst, opd_glb, opd_op, opd_chn, opd_slc, opd_and, opd_or, opd_not, opd_ife, opd_call, opd_lc, Ou.bd, zOp, opdl, retains, rsl, Z.rs, frl, opD, binD, cmpD, Ou.of, slD, atI, ixN, eqv_int, shaped_int, dbl, dint, zVar, zPkT, putR, ownAt, R.sl, R.d, finD, truD, zCall, locT, cstC, argsS, argS, ioIx, afterCall, putBack, zAnd, zOr, zNot, zChn, zSlc, slcD, cutD, Tg.put, setAll, seqD, isTy_tt, fmtOk, fitL, zRng1, zRng2, smallI, zChn3, zLrg1, zLrg2, zEnm, zZip, opd_chn3, opd_lrg1, opd_lrg2, oL3, h, boolsD_map, all_id]
/-! ### has_form -/
def rateB : PyData → Bool
  | .tuple [q, s] => isI q && rowB s
  | _ => false
def formB : PyData → Bool
  | .tuple [s, l, .tuple rs] => rowB s && (isI l && rs.all rateB)
  | _ => false
theorem bd_of {b h : Nat} (hb : b ≤ sizeLine) {x : PyData} (q : okV b h x) : ∀ xs, x = .tuple xs → xs.length ≤ sizeLine := fun xs e => by
  subst e; exact Nat.le_trans (okV_len q) hb
theorem F2body (k b h : Nat) (hb : b ≤ sizeLine) {x : PyData} (q : okV b h x) (v s l r : Sl) : sv (locT c_has_form.calls (tbl cs (k + 2))) (cstC c_has_form.gcs) b_has_form_0 [v, .fz x, s, l, r] = if rateB x then .nx [v, .fz x, s, l, r] else .rt (dbl false) [v, .fz x, s, l, r] := by
  cases x <;> try rfl
  rename_i xs
  rcases xs with _ | ⟨x1, _ | ⟨x2, _ | ⟨x3, xs⟩⟩⟩
  · rfl
  · rfl
  · have e1 := F1 k (bd_of hb (okV_mem q (x := x2) (by simp)))
    have e0 := F0' (k + 1) x1
    cases h1 : isI x1 <;> cases h2 : rowB x2 <;> rw [h1] at e0 <;> rw [h2] at e1 <;> simp [evDef, sv, ev, Fl.of, Ev.val, Ev.no, Ev.itr, opd_pk, opd_io, opd_var, opd_cst, opd_glb, opd_op, opd_chn, opd_slc, opd_and, opd_or, opd_not, opd_ife, opd_call, opd_lc, Ou.bd, zOp, opdl, retains, rsl, Z.rs, frl, opD, binD, cmpD, Ou.of, slD, atI, ixN, eqv_int, shaped_int, dbl, dint, zVar, zPkT, putR, ownAt, R.sl, R.d, finD, truD, zCall, locT, cstC, argsS, argS, ioIx, afterCall, putBack, zAnd, zOr, zNot, zChn, zSlc, slcD, cutD, Tg.put, setAll, seqD, isTy_tt, fmtOk, fitL, zRng1, zRng2, smallI, zChn3, zLrg1, zLrg2, zEnm, zZip, opd_chn3, opd_lrg1, opd_lrg2, b_has_form_0, c_has_form, T0, T1, e0, e1, rateB, h1, h2]
  · have hn : ¬ ((xs.length : Int) + 1 + 1 + 1 = 2) := by omega
    simp [evDef, sv, ev, Fl.of, Ev.val, Ev.no, Ev.itr, opd_pk, opd_io, opd_var, opd_cst, opd_glb, opd_op, opd_chn, opd_slc, opd_and, opd_or, opd_not, opd_ife, opd_call, opd_lc, Ou.bd, zOp, opdl, retains, rsl, Z.rs, frl, opD, binD, cmpD, Ou.of, slD, atI, ixN, eqv_int, shaped_int, dbl, dint, zVar, zPkT, putR, ownAt, R.sl, R.d, finD, truD, zCall, locT, cstC, argsS, argS, ioIx, afterCall, putBack, zAnd, zOr, zNot, zChn, zSlc, slcD, cutD, Tg.put, setAll, seqD, isTy_tt, fmtOk, fitL, zRng1, zRng2, smallI, zChn3, zLrg1, zLrg2, zEnm, zZip, opd_chn3, opd_lrg1, opd_lrg2, b_has_form_0, c_has_form, rateB, hn]
theorem F2loop (k b h : Nat) (hb : b ≤ sizeLine) (v s l r : Sl) : ∀ (rs : List PyData) (t : Sl), (∀ x ∈ rs, okV b h x) → (t = .un ∨ ∃ y, t = .fz y) → ∃ n', forGo (.nm 1) (sv (locT c_has_form.calls (tbl cs (k + 2))) (cstC c_has_form.gcs) b_has_form_0) rs [v, t, s, l, r] = if rs.all rateB then .nx n' else .rt (dbl false) n'
  | [], t, _, _ => ⟨_, rfl⟩
  | x :: rs, t, hx, ht => by
    have hp : (Tg.nm 1).put x [v, t, s, l, r] = some [v, .fz x, s, l, r] := by rcases ht with rfl | ⟨y, rfl⟩ <;> rfl
    rw [forGo_cons, hp]
    dsimp only
    rw [F2body k b h hb (hx x List.mem_cons_self) v s l r]
    cases hr : rateB x with
    | true =>
      rw [if_pos rfl]
      obtain ⟨n', e⟩ := F2loop k b h hb v s l r rs (.fz x) (fun y hy => hx y (List.mem_cons_of_mem _ hy)) (.inr ⟨x, rfl⟩)
      exact ⟨n', by dsimp only; rw [e]; simp [hr]⟩
    | false =>
      rw [if_neg Bool.false_ne_true]
      exact ⟨_, by simp [hr]; rfl⟩
end Z

set_option Elab.async false
set_option linter.all false
set_option maxRecDepth 100000
set_option maxHeartbeats 0
namespace Z
open PySem PySem.Spec PyProof.Rows L2
theorem finD1 (v : PyData) (n : En) : finD [.fz v] n = [.none] := by cases n <;> rfl
theorem form_tt {x1 x2 : PyData} {rs : List PyData} : formB (.tuple [x1, x2, .tuple rs]) = (rowB x1 && (isI x2 && rs.all rateB)) := rfl
theorem F2 (k b h : Nat) (hb : b ≤ sizeLine) {v : PyData} (q : okV b h v) : Fd (k + 2) 2 [.fz v] = .ret (.fr (.bool (formB v))) [.none] := by
  cases v <;> try rfl
  rename_i xs
  rcases xs with _ | ⟨x1, _ | ⟨x2, _ | ⟨x3, _ | ⟨x4, xs⟩⟩⟩⟩
  · rfl
  · rfl
  · rfl
  · have e1 := F1 k (bd_of hb (okV_mem q (x := x1) (by simp)))
    have e0 := F0' (k + 1) x2
    by_cases ht : ∃ rs, x3 = .tuple rs
    · obtain ⟨rs, rfl⟩ := ht
      have q3 := okV_mem q (x := .tuple rs) (by simp)
      obtain ⟨n', e⟩ := F2loop k b h hb (.fz (.tuple [x1, x2, .tuple rs])) (.fz x1) (.fz x2) (.fz (.tuple rs)) rs .un (fun x hx => okV_mem q3 hx) (.inl rfl)
      rw [U2]
      simp only [c_has_form] at e ⊢
      rw [form_tt]
      cases h1 : rowB x1
      · rw [h1] at e1
        simp [evDef, sv, ev, Fl.of, Ev.val, Ev.no, Ev.itr, opd_pk, opd_io, opd_var, opd_cst, opd_glb, opd_op, opd_chn, opd_slc, opd_and, opd_or, opd_not, opd_ife, opd_call, opd_lc, Ou.bd, zOp, opdl, retains, rsl, Z.rs, frl, opD, binD, cmpD, Ou.of, slD, atI, ixN, eqv_int, shaped_int, dbl, dint, zVar, zPkT, putR, ownAt, R.sl, R.d, finD, truD, zCall, locT, cstC, argsS, argS, ioIx, afterCall, putBack, zAnd, zOr, zNot, zChn, zSlc, slcD, cutD, Tg.put, setAll, seqD, isTy_tt, fmtOk, fitL, zRng1, zRng2, smallI, zChn3, zLrg1, zLrg2, zEnm, zZip, opd_chn3, opd_lrg1, opd_lrg2, T0, T1, e0, e1, finD1]
      · rw [h1] at e1
        cases h2 : isI x2
        · rw [h2] at e0
          simp [evDef, sv, ev, Fl.of, Ev.val, Ev.no, Ev.itr, opd_pk, opd_io, opd_var, opd_cst, opd_glb, opd_op, opd_chn, opd_slc, opd_and, opd_or, opd_not, opd_ife, opd_call, opd_lc, Ou.bd, zOp, opdl, retains, rsl, Z.rs, frl, opD, binD, cmpD, Ou.of, slD, atI, ixN, eqv_int, shaped_int, dbl, dint, zVar, zPkT, putR, ownAt, R.sl, R.d, finD, truD, zCall, locT, cstC, argsS, argS, ioIx, afterCall, putBack, zAnd, zOr, zNot, zChn, zSlc, slcD, cutD, Tg.put, setAll, seqD, isTy_tt, fmtOk, fitL, zRng1, zRng2, smallI, zChn3, zLrg1, zLrg2, zEnm, zZip, opd_chn3, opd_lrg1, opd_lrg2, T0, T1, e0, e1, finD1]
        · rw [h2] at e0
          cases h3 : rs.all rateB <;> rw [h3] at e <;> simp [evDef, sv, ev, Fl.of, Ev.val, Ev.no, Ev.itr, opd_pk, opd_io, opd_var, opd_cst, opd_glb, opd_op, opd_chn, opd_slc, opd_and, opd_or, opd_not, opd_ife, opd_call, opd_lc, Ou.bd, zOp, opdl, retains, rsl, Z.rs, frl, opD, binD, cmpD, Ou.of, slD, atI, ixN, eqv_int, shaped_int, dbl, dint, zVar, zPkT, putR, ownAt, R.sl, R.d, finD, truD, zCall, locT, cstC, argsS, argS, ioIx, afterCall, putBack, zAnd, zOr, zNot, zChn, zSlc, slcD, cutD, Tg.put, setAll, seqD, isTy_tt, fmtOk, fitL, zRng1, zRng2, smallI, zChn3, zLrg1, zLrg2, zEnm, zZip, opd_chn3, opd_lrg1, opd_lrg2, T0, T1, e0, e1, e, finD1]
    · have hf : formB (.tuple [x1, x2, x3]) = false := by
        cases x3 <;> first | rfl | exact absurd ⟨_, rfl⟩ ht
      have hty : isTy .tuple x3 = false := by
        cases x3 <;> first | rfl | exact absurd ⟨_, rfl⟩ ht
      rw [hf, U2]
      simp only [c_has_form]
      cases h1 : rowB x1
      · rw [h1] at e1
        simp [evDef, sv, ev, Fl.of, Ev.val, Ev.no, Ev.itr, opd_pk, opd_io, opd_var, opd_cst, opd_glb, opd_op, opd_chn, opd_slc, opd_and, opd_or, opd_not, opd_ife, opd_call, opd_lc, Ou.bd, zOp, opdl, retains, rsl, Z.rs, frl, opD, binD, cmpD, Ou.of, slD, atI, ixN, eqv_int, shaped_int, dbl, dint, zVar, zPkT, putR, ownAt, R.sl, R.d, finD, truD, zCall, locT, cstC, argsS, argS, ioIx, afterCall, putBack, zAnd, zOr, zNot, zChn, zSlc, slcD, cutD, Tg.put, setAll, seqD, isTy_tt, fmtOk, fitL, zRng1, zRng2, smallI, zChn3, zLrg1, zLrg2, zEnm, zZip, opd_chn3, opd_lrg1, opd_lrg2, T0, T1, e0, e1, hty, finD1]
      · rw [h1] at e1
        cases h2 : isI x2 <;> rw [h2] at e0 <;> simp [evDef, sv, ev, Fl.of, Ev.val, Ev.no, Ev.itr, opd_pk, opd_io, opd_var, opd_cst, opd_glb, opd_op, opd_chn, opd_slc, opd_and, opd_or, opd_not, opd_ife, opd_call, opd_lc, Ou.bd, zOp, opdl, retains, rsl, Z.rs, frl, opD, binD, cmpD, Ou.of, slD, atI, ixN, eqv_int, shaped_int, dbl, dint, zVar, zPkT, putR, ownAt, R.sl, R.d, finD, truD, zCall, locT, cstC, argsS, argS, ioIx, afterCall, putBack, zAnd, zOr, zNot, zChn, zSlc, slcD, cutD, Tg.put, setAll, seqD, isTy_tt, fmtOk, fitL, zRng1, zRng2, smallI, zChn3, zLrg1, zLrg2, zEnm, zZip, opd_chn3, opd_lrg1, opd_lrg2, T0, T1, e0, e1, hty, finD1]
  · have hn : ¬ ((xs.length : Int) + 1 + 1 + 1 + 1 = 3) := by omega
    have hf : formB (.tuple (x1 :: x2 :: x3 :: x4 :: xs)) = false := by cases x3 <;> rfl
    rw [hf, U2]
    simp [evDef, sv, ev, Fl.of, Ev.val, Ev.no, Ev.itr, opd_pk, opd_io, opd_var, opd_cst, opd_glb, opd_op, opd_chn, opd_slc, opd_and, opd_or, opd_not, opd_ife, opd_call, opd_lc, Ou.bd, zOp, opdl, retains, rsl, Z.rs, frl, opD, binD, cmpD, Ou.of, slD, atI, ixN, eqv_int, shaped_int, dbl, dint, zVar, zPkT, putR, ownAt, R.sl, R.d, finD, truD, zCall, locT, cstC, argsS, argS, ioIx, afterCall, putBack, zAnd, zOr, zNot, zChn, zSlc, slcD, cutD, Tg.put, setAll, seqD, isTy_tt, fmtOk, fitL, zRng1, zRng2, smallI, zChn3, zLrg1, zLrg2, zEnm, zZip, opd_chn3, opd_lrg1, opd_lrg2, c_has_form, hn]
end Z

set_option Elab.async false
set_option linter.all false
set_option maxRecDepth 100000
set_option maxHeartbeats 0
namespace Z
open PySem PySem.Spec PyProof.Rows L2
def rateOk (n : Nat) : PyData → Bool
  | .tuple [.int q, .tuple sz] => (decide (0 ≤ q) && decide (q ≤ 99)) && (decide ((sz.length : Int) = n) && sz.all (btw 1 60))
  | _ => false
def dueT (ss : List PyData) (l : Int) (rs : List PyData) : Option Str :=
  if (decide (1 ≤ (ss.length : Int)) && decide ((ss.length : Int) ≤ 40)) && ss.all (btw 1 8) then
    if decide (-1 ≤ l) && decide (l < (ss.length : Int)) then
      if decide (1 ≤ (rs.length : Int)) && decide ((rs.length : Int) ≤ 6) then
        if rs.all (rateOk ss.length) then none else some "rates"
      else some "rates"
    else some "loop"
  else some "spans"
def dueS (v : PyData) : Option Str := if formB v then (match v with
    | .tuple [.tuple ss, .int l, .tuple rs] => dueT ss l rs
    | _ => none) else some "form"
theorem row_inv {x : PyData} (h : rowB x = true) : ∃ xs, x = .tuple xs ∧ ∀ y ∈ xs, isI y = true := by
  cases x <;> try (cases h; done)
  exact ⟨_, rfl, fun y hy => List.all_eq_true.mp h y hy⟩
theorem rate_inv {x : PyData} (h : rateB x = true) : ∃ q sz, x = .tuple [.int q, .tuple sz] ∧ ∀ y ∈ sz, isI y = true := by
  cases x <;> try (cases h; done)
  rename_i xs
  rcases xs with _ | ⟨x1, _ | ⟨x2, _ | ⟨x3, xs⟩⟩⟩ <;> try (cases h; done)
  obtain ⟨h1, h2⟩ := ba (show (isI x1 && rowB x2) = true from h)
  obtain ⟨q, rfl⟩ := isI_int h1
  obtain ⟨sz, rfl, h3⟩ := row_inv h2
  exact ⟨q, sz, rfl, h3⟩
theorem form_inv {v : PyData} (h : formB v = true) : ∃ ss l rs, v = .tuple [.tuple ss, .int l, .tuple rs] ∧ (∀ y ∈ ss, isI y = true) ∧ ∀ r ∈ rs, rateB r = true := by
  cases v <;> try (cases h; done)
  rename_i xs
  rcases xs with _ | ⟨x1, _ | ⟨x2, _ | ⟨x3, _ | ⟨x4, xs⟩⟩⟩⟩ <;> try (cases h; done)
  · cases x3 <;> try (cases h; done)
    rename_i rs
    obtain ⟨h1, h⟩ := ba (show (rowB x1 && (isI x2 && rs.all rateB)) = true from h)
    obtain ⟨h2, h3⟩ := ba h
    obtain ⟨ss, rfl, h4⟩ := row_inv h1
    obtain ⟨l, rfl⟩ := isI_int h2
    exact ⟨ss, l, rs, rfl, h4, fun r hr => List.all_eq_true.mp h3 r hr⟩
  · cases x3 <;> cases h
theorem len_form : (Str.ofString "form").length ≤ 1000 := by decide +kernel
theorem len_spans : (Str.ofString "spans").length ≤ 1000 := by decide +kernel
theorem len_loop : (Str.ofString "loop").length ≤ 1000 := by decide +kernel
theorem len_rates : (Str.ofString "rates").length ≤ 1000 := by decide +kernel
theorem F4body (k b h : Nat) (hb : b ≤ sizeLine) {q : Int} {sz ss : List PyData} (qs : okV b h (.tuple sz)) (hi : ∀ y ∈ sz, isI y = true) (v l r : Sl) :
    sv (locT c_check_title.calls (tbl cs (k + 1))) (cstC c_check_title.gcs) b_check_title_0 [v, .fz (.tuple ss), l, r, .fz (.int q), .fz (.tuple sz)] = if rateOk ss.length (.tuple [.int q, .tuple sz]) then .nx [v, .fz (.tuple ss), l, r, .fz (.int q), .fz (.tuple sz)] else .ex 1 (.str "rates") [v, .fz (.tuple ss), l, r, .fz (.int q), .fz (.tuple sz)] := by
  have e3 := F3 k (a := 1) (b := 60) (Nat.le_trans (okV_len qs) hb) hi
  show _ = if (decide (0 ≤ q) && decide (q ≤ 99)) && (decide ((sz.length : Int) = ss.length) && sz.all (btw 1 60)) then _ else _
  simp only [c_check_title, b_check_title_0]
  by_cases h1 : 0 ≤ q
  · by_cases h2 : q ≤ 99
    · by_cases h3 : (sz.length : Int) = ss.length
      · cases h4 : sz.all (btw 1 60) <;> rw [h4] at e3 <;> simp [evDef, sv, ev, Fl.of, Ev.val, Ev.no, Ev.itr, opd_pk, opd_io, opd_var, opd_cst, opd_glb, opd_op, opd_chn, opd_slc, opd_and, opd_or, opd_not, opd_ife, opd_call, opd_lc, Ou.bd, zOp, opdl, retains, rsl, Z.rs, frl, opD, binD, cmpD, Ou.of, slD, atI, ixN, eqv_int, shaped_int, dbl, dint, zVar, zPkT, putR, ownAt, R.sl, R.d, finD, truD, zCall, locT, cstC, argsS, argS, ioIx, afterCall, putBack, zAnd, zOr, zNot, zChn, zSlc, slcD, cutD, Tg.put, setAll, seqD, isTy_tt, fmtOk, fitL, zRng1, zRng2, smallI, zChn3, zLrg1, zLrg2, zEnm, zZip, opd_chn3, opd_lrg1, opd_lrg2, T3, e3, h1, h2, h3, len_rates]
      · simp [evDef, sv, ev, Fl.of, Ev.val, Ev.no, Ev.itr, opd_pk, opd_io, opd_var, opd_cst, opd_glb, opd_op, opd_chn, opd_slc, opd_and, opd_or, opd_not, opd_ife, opd_call, opd_lc, Ou.bd, zOp, opdl, retains, rsl, Z.rs, frl, opD, binD, cmpD, Ou.of, slD, atI, ixN, eqv_int, shaped_int, dbl, dint, zVar, zPkT, putR, ownAt, R.sl, R.d, finD, truD, zCall, locT, cstC, argsS, argS, ioIx, afterCall, putBack, zAnd, zOr, zNot, zChn, zSlc, slcD, cutD, Tg.put, setAll, seqD, isTy_tt, fmtOk, fitL, zRng1, zRng2, smallI, zChn3, zLrg1, zLrg2, zEnm, zZip, opd_chn3, opd_lrg1, opd_lrg2, h1, h2, h3, len_rates]
    · simp [evDef, sv, ev, Fl.of, Ev.val, Ev.no, Ev.itr, opd_pk, opd_io, opd_var, opd_cst, opd_glb, opd_op, opd_chn, opd_slc, opd_and, opd_or, opd_not, opd_ife, opd_call, opd_lc, Ou.bd, zOp, opdl, retains, rsl, Z.rs, frl, opD, binD, cmpD, Ou.of, slD, atI, ixN, eqv_int, shaped_int, dbl, dint, zVar, zPkT, putR, ownAt, R.sl, R.d, finD, truD, zCall, locT, cstC, argsS, argS, ioIx, afterCall, putBack, zAnd, zOr, zNot, zChn, zSlc, slcD, cutD, Tg.put, setAll, seqD, isTy_tt, fmtOk, fitL, zRng1, zRng2, smallI, zChn3, zLrg1, zLrg2, zEnm, zZip, opd_chn3, opd_lrg1, opd_lrg2, h1, h2, len_rates]
  · simp [evDef, sv, ev, Fl.of, Ev.val, Ev.no, Ev.itr, opd_pk, opd_io, opd_var, opd_cst, opd_glb, opd_op, opd_chn, opd_slc, opd_and, opd_or, opd_not, opd_ife, opd_call, opd_lc, Ou.bd, zOp, opdl, retains, rsl, Z.rs, frl, opD, binD, cmpD, Ou.of, slD, atI, ixN, eqv_int, shaped_int, dbl, dint, zVar, zPkT, putR, ownAt, R.sl, R.d, finD, truD, zCall, locT, cstC, argsS, argS, ioIx, afterCall, putBack, zAnd, zOr, zNot, zChn, zSlc, slcD, cutD, Tg.put, setAll, seqD, isTy_tt, fmtOk, fitL, zRng1, zRng2, smallI, zChn3, zLrg1, zLrg2, zEnm, zZip, opd_chn3, opd_lrg1, opd_lrg2, h1, len_rates]
theorem F4loop (k b h : Nat) (hb : b ≤ sizeLine) {ss : List PyData} (v l r : Sl) : ∀ (rs : List PyData) (t4 t5 : Sl), (∀ x ∈ rs, okV b h x) → (∀ x ∈ rs, rateB x = true) → (t4 = .un ∨ ∃ y, t4 = .fz y) → (t5 = .un ∨ ∃ y, t5 = .fz y) →
    ∃ n', forGo (.tp [4, 5]) (sv (locT c_check_title.calls (tbl cs (k + 1))) (cstC c_check_title.gcs) b_check_title_0) rs [v, .fz (.tuple ss), l, r, t4, t5] = if rs.all (rateOk ss.length) then .nx n' else .ex 1 (.str "rates") n'
  | [], t4, t5, _, _, _, _ => ⟨_, rfl⟩
  | x :: rs, t4, t5, hx, hr, h4, h5 => by
    obtain ⟨q, sz, rfl, hi⟩ := rate_inv (hr x List.mem_cons_self)
    have hp : (Tg.tp [4, 5]).put (.tuple [.int q, .tuple sz]) [v, .fz (.tuple ss), l, r, t4, t5] = some [v, .fz (.tuple ss), l, r, .fz (.int q), .fz (.tuple sz)] := by rcases h4 with rfl | ⟨y, rfl⟩ <;> rcases h5 with rfl | ⟨z, rfl⟩ <;> rfl
    rw [forGo_cons, hp]
    dsimp only
    rw [F4body k b h hb (okV_mem (hx _ List.mem_cons_self) (by simp)) hi v l r]
    cases hk : rateOk ss.length (.tuple [.int q, .tuple sz]) with
    | true =>
      rw [if_pos rfl]
      obtain ⟨n', e⟩ := F4loop k b h hb v l r rs _ _ (fun y hy => hx y (List.mem_cons_of_mem _ hy)) (fun y hy => hr y (List.mem_cons_of_mem _ hy)) (.inr ⟨_, rfl⟩) (.inr ⟨_, rfl⟩)
      exact ⟨n', by dsimp only; rw [e]; simp [hk]⟩
    | false =>
      rw [if_neg Bool.false_ne_true]
      exact ⟨_, by simp [hk]; rfl⟩
/-- what check_title does -/
def outC (v : PyData) : Rt := match dueS v with
  | none => .ret (.fr .none) [.none]
  | some s => .ex 1 (.str s) [.none]
theorem F4 (k b h : Nat) (hb : b ≤ sizeLine) {v : PyData} (q : okV b h v) : Fd (k + 3) 4 [.fz v] = outC v := by
  have e2 := F2 k b h hb q
  unfold outC dueS
  cases hf : formB v with
  | false =>
    rw [hf] at e2
    rw [if_neg Bool.false_ne_true, U4]
    simp only [c_check_title]
    simp [evDef, sv, ev, Fl.of, Ev.val, Ev.no, Ev.itr, opd_pk, opd_io, opd_var, opd_cst, opd_glb, opd_op, opd_chn, opd_slc, opd_and, opd_or, opd_not, opd_ife, opd_call, opd_lc, Ou.bd, zOp, opdl, retains, rsl, Z.rs, frl, opD, binD, cmpD, Ou.of, slD, atI, ixN, eqv_int, shaped_int, dbl, dint, zVar, zPkT, putR, ownAt, R.sl, R.d, finD, truD, zCall, locT, cstC, argsS, argS, ioIx, afterCall, putBack, zAnd, zOr, zNot, zChn, zSlc, slcD, cutD, Tg.put, setAll, seqD, isTy_tt, fmtOk, fitL, zRng1, zRng2, smallI, zChn3, zLrg1, zLrg2, zEnm, zZip, opd_chn3, opd_lrg1, opd_lrg2, T2, e2, len_form, finD1]
  | true =>
    rw [hf] at e2
    rw [if_pos rfl]
    obtain ⟨ss, l, rs, rfl, h1, h2⟩ := form_inv hf
    have qss := okV_mem q (x := .tuple ss) (by simp)
    have qrs := okV_mem q (x := .tuple rs) (by simp)
    have e3 := F3 (k + 2) (a := 1) (b := 8) (Nat.le_trans (okV_len qss) hb) h1
    obtain ⟨n', e⟩ := F4loop (k + 2) b h hb (ss := ss) (.fz (.tuple [.tuple ss, .int l, .tuple rs])) (.fz (.int l)) (.fz (.tuple rs)) rs .un .un (fun x hx => okV_mem qrs hx) h2 (.inl rfl) (.inl rfl)
    rw [U4]
    dsimp only
    unfold dueT
    simp only [c_check_title] at e ⊢
    by_cases g1 : 1 ≤ (ss.length : Int)
    · by_cases g2 : (ss.length : Int) ≤ 40
      · cases g3 : ss.all (btw 1 8) <;> rw [g3] at e3
        · simp [evDef, sv, ev, Fl.of, Ev.val, Ev.no, Ev.itr, opd_pk, opd_io, opd_var, opd_cst, opd_glb, opd_op, opd_chn, opd_slc, opd_and, opd_or, opd_not, opd_ife, opd_call, opd_lc, Ou.bd, zOp, opdl, retains, rsl, Z.rs, frl, opD, binD, cmpD, Ou.of, slD, atI, ixN, eqv_int, shaped_int, dbl, dint, zVar, zPkT, putR, ownAt, R.sl, R.d, finD, truD, zCall, locT, cstC, argsS, argS, ioIx, afterCall, putBack, zAnd, zOr, zNot, zChn, zSlc, slcD, cutD, Tg.put, setAll, seqD, isTy_tt, fmtOk, fitL, zRng1, zRng2, smallI, zChn3, zLrg1, zLrg2, zEnm, zZip, opd_chn3, opd_lrg1, opd_lrg2, T2, T3, e2, e3, g1, g2, len_spans, finD1]
        · by_cases g4 : -1 ≤ l
          · by_cases g5 : l < (ss.length : Int)
            · by_cases g6 : 1 ≤ (rs.length : Int)
              · by_cases g7 : (rs.length : Int) ≤ 6
                · cases g8 : rs.all (rateOk ss.length) <;> rw [g8] at e <;> simp [evDef, sv, ev, Fl.of, Ev.val, Ev.no, Ev.itr, opd_pk, opd_io, opd_var, opd_cst, opd_glb, opd_op, opd_chn, opd_slc, opd_and, opd_or, opd_not, opd_ife, opd_call, opd_lc, Ou.bd, zOp, opdl, retains, rsl, Z.rs, frl, opD, binD, cmpD, Ou.of, slD, atI, ixN, eqv_int, shaped_int, dbl, dint, zVar, zPkT, putR, ownAt, R.sl, R.d, finD, truD, zCall, locT, cstC, argsS, argS, ioIx, afterCall, putBack, zAnd, zOr, zNot, zChn, zSlc, slcD, cutD, Tg.put, setAll, seqD, isTy_tt, fmtOk, fitL, zRng1, zRng2, smallI, zChn3, zLrg1, zLrg2, zEnm, zZip, opd_chn3, opd_lrg1, opd_lrg2, T2, T3, e2, e3, g1, g2, g4, g5, g6, g7, e, finD1]
                · simp [evDef, sv, ev, Fl.of, Ev.val, Ev.no, Ev.itr, opd_pk, opd_io, opd_var, opd_cst, opd_glb, opd_op, opd_chn, opd_slc, opd_and, opd_or, opd_not, opd_ife, opd_call, opd_lc, Ou.bd, zOp, opdl, retains, rsl, Z.rs, frl, opD, binD, cmpD, Ou.of, slD, atI, ixN, eqv_int, shaped_int, dbl, dint, zVar, zPkT, putR, ownAt, R.sl, R.d, finD, truD, zCall, locT, cstC, argsS, argS, ioIx, afterCall, putBack, zAnd, zOr, zNot, zChn, zSlc, slcD, cutD, Tg.put, setAll, seqD, isTy_tt, fmtOk, fitL, zRng1, zRng2, smallI, zChn3, zLrg1, zLrg2, zEnm, zZip, opd_chn3, opd_lrg1, opd_lrg2, T2, T3, e2, e3, g1, g2, g4, g5, g6, g7, len_rates, finD1]
              · simp [evDef, sv, ev, Fl.of, Ev.val, Ev.no, Ev.itr, opd_pk, opd_io, opd_var, opd_cst, opd_glb, opd_op, opd_chn, opd_slc, opd_and, opd_or, opd_not, opd_ife, opd_call, opd_lc, Ou.bd, zOp, opdl, retains, rsl, Z.rs, frl, opD, binD, cmpD, Ou.of, slD, atI, ixN, eqv_int, shaped_int, dbl, dint, zVar, zPkT, putR, ownAt, R.sl, R.d, finD, truD, zCall, locT, cstC, argsS, argS, ioIx, afterCall, putBack, zAnd, zOr, zNot, zChn, zSlc, slcD, cutD, Tg.put, setAll, seqD, isTy_tt, fmtOk, fitL, zRng1, zRng2, smallI, zChn3, zLrg1, zLrg2, zEnm, zZip, opd_chn3, opd_lrg1, opd_lrg2, T2, T3, e2, e3, g1, g2, g4, g5, g6, len_rates, finD1]
            · simp [evDef, sv, ev, Fl.of, Ev.val, Ev.no, Ev.itr, opd_pk, opd_io, opd_var, opd_cst, opd_glb, opd_op, opd_chn, opd_slc, opd_and, opd_or, opd_not, opd_ife, opd_call, opd_lc, Ou.bd, zOp, opdl, retains, rsl, Z.rs, frl, opD, binD, cmpD, Ou.of, slD, atI, ixN, eqv_int, shaped_int, dbl, dint, zVar, zPkT, putR, ownAt, R.sl, R.d, finD, truD, zCall, locT, cstC, argsS, argS, ioIx, afterCall, putBack, zAnd, zOr, zNot, zChn, zSlc, slcD, cutD, Tg.put, setAll, seqD, isTy_tt, fmtOk, fitL, zRng1, zRng2, smallI, zChn3, zLrg1, zLrg2, zEnm, zZip, opd_chn3, opd_lrg1, opd_lrg2, T2, T3, e2, e3, g1, g2, g4, g5, len_loop, finD1]
          · simp [evDef, sv, ev, Fl.of, Ev.val, Ev.no, Ev.itr, opd_pk, opd_io, opd_var, opd_cst, opd_glb, opd_op, opd_chn, opd_slc, opd_and, opd_or, opd_not, opd_ife, opd_call, opd_lc, Ou.bd, zOp, opdl, retains, rsl, Z.rs, frl, opD, binD, cmpD, Ou.of, slD, atI, ixN, eqv_int, shaped_int, dbl, dint, zVar, zPkT, putR, ownAt, R.sl, R.d, finD, truD, zCall, locT, cstC, argsS, argS, ioIx, afterCall, putBack, zAnd, zOr, zNot, zChn, zSlc, slcD, cutD, Tg.put, setAll, seqD, isTy_tt, fmtOk, fitL, zRng1, zRng2, smallI, zChn3, zLrg1, zLrg2, zEnm, zZip, opd_chn3, opd_lrg1, opd_lrg2, T2, T3, e2, e3, g1, g2, g4, len_loop, finD1]
      · simp [evDef, sv, ev, Fl.of, Ev.val, Ev.no, Ev.itr, opd_pk, opd_io, opd_var, opd_cst, opd_glb, opd_op, opd_chn, opd_slc, opd_and, opd_or, opd_not, opd_ife, opd_call, opd_lc, Ou.bd, zOp, opdl, retains, rsl, Z.rs, frl, opD, binD, cmpD, Ou.of, slD, atI, ixN, eqv_int, shaped_int, dbl, dint, zVar, zPkT, putR, ownAt, R.sl, R.d, finD, truD, zCall, locT, cstC, argsS, argS, ioIx, afterCall, putBack, zAnd, zOr, zNot, zChn, zSlc, slcD, cutD, Tg.put, setAll, seqD, isTy_tt, fmtOk, fitL, zRng1, zRng2, smallI, zChn3, zLrg1, zLrg2, zEnm, zZip, opd_chn3, opd_lrg1, opd_lrg2, T2, T3, e2, g1, g2, len_spans, finD1]
    · simp [evDef, sv, ev, Fl.of, Ev.val, Ev.no, Ev.itr, opd_pk, opd_io, opd_var, opd_cst, opd_glb, opd_op, opd_chn, opd_slc, opd_and, opd_or, opd_not, opd_ife, opd_call, opd_lc, Ou.bd, zOp, opdl, retains, rsl, Z.rs, frl, opD, binD, cmpD, Ou.of, slD, atI, ixN, eqv_int, shaped_int, dbl, dint, zVar, zPkT, putR, ownAt, R.sl, R.d, finD, truD, zCall, locT, cstC, argsS, argS, ioIx, afterCall, putBack, zAnd, zOr, zNot, zChn, zSlc, slcD, cutD, Tg.put, setAll, seqD, isTy_tt, fmtOk, fitL, zRng1, zRng2, smallI, zChn3, zLrg1, zLrg2, zEnm, zZip, opd_chn3, opd_lrg1, opd_lrg2, T2, T3, e2, g1, len_spans, finD1]
end Z

set_option Elab.async false
set_option linter.all false
set_option maxRecDepth 100000
set_option maxHeartbeats 0
namespace Z
open PySem PySem.Spec PyProof.Rows L2
def dueD (v : PyData) : PyData := match dueS v with
  | none => .none
  | some s => .str s
theorem dueT_cases (ss : List PyData) (l : Int) (rs : List PyData) : dueT ss l rs = none ∨ dueT ss l rs = some "spans" ∨ dueT ss l rs = some "loop" ∨ dueT ss l rs = some "rates" := by
  unfold dueT
  repeat' split
  all_goals simp
theorem due_cases (v : PyData) : dueD v = .none ∨ dueD v = .str "form" ∨ dueD v = .str "spans" ∨ dueD v = .str "loop" ∨ dueD v = .str "rates" := by
  unfold dueD dueS
  cases hf : formB v with
  | false => rw [if_neg Bool.false_ne_true]; exact .inr (.inl rfl)
  | true =>
    rw [if_pos rfl]
    obtain ⟨ss, l, rs, rfl, _, _⟩ := form_inv hf
    dsimp only
    rcases dueT_cases ss l rs with z | z | z | z <;> rw [z] <;> simp
theorem F8 (k : Nat) {a : PyData} (ha : a = .none ∨ a = .str "form" ∨ a = .str "spans" ∨ a = .str "loop" ∨ a = .str "rates") : Fd k 8 [.fz a, .fz a] = .ret (.fr (.bool true)) [.none, .none] := by
  rcases ha with rfl | rfl | rfl | rfl | rfl <;> (rw [U8]; kernel_rfl)
end Z

set_option Elab.async false
set_option linter.all false
set_option maxRecDepth 100000
set_option maxHeartbeats 0
namespace Z
open PySem PySem.Spec PyProof.Rows L2
theorem GL (k : Nat) {s : Int} {t : Int} (a b : Int) {T : Tb} {C : Nat → Option PyData} (v r s2 s3 s4 s5 s6 s8 : Sl) (i : Int) :
    (ev T C (.or (.op (.cmp .lt) (.cons (.pk 7) (.cons (.cst (.int a)) .nil))) (.op (.cmp .gt) (.cons (.pk 7) (.cons (.cst (.int b)) .nil))))).t [v, r, s2, s3, s4, s5, s6, .fz (.int i), s8] = .ok (!btw a b (.int i)) [v, r, s2, s3, s4, s5, s6, .fz (.int i), s8] := by
  by_cases h1 : i < a
  · have h2 : ¬ a ≤ i := by omega
    simp [evDef, sv, ev, Fl.of, Ev.val, Ev.no, Ev.itr, opd_pk, opd_io, opd_var, opd_cst, opd_glb, opd_op, opd_chn, opd_slc, opd_and, opd_or, opd_not, opd_ife, opd_call, opd_lc, Ou.bd, zOp, opdl, retains, rsl, Z.rs, frl, opD, binD, cmpD, Ou.of, slD, atI, ixN, eqv_int, shaped_int, dbl, dint, zVar, zPkT, putR, ownAt, R.sl, R.d, finD, truD, zCall, locT, cstC, argsS, argS, ioIx, afterCall, putBack, zAnd, zOr, zNot, zChn, zSlc, slcD, cutD, Tg.put, setAll, seqD, isTy_tt, fmtOk, fitL, zRng1, zRng2, smallI, zChn3, zLrg1, zLrg2, zEnm, zZip, opd_chn3, opd_lrg1, opd_lrg2, btw, h1, h2]
  · have h2 : a ≤ i := by omega
    by_cases h3 : b < i
    · have h4 : ¬ i ≤ b := by omega
      simp [evDef, sv, ev, Fl.of, Ev.val, Ev.no, Ev.itr, opd_pk, opd_io, opd_var, opd_cst, opd_glb, opd_op, opd_chn, opd_slc, opd_and, opd_or, opd_not, opd_ife, opd_call, opd_lc, Ou.bd, zOp, opdl, retains, rsl, Z.rs, frl, opD, binD, cmpD, Ou.of, slD, atI, ixN, eqv_int, shaped_int, dbl, dint, zVar, zPkT, putR, ownAt, R.sl, R.d, finD, truD, zCall, locT, cstC, argsS, argS, ioIx, afterCall, putBack, zAnd, zOr, zNot, zChn, zSlc, slcD, cutD, Tg.put, setAll, seqD, isTy_tt, fmtOk, fitL, zRng1, zRng2, smallI, zChn3, zLrg1, zLrg2, zEnm, zZip, opd_chn3, opd_lrg1, opd_lrg2, btw, h1, h2, h3, h4]
    · have h4 : i ≤ b := by omega
      simp [evDef, sv, ev, Fl.of, Ev.val, Ev.no, Ev.itr, opd_pk, opd_io, opd_var, opd_cst, opd_glb, opd_op, opd_chn, opd_slc, opd_and, opd_or, opd_not, opd_ife, opd_call, opd_lc, Ou.bd, zOp, opdl, retains, rsl, Z.rs, frl, opD, binD, cmpD, Ou.of, slD, atI, ixN, eqv_int, shaped_int, dbl, dint, zVar, zPkT, putR, ownAt, R.sl, R.d, finD, truD, zCall, locT, cstC, argsS, argS, ioIx, afterCall, putBack, zAnd, zOr, zNot, zChn, zSlc, slcD, cutD, Tg.put, setAll, seqD, isTy_tt, fmtOk, fitL, zRng1, zRng2, smallI, zChn3, zLrg1, zLrg2, zEnm, zZip, opd_chn3, opd_lrg1, opd_lrg2, btw, h1, h2, h3, h4]
theorem GL8 {T : Tb} {C : Nat → Option PyData} (a b : Int) (v r s2 s3 s4 s5 s6 s7 : Sl) (i : Int) :
    (ev T C (.or (.op (.cmp .lt) (.cons (.pk 8) (.cons (.cst (.int a)) .nil))) (.op (.cmp .gt) (.cons (.pk 8) (.cons (.cst (.int b)) .nil))))).t [v, r, s2, s3, s4, s5, s6, s7, .fz (.int i)] = .ok (!btw a b (.int i)) [v, r, s2, s3, s4, s5, s6, s7, .fz (.int i)] := by
  by_cases h1 : i < a
  · have h2 : ¬ a ≤ i := by omega
    simp [evDef, sv, ev, Fl.of, Ev.val, Ev.no, Ev.itr, opd_pk, opd_io, opd_var, opd_cst, opd_glb, opd_op, opd_chn, opd_slc, opd_and, opd_or, opd_not, opd_ife, opd_call, opd_lc, Ou.bd, zOp, opdl, retains, rsl, Z.rs, frl, opD, binD, cmpD, Ou.of, slD, atI, ixN, eqv_int, shaped_int, dbl, dint, zVar, zPkT, putR, ownAt, R.sl, R.d, finD, truD, zCall, locT, cstC, argsS, argS, ioIx, afterCall, putBack, zAnd, zOr, zNot, zChn, zSlc, slcD, cutD, Tg.put, setAll, seqD, isTy_tt, fmtOk, fitL, zRng1, zRng2, smallI, zChn3, zLrg1, zLrg2, zEnm, zZip, opd_chn3, opd_lrg1, opd_lrg2, btw, h1, h2]
  · have h2 : a ≤ i := by omega
    by_cases h3 : b < i
    · have h4 : ¬ i ≤ b := by omega
      simp [evDef, sv, ev, Fl.of, Ev.val, Ev.no, Ev.itr, opd_pk, opd_io, opd_var, opd_cst, opd_glb, opd_op, opd_chn, opd_slc, opd_and, opd_or, opd_not, opd_ife, opd_call, opd_lc, Ou.bd, zOp, opdl, retains, rsl, Z.rs, frl, opD, binD, cmpD, Ou.of, slD, atI, ixN, eqv_int, shaped_int, dbl, dint, zVar, zPkT, putR, ownAt, R.sl, R.d, finD, truD, zCall, locT, cstC, argsS, argS, ioIx, afterCall, putBack, zAnd, zOr, zNot, zChn, zSlc, slcD, cutD, Tg.put, setAll, seqD, isTy_tt, fmtOk, fitL, zRng1, zRng2, smallI, zChn3, zLrg1, zLrg2, zEnm, zZip, opd_chn3, opd_lrg1, opd_lrg2, btw, h1, h2, h3, h4]
    · have h4 : i ≤ b := by omega
      simp [evDef, sv, ev, Fl.of, Ev.val, Ev.no, Ev.itr, opd_pk, opd_io, opd_var, opd_cst, opd_glb, opd_op, opd_chn, opd_slc, opd_and, opd_or, opd_not, opd_ife, opd_call, opd_lc, Ou.bd, zOp, opdl, retains, rsl, Z.rs, frl, opD, binD, cmpD, Ou.of, slD, atI, ixN, eqv_int, shaped_int, dbl, dint, zVar, zPkT, putR, ownAt, R.sl, R.d, finD, truD, zCall, locT, cstC, argsS, argS, ioIx, afterCall, putBack, zAnd, zOr, zNot, zChn, zSlc, slcD, cutD, Tg.put, setAll, seqD, isTy_tt, fmtOk, fitL, zRng1, zRng2, smallI, zChn3, zLrg1, zLrg2, zEnm, zZip, opd_chn3, opd_lrg1, opd_lrg2, btw, h1, h2, h3, h4]
theorem bad_empty (a b : Int) (xs : List PyData) : (!((xs.filter fun x => !btw a b x).map fun x => x).isEmpty) = !xs.all (btw a b) := by
  induction xs with
  | nil => rfl
  | cons x xs ih =>
    cases hx : btw a b x
    · simp [hx]
    · simp [hx] at ih ⊢
      exact ih
theorem LD1 {T : Tb} {C : Nat → Option PyData} {ss : List PyData} (hl : ss.length ≤ sizeLine) (hi : ∀ x ∈ ss, isI x = true) (v r s3 s4 : Sl) : (ev T C l__law_title_due_0).t [v, r, .fz (.tuple ss), s3, s4, .un, .un, .un, .un] = .ok (!ss.all (btw 1 8)) [v, r, .fz (.tuple ss), s3, s4, .un, .un, .un, .un] := by
  have h := zLc_look (tg := .nm 7) (own := [7]) (fi := (ev T C (.var 2)).i) (fc := (ev T C (.or (.op (.cmp .lt) (.cons (.pk 7) (.cons (.cst (.int 1)) .nil))) (.op (.cmp .gt) (.cons (.pk 7) (.cons (.cst (.int 8)) .nil))))).t)
    (fe := (ev T C (.var 7)).e) (n := [v, r, .fz (.tuple ss), s3, s4, .un, .un, .un, .un]) (n1 := [v, r, .fz (.tuple ss), s3, s4, .un, .un, .un, .un]) (n0 := [v, r, .fz (.tuple ss), s3, s4, .un, .un, .un, .un]) (xs := ss) (p := fun x => !btw 1 8 x) (f := fun x => x)
    rfl rfl rfl rfl (fun x hx => by
      obtain ⟨i, rfl⟩ := isI_int (hi x hx)
      exact ⟨[v, r, .fz (.tuple ss), s3, s4, .un, .un, .fz (.int i), .un], rfl, rfl, GL 0 (s := 0) (t := 0) 1 8 v r _ s3 s4 _ _ _ i, fun _ => ⟨_, rfl, rfl⟩⟩) hl
  rw [show (ev T C l__law_title_due_0).t = fun n => ((ev T C l__law_title_due_0).e n).bd fun r n1 => .of (truD r.d) n1 from rfl]
  dsimp only
  have h : (ev T C l__law_title_due_0).e [v, r, .fz (.tuple ss), s3, s4, .un, .un, .un, .un] = _ := h
  rw [h]
  dsimp only [Ou.bd, R.d, truD, Ou.of]
  rw [bad_empty]
theorem LD0 {T : Tb} {C : Nat → Option PyData} {sz : List PyData} (hl : sz.length ≤ sizeLine) (hi : ∀ x ∈ sz, isI x = true) (v r s2 s3 s4 s5 : Sl) : (ev T C l__law_title_due_1).t [v, r, s2, s3, s4, s5, .fz (.tuple sz), .un, .un] = .ok (!sz.all (btw 1 60)) [v, r, s2, s3, s4, s5, .fz (.tuple sz), .un, .un] := by
  have h := zLc_look (tg := .nm 8) (own := [8]) (fi := (ev T C (.var 6)).i) (fc := (ev T C (.or (.op (.cmp .lt) (.cons (.pk 8) (.cons (.cst (.int 1)) .nil))) (.op (.cmp .gt) (.cons (.pk 8) (.cons (.cst (.int 60)) .nil))))).t)
    (fe := (ev T C (.var 8)).e) (n := [v, r, s2, s3, s4, s5, .fz (.tuple sz), .un, .un]) (n1 := [v, r, s2, s3, s4, s5, .fz (.tuple sz), .un, .un]) (n0 := [v, r, s2, s3, s4, s5, .fz (.tuple sz), .un, .un]) (xs := sz) (p := fun x => !btw 1 60 x) (f := fun x => x)
    rfl rfl rfl rfl (fun x hx => by
      obtain ⟨i, rfl⟩ := isI_int (hi x hx)
      exact ⟨[v, r, s2, s3, s4, s5, .fz (.tuple sz), .un, .fz (.int i)], rfl, rfl, GL8 1 60 v r s2 s3 s4 s5 _ _ i, fun _ => ⟨_, rfl, rfl⟩⟩) hl
  rw [show (ev T C l__law_title_due_1).t = fun n => ((ev T C l__law_title_due_1).e n).bd fun r n1 => .of (truD r.d) n1 from rfl]
  dsimp only
  have h : (ev T C l__law_title_due_1).e [v, r, s2, s3, s4, s5, .fz (.tuple sz), .un, .un] = _ := h
  rw [h]
  dsimp only [Ou.bd, R.d, truD, Ou.of]
  rw [bad_empty]
theorem F14body1 (k b h : Nat) (hb : b ≤ sizeLine) {x : PyData} (q : okV b h x) (v : Sl) (m : En) : sv (locT c__law_title_due.calls (tbl cs (k + 2))) (cstC c__law_title_due.gcs) b__law_title_due_0 (v :: .fz x :: m) = if rateB x then .nx (v :: .fz x :: m) else .rt (.fr (.str "form")) (v :: .fz x :: m) := by
  cases x <;> try rfl
  rename_i xs
  rcases xs with _ | ⟨x1, _ | ⟨x2, _ | ⟨x3, xs⟩⟩⟩
  · rfl
  · rfl
  · have e1 := F13 k (bd_of hb (okV_mem q (x := x2) (by simp)))
    have e0 := F12' (k + 1) x1
    cases h1 : isI x1 <;> cases h2 : rowB x2 <;> rw [h1] at e0 <;> rw [h2] at e1 <;> simp [evDef, sv, ev, Fl.of, Ev.val, Ev.no, Ev.itr, opd_pk, opd_io, opd_var, opd_cst, opd_glb, opd_op, opd_chn, opd_slc, opd_and, opd_or, opd_not, opd_ife, opd_call, opd_lc, Ou.bd, zOp, opdl, retains, rsl, Z.rs, frl, opD, binD, cmpD, Ou.of, slD, atI, ixN, eqv_int, shaped_int, dbl, dint, zVar, zPkT, putR, ownAt, R.sl, R.d, finD, truD, zCall, locT, cstC, argsS, argS, ioIx, afterCall, putBack, zAnd, zOr, zNot, zChn, zSlc, slcD, cutD, Tg.put, setAll, seqD, isTy_tt, fmtOk, fitL, zRng1, zRng2, smallI, zChn3, zLrg1, zLrg2, zEnm, zZip, opd_chn3, opd_lrg1, opd_lrg2, b__law_title_due_0, c__law_title_due, T12, T13, e0, e1, rateB, h1, h2]
  · have hn : ¬ ((xs.length : Int) + 1 + 1 + 1 = 2) := by omega
    simp [evDef, sv, ev, Fl.of, Ev.val, Ev.no, Ev.itr, opd_pk, opd_io, opd_var, opd_cst, opd_glb, opd_op, opd_chn, opd_slc, opd_and, opd_or, opd_not, opd_ife, opd_call, opd_lc, Ou.bd, zOp, opdl, retains, rsl, Z.rs, frl, opD, binD, cmpD, Ou.of, slD, atI, ixN, eqv_int, shaped_int, dbl, dint, zVar, zPkT, putR, ownAt, R.sl, R.d, finD, truD, zCall, locT, cstC, argsS, argS, ioIx, afterCall, putBack, zAnd, zOr, zNot, zChn, zSlc, slcD, cutD, Tg.put, setAll, seqD, isTy_tt, fmtOk, fitL, zRng1, zRng2, smallI, zChn3, zLrg1, zLrg2, zEnm, zZip, opd_chn3, opd_lrg1, opd_lrg2, b__law_title_due_0, c__law_title_due, rateB, hn]
theorem F14loop1 (k b h : Nat) (hb : b ≤ sizeLine) (v : Sl) (m : En) : ∀ (rs : List PyData) (t : Sl), (∀ x ∈ rs, okV b h x) → (t = .un ∨ ∃ y, t = .fz y) → ∃ t', (t' = .un ∨ ∃ y, t' = .fz y) ∧ forGo (.nm 1) (sv (locT c__law_title_due.calls (tbl cs (k + 2))) (cstC c__law_title_due.gcs) b__law_title_due_0) rs (v :: t :: m) = if rs.all rateB then .nx (v :: t' :: m) else .rt (.fr (.str "form")) (v :: t' :: m)
  | [], t, _, ht => ⟨t, ht, rfl⟩
  | x :: rs, t, hx, ht => by
    have hp : (Tg.nm 1).put x (v :: t :: m) = some (v :: .fz x :: m) := by rcases ht with rfl | ⟨y, rfl⟩ <;> rfl
    rw [forGo_cons, hp]
    dsimp only
    rw [F14body1 k b h hb (hx x List.mem_cons_self) v m]
    cases hr : rateB x with
    | true =>
      rw [if_pos rfl]
      obtain ⟨t', ht', e⟩ := F14loop1 k b h hb v m rs (.fz x) (fun y hy => hx y (List.mem_cons_of_mem _ hy)) (.inr ⟨x, rfl⟩)
      exact ⟨t', ht', by dsimp only; rw [e]; simp [hr]⟩
    | false =>
      rw [if_neg Bool.false_ne_true]
      exact ⟨.fz x, .inr ⟨x, rfl⟩, by simp [hr]⟩
theorem F14body0 (T : Tb) (C : Nat → Option PyData) {q : Int} {sz ss : List PyData} (hl : sz.length ≤ sizeLine) (hi : ∀ y ∈ sz, isI y = true) (v r l s4 : Sl) :
    sv T C b__law_title_due_1 [v, r, .fz (.tuple ss), l, s4, .fz (.int q), .fz (.tuple sz), .un, .un] = if rateOk ss.length (.tuple [.int q, .tuple sz]) then .nx [v, r, .fz (.tuple ss), l, s4, .fz (.int q), .fz (.tuple sz), .un, .un] else .rt (.fr (.str "rates")) [v, r, .fz (.tuple ss), l, s4, .fz (.int q), .fz (.tuple sz), .un, .un] := by
  have e := LD0 (T := T) (C := C) hl hi v r (.fz (.tuple ss)) l s4 (.fz (.int q))
  show _ = if (decide (0 ≤ q) && decide (q ≤ 99)) && (decide ((sz.length : Int) = ss.length) && sz.all (btw 1 60)) then _ else _
  simp only [b__law_title_due_1]
  by_cases h1 : q < 0
  · have h2 : ¬ 0 ≤ q := by omega
    simp [evDef, sv, ev, Fl.of, Ev.val, Ev.no, Ev.itr, opd_pk, opd_io, opd_var, opd_cst, opd_glb, opd_op, opd_chn, opd_slc, opd_and, opd_or, opd_not, opd_ife, opd_call, opd_lc, Ou.bd, zOp, opdl, retains, rsl, Z.rs, frl, opD, binD, cmpD, Ou.of, slD, atI, ixN, eqv_int, shaped_int, dbl, dint, zVar, zPkT, putR, ownAt, R.sl, R.d, finD, truD, zCall, locT, cstC, argsS, argS, ioIx, afterCall, putBack, zAnd, zOr, zNot, zChn, zSlc, slcD, cutD, Tg.put, setAll, seqD, isTy_tt, fmtOk, fitL, zRng1, zRng2, smallI, zChn3, zLrg1, zLrg2, zEnm, zZip, opd_chn3, opd_lrg1, opd_lrg2, h1, h2]
  · have h2 : 0 ≤ q := by omega
    by_cases h3 : 99 < q
    · have h4 : ¬ q ≤ 99 := by omega
      simp [evDef, sv, ev, Fl.of, Ev.val, Ev.no, Ev.itr, opd_pk, opd_io, opd_var, opd_cst, opd_glb, opd_op, opd_chn, opd_slc, opd_and, opd_or, opd_not, opd_ife, opd_call, opd_lc, Ou.bd, zOp, opdl, retains, rsl, Z.rs, frl, opD, binD, cmpD, Ou.of, slD, atI, ixN, eqv_int, shaped_int, dbl, dint, zVar, zPkT, putR, ownAt, R.sl, R.d, finD, truD, zCall, locT, cstC, argsS, argS, ioIx, afterCall, putBack, zAnd, zOr, zNot, zChn, zSlc, slcD, cutD, Tg.put, setAll, seqD, isTy_tt, fmtOk, fitL, zRng1, zRng2, smallI, zChn3, zLrg1, zLrg2, zEnm, zZip, opd_chn3, opd_lrg1, opd_lrg2, h1, h2, h3, h4]
    · have h4 : q ≤ 99 := by omega
      by_cases h5 : (sz.length : Int) = ss.length
      · cases h6 : sz.all (btw 1 60) <;> rw [h6] at e <;> simp [evDef, sv, ev, Fl.of, Ev.val, Ev.no, Ev.itr, opd_pk, opd_io, opd_var, opd_cst, opd_glb, opd_op, opd_chn, opd_slc, opd_and, opd_or, opd_not, opd_ife, opd_call, opd_lc, Ou.bd, zOp, opdl, retains, rsl, Z.rs, frl, opD, binD, cmpD, Ou.of, slD, atI, ixN, eqv_int, shaped_int, dbl, dint, zVar, zPkT, putR, ownAt, R.sl, R.d, finD, truD, zCall, locT, cstC, argsS, argS, ioIx, afterCall, putBack, zAnd, zOr, zNot, zChn, zSlc, slcD, cutD, Tg.put, setAll, seqD, isTy_tt, fmtOk, fitL, zRng1, zRng2, smallI, zChn3, zLrg1, zLrg2, zEnm, zZip, opd_chn3, opd_lrg1, opd_lrg2, h1, h2, h3, h4, h5, e]
      · simp [evDef, sv, ev, Fl.of, Ev.val, Ev.no, Ev.itr, opd_pk, opd_io, opd_var, opd_cst, opd_glb, opd_op, opd_chn, opd_slc, opd_and, opd_or, opd_not, opd_ife, opd_call, opd_lc, Ou.bd, zOp, opdl, retains, rsl, Z.rs, frl, opD, binD, cmpD, Ou.of, slD, atI, ixN, eqv_int, shaped_int, dbl, dint, zVar, zPkT, putR, ownAt, R.sl, R.d, finD, truD, zCall, locT, cstC, argsS, argS, ioIx, afterCall, putBack, zAnd, zOr, zNot, zChn, zSlc, slcD, cutD, Tg.put, setAll, seqD, isTy_tt, fmtOk, fitL, zRng1, zRng2, smallI, zChn3, zLrg1, zLrg2, zEnm, zZip, opd_chn3, opd_lrg1, opd_lrg2, h1, h2, h3, h4, h5]
theorem F14loop0 (T : Tb) (C : Nat → Option PyData) (b h : Nat) (hb : b ≤ sizeLine) {ss : List PyData} (v r l s4 : Sl) : ∀ (rs : List PyData) (t4 t5 : Sl), (∀ x ∈ rs, okV b h x) → (∀ x ∈ rs, rateB x = true) → (t4 = .un ∨ ∃ y, t4 = .fz y) → (t5 = .un ∨ ∃ y, t5 = .fz y) →
    ∃ n', forGo (.tp [5, 6]) (sv T C b__law_title_due_1) rs [v, r, .fz (.tuple ss), l, s4, t4, t5, .un, .un] = if rs.all (rateOk ss.length) then .nx n' else .rt (.fr (.str "rates")) n'
  | [], t4, t5, _, _, _, _ => ⟨_, rfl⟩
  | x :: rs, t4, t5, hx, hr, h4, h5 => by
    obtain ⟨q, sz, rfl, hi⟩ := rate_inv (hr x List.mem_cons_self)
    have hp : (Tg.tp [5, 6]).put (.tuple [.int q, .tuple sz]) [v, r, .fz (.tuple ss), l, s4, t4, t5, .un, .un] = some [v, r, .fz (.tuple ss), l, s4, .fz (.int q), .fz (.tuple sz), .un, .un] := by rcases h4 with rfl | ⟨y, rfl⟩ <;> rcases h5 with rfl | ⟨z, rfl⟩ <;> rfl
    rw [forGo_cons, hp]
    dsimp only
    rw [F14body0 T C (Nat.le_trans (okV_len (okV_mem (hx _ List.mem_cons_self) (x := .tuple sz) (by simp))) hb) hi v r l s4]
    cases hk : rateOk ss.length (.tuple [.int q, .tuple sz]) with
    | true =>
      rw [if_pos rfl]
      obtain ⟨n', e⟩ := F14loop0 T C b h hb v r l s4 rs _ _ (fun y hy => hx y (List.mem_cons_of_mem _ hy)) (fun y hy => hr y (List.mem_cons_of_mem _ hy)) (.inr ⟨_, rfl⟩) (.inr ⟨_, rfl⟩)
      exact ⟨n', by dsimp only; rw [e]; simp [hk]⟩
    | false =>
      rw [if_neg Bool.false_ne_true]
      exact ⟨_, by simp [hk]; rfl⟩
end Z

set_option Elab.async false
set_option linter.all false
set_option maxRecDepth 100000
set_option maxHeartbeats 0
namespace Z
open PySem PySem.Spec PyProof.Rows L2
theorem due_no {v : PyData} (h : formB v = false) : dueD v = .str "form" := by
  unfold dueD dueS
  rw [h, if_neg Bool.false_ne_true]
theorem F14 (k b h : Nat) (hb : b ≤ sizeLine) {v : PyData} (q : okV b h v) : Fd (k + 2) 14 [.fz v] = .ret (.fr (dueD v)) [.none] := by
  cases v <;> try rfl
  rename_i xs
  rcases xs with _ | ⟨x1, _ | ⟨x2, _ | ⟨x3, _ | ⟨x4, xs⟩⟩⟩⟩
  · rfl
  · rfl
  · rfl
  · have e1 := F13 k (bd_of hb (okV_mem q (x := x1) (by simp)))
    have e0 := F12' (k + 1) x2
    by_cases ht : ∃ rs, x3 = .tuple rs
    · obtain ⟨rs, rfl⟩ := ht
      have q3 := okV_mem q (x := .tuple rs) (by simp)
      obtain ⟨t', ht', e⟩ := F14loop1 k b h hb (.fz (.tuple [x1, x2, .tuple rs])) [.un, .un, .un, .un, .un, .un, .un] rs .un (fun x hx => okV_mem q3 hx) (.inl rfl)
      cases h1 : rowB x1
      · rw [h1] at e1
        rw [due_no (by rw [form_tt, h1]; rfl), U14]
        simp only [c__law_title_due]
        simp [evDef, sv, ev, Fl.of, Ev.val, Ev.no, Ev.itr, opd_pk, opd_io, opd_var, opd_cst, opd_glb, opd_op, opd_chn, opd_slc, opd_and, opd_or, opd_not, opd_ife, opd_call, opd_lc, Ou.bd, zOp, opdl, retains, rsl, Z.rs, frl, opD, binD, cmpD, Ou.of, slD, atI, ixN, eqv_int, shaped_int, dbl, dint, zVar, zPkT, putR, ownAt, R.sl, R.d, finD, truD, zCall, locT, cstC, argsS, argS, ioIx, afterCall, putBack, zAnd, zOr, zNot, zChn, zSlc, slcD, cutD, Tg.put, setAll, seqD, isTy_tt, fmtOk, fitL, zRng1, zRng2, smallI, zChn3, zLrg1, zLrg2, zEnm, zZip, opd_chn3, opd_lrg1, opd_lrg2, T12, T13, e0, e1, finD1]
      cases h2 : isI x2
      · rw [h1] at e1
        rw [h2] at e0
        rw [due_no (by rw [form_tt, h1, h2]; rfl), U14]
        simp only [c__law_title_due]
        simp [evDef, sv, ev, Fl.of, Ev.val, Ev.no, Ev.itr, opd_pk, opd_io, opd_var, opd_cst, opd_glb, opd_op, opd_chn, opd_slc, opd_and, opd_or, opd_not, opd_ife, opd_call, opd_lc, Ou.bd, zOp, opdl, retains, rsl, Z.rs, frl, opD, binD, cmpD, Ou.of, slD, atI, ixN, eqv_int, shaped_int, dbl, dint, zVar, zPkT, putR, ownAt, R.sl, R.d, finD, truD, zCall, locT, cstC, argsS, argS, ioIx, afterCall, putBack, zAnd, zOr, zNot, zChn, zSlc, slcD, cutD, Tg.put, setAll, seqD, isTy_tt, fmtOk, fitL, zRng1, zRng2, smallI, zChn3, zLrg1, zLrg2, zEnm, zZip, opd_chn3, opd_lrg1, opd_lrg2, T12, T13, e0, e1, finD1]
      cases h3 : rs.all rateB
      · rw [h1] at e1
        rw [h2] at e0
        rw [h3] at e
        rw [due_no (by rw [form_tt, h1, h2, h3]; rfl), U14]
        simp only [c__law_title_due] at e ⊢
        simp [evDef, sv, ev, Fl.of, Ev.val, Ev.no, Ev.itr, opd_pk, opd_io, opd_var, opd_cst, opd_glb, opd_op, opd_chn, opd_slc, opd_and, opd_or, opd_not, opd_ife, opd_call, opd_lc, Ou.bd, zOp, opdl, retains, rsl, Z.rs, frl, opD, binD, cmpD, Ou.of, slD, atI, ixN, eqv_int, shaped_int, dbl, dint, zVar, zPkT, putR, ownAt, R.sl, R.d, finD, truD, zCall, locT, cstC, argsS, argS, ioIx, afterCall, putBack, zAnd, zOr, zNot, zChn, zSlc, slcD, cutD, Tg.put, setAll, seqD, isTy_tt, fmtOk, fitL, zRng1, zRng2, smallI, zChn3, zLrg1, zLrg2, zEnm, zZip, opd_chn3, opd_lrg1, opd_lrg2, T12, T13, e0, e1, e, finD1]
      have hf : formB (.tuple [x1, x2, .tuple rs]) = true := by rw [form_tt, h1, h2, h3]; rfl
      rw [h1] at e1
      rw [h2] at e0
      rw [h3] at e
      obtain ⟨ss, rfl, h4⟩ := row_inv h1
      obtain ⟨l, rfl⟩ := isI_int h2
      have qss := okV_mem q (x := .tuple ss) (by simp)
      have e7 := fun T C => LD1 (T := T) (C := C) (Nat.le_trans (okV_len qss) hb) h4 (.fz (.tuple [.tuple ss, .int l, .tuple rs])) t' (.fz (.int l)) (.fz (.tuple rs))
      obtain ⟨n', e8⟩ := F14loop0 (locT c__law_title_due.calls (tbl cs (k + 2))) (cstC c__law_title_due.gcs) b h hb (ss := ss) (.fz (.tuple [.tuple ss, .int l, .tuple rs])) t' (.fz (.int l)) (.fz (.tuple rs)) rs .un .un (fun x hx => okV_mem q3 hx) (fun r hr => List.all_eq_true.mp h3 r hr) (.inl rfl) (.inl rfl)
      have hd : dueD (.tuple [.tuple ss, .int l, .tuple rs]) = match dueT ss l rs with
        | none => .none
        | some s => .str s := by
        unfold dueD dueS
        rw [hf, if_pos rfl]
        try rfl
      rw [hd, U14]
      unfold dueT
      simp only [c__law_title_due] at e e8 ⊢
      by_cases g1 : 1 ≤ (ss.length : Int)
      · by_cases g2 : (ss.length : Int) ≤ 40
        · cases g3 : ss.all (btw 1 8) <;> simp only [g3] at e7
          · simp [evDef, sv, ev, Fl.of, Ev.val, Ev.no, Ev.itr, opd_pk, opd_io, opd_var, opd_cst, opd_glb, opd_op, opd_chn, opd_slc, opd_and, opd_or, opd_not, opd_ife, opd_call, opd_lc, Ou.bd, zOp, opdl, retains, rsl, Z.rs, frl, opD, binD, cmpD, Ou.of, slD, atI, ixN, eqv_int, shaped_int, dbl, dint, zVar, zPkT, putR, ownAt, R.sl, R.d, finD, truD, zCall, locT, cstC, argsS, argS, ioIx, afterCall, putBack, zAnd, zOr, zNot, zChn, zSlc, slcD, cutD, Tg.put, setAll, seqD, isTy_tt, fmtOk, fitL, zRng1, zRng2, smallI, zChn3, zLrg1, zLrg2, zEnm, zZip, opd_chn3, opd_lrg1, opd_lrg2, T12, T13, e0, e1, e, e7, g1, g2, finD1]
          · by_cases g4 : l < -1
            · have g5 : ¬ -1 ≤ l := by omega
              simp [evDef, sv, ev, Fl.of, Ev.val, Ev.no, Ev.itr, opd_pk, opd_io, opd_var, opd_cst, opd_glb, opd_op, opd_chn, opd_slc, opd_and, opd_or, opd_not, opd_ife, opd_call, opd_lc, Ou.bd, zOp, opdl, retains, rsl, Z.rs, frl, opD, binD, cmpD, Ou.of, slD, atI, ixN, eqv_int, shaped_int, dbl, dint, zVar, zPkT, putR, ownAt, R.sl, R.d, finD, truD, zCall, locT, cstC, argsS, argS, ioIx, afterCall, putBack, zAnd, zOr, zNot, zChn, zSlc, slcD, cutD, Tg.put, setAll, seqD, isTy_tt, fmtOk, fitL, zRng1, zRng2, smallI, zChn3, zLrg1, zLrg2, zEnm, zZip, opd_chn3, opd_lrg1, opd_lrg2, T12, T13, e0, e1, e, e7, g1, g2, g4, g5, finD1]
            · have g5 : -1 ≤ l := by omega
              by_cases g6 : (ss.length : Int) ≤ l
              · have g7 : ¬ l < (ss.length : Int) := by omega
                simp [evDef, sv, ev, Fl.of, Ev.val, Ev.no, Ev.itr, opd_pk, opd_io, opd_var, opd_cst, opd_glb, opd_op, opd_chn, opd_slc, opd_and, opd_or, opd_not, opd_ife, opd_call, opd_lc, Ou.bd, zOp, opdl, retains, rsl, Z.rs, frl, opD, binD, cmpD, Ou.of, slD, atI, ixN, eqv_int, shaped_int, dbl, dint, zVar, zPkT, putR, ownAt, R.sl, R.d, finD, truD, zCall, locT, cstC, argsS, argS, ioIx, afterCall, putBack, zAnd, zOr, zNot, zChn, zSlc, slcD, cutD, Tg.put, setAll, seqD, isTy_tt, fmtOk, fitL, zRng1, zRng2, smallI, zChn3, zLrg1, zLrg2, zEnm, zZip, opd_chn3, opd_lrg1, opd_lrg2, T12, T13, e0, e1, e, e7, g1, g2, g4, g5, g6, g7, finD1]
              · have g7 : l < (ss.length : Int) := by omega
                by_cases g8 : 1 ≤ (rs.length : Int)
                · by_cases g9 : (rs.length : Int) ≤ 6
                  · cases g10 : rs.all (rateOk ss.length) <;> rw [g10] at e8 <;> simp [evDef, sv, ev, Fl.of, Ev.val, Ev.no, Ev.itr, opd_pk, opd_io, opd_var, opd_cst, opd_glb, opd_op, opd_chn, opd_slc, opd_and, opd_or, opd_not, opd_ife, opd_call, opd_lc, Ou.bd, zOp, opdl, retains, rsl, Z.rs, frl, opD, binD, cmpD, Ou.of, slD, atI, ixN, eqv_int, shaped_int, dbl, dint, zVar, zPkT, putR, ownAt, R.sl, R.d, finD, truD, zCall, locT, cstC, argsS, argS, ioIx, afterCall, putBack, zAnd, zOr, zNot, zChn, zSlc, slcD, cutD, Tg.put, setAll, seqD, isTy_tt, fmtOk, fitL, zRng1, zRng2, smallI, zChn3, zLrg1, zLrg2, zEnm, zZip, opd_chn3, opd_lrg1, opd_lrg2, T12, T13, e0, e1, e, e7, e8, g1, g2, g4, g5, g6, g7, g8, g9, finD1]
                  · simp [evDef, sv, ev, Fl.of, Ev.val, Ev.no, Ev.itr, opd_pk, opd_io, opd_var, opd_cst, opd_glb, opd_op, opd_chn, opd_slc, opd_and, opd_or, opd_not, opd_ife, opd_call, opd_lc, Ou.bd, zOp, opdl, retains, rsl, Z.rs, frl, opD, binD, cmpD, Ou.of, slD, atI, ixN, eqv_int, shaped_int, dbl, dint, zVar, zPkT, putR, ownAt, R.sl, R.d, finD, truD, zCall, locT, cstC, argsS, argS, ioIx, afterCall, putBack, zAnd, zOr, zNot, zChn, zSlc, slcD, cutD, Tg.put, setAll, seqD, isTy_tt, fmtOk, fitL, zRng1, zRng2, smallI, zChn3, zLrg1, zLrg2, zEnm, zZip, opd_chn3, opd_lrg1, opd_lrg2, T12, T13, e0, e1, e, e7, g1, g2, g4, g5, g6, g7, g8, g9, finD1]
                · simp [evDef, sv, ev, Fl.of, Ev.val, Ev.no, Ev.itr, opd_pk, opd_io, opd_var, opd_cst, opd_glb, opd_op, opd_chn, opd_slc, opd_and, opd_or, opd_not, opd_ife, opd_call, opd_lc, Ou.bd, zOp, opdl, retains, rsl, Z.rs, frl, opD, binD, cmpD, Ou.of, slD, atI, ixN, eqv_int, shaped_int, dbl, dint, zVar, zPkT, putR, ownAt, R.sl, R.d, finD, truD, zCall, locT, cstC, argsS, argS, ioIx, afterCall, putBack, zAnd, zOr, zNot, zChn, zSlc, slcD, cutD, Tg.put, setAll, seqD, isTy_tt, fmtOk, fitL, zRng1, zRng2, smallI, zChn3, zLrg1, zLrg2, zEnm, zZip, opd_chn3, opd_lrg1, opd_lrg2, T12, T13, e0, e1, e, e7, g1, g2, g4, g5, g6, g7, g8, finD1]
        · simp [evDef, sv, ev, Fl.of, Ev.val, Ev.no, Ev.itr, opd_pk, opd_io, opd_var, opd_cst, opd_glb, opd_op, opd_chn, opd_slc, opd_and, opd_or, opd_not, opd_ife, opd_call, opd_lc, Ou.bd, zOp, opdl, retains, rsl, Z.rs, frl, opD, binD, cmpD, Ou.of, slD, atI, ixN, eqv_int, shaped_int, dbl, dint, zVar, zPkT, putR, ownAt, R.sl, R.d, finD, truD, zCall, locT, cstC, argsS, argS, ioIx, afterCall, putBack, zAnd, zOr, zNot, zChn, zSlc, slcD, cutD, Tg.put, setAll, seqD, isTy_tt, fmtOk, fitL, zRng1, zRng2, smallI, zChn3, zLrg1, zLrg2, zEnm, zZip, opd_chn3, opd_lrg1, opd_lrg2, T12, T13, e0, e1, e, e7, g1, g2, finD1]
      · simp [evDef, sv, ev, Fl.of, Ev.val, Ev.no, Ev.itr, opd_pk, opd_io, opd_var, opd_cst, opd_glb, opd_op, opd_chn, opd_slc, opd_and, opd_or, opd_not, opd_ife, opd_call, opd_lc, Ou.bd, zOp, opdl, retains, rsl, Z.rs, frl, opD, binD, cmpD, Ou.of, slD, atI, ixN, eqv_int, shaped_int, dbl, dint, zVar, zPkT, putR, ownAt, R.sl, R.d, finD, truD, zCall, locT, cstC, argsS, argS, ioIx, afterCall, putBack, zAnd, zOr, zNot, zChn, zSlc, slcD, cutD, Tg.put, setAll, seqD, isTy_tt, fmtOk, fitL, zRng1, zRng2, smallI, zChn3, zLrg1, zLrg2, zEnm, zZip, opd_chn3, opd_lrg1, opd_lrg2, T12, T13, e0, e1, e, e7, g1, finD1]
    · have hf : formB (.tuple [x1, x2, x3]) = false := by
        cases x3 <;> first | rfl | exact absurd ⟨_, rfl⟩ ht
      have hty : isTy .tuple x3 = false := by
        cases x3 <;> first | rfl | exact absurd ⟨_, rfl⟩ ht
      rw [due_no hf, U14]
      simp only [c__law_title_due]
      cases h1 : rowB x1
      · rw [h1] at e1
        simp [evDef, sv, ev, Fl.of, Ev.val, Ev.no, Ev.itr, opd_pk, opd_io, opd_var, opd_cst, opd_glb, opd_op, opd_chn, opd_slc, opd_and, opd_or, opd_not, opd_ife, opd_call, opd_lc, Ou.bd, zOp, opdl, retains, rsl, Z.rs, frl, opD, binD, cmpD, Ou.of, slD, atI, ixN, eqv_int, shaped_int, dbl, dint, zVar, zPkT, putR, ownAt, R.sl, R.d, finD, truD, zCall, locT, cstC, argsS, argS, ioIx, afterCall, putBack, zAnd, zOr, zNot, zChn, zSlc, slcD, cutD, Tg.put, setAll, seqD, isTy_tt, fmtOk, fitL, zRng1, zRng2, smallI, zChn3, zLrg1, zLrg2, zEnm, zZip, opd_chn3, opd_lrg1, opd_lrg2, T12, T13, e0, e1, hty, finD1]
      · rw [h1] at e1
        cases h2 : isI x2 <;> rw [h2] at e0 <;> simp [evDef, sv, ev, Fl.of, Ev.val, Ev.no, Ev.itr, opd_pk, opd_io, opd_var, opd_cst, opd_glb, opd_op, opd_chn, opd_slc, opd_and, opd_or, opd_not, opd_ife, opd_call, opd_lc, Ou.bd, zOp, opdl, retains, rsl, Z.rs, frl, opD, binD, cmpD, Ou.of, slD, atI, ixN, eqv_int, shaped_int, dbl, dint, zVar, zPkT, putR, ownAt, R.sl, R.d, finD, truD, zCall, locT, cstC, argsS, argS, ioIx, afterCall, putBack, zAnd, zOr, zNot, zChn, zSlc, slcD, cutD, Tg.put, setAll, seqD, isTy_tt, fmtOk, fitL, zRng1, zRng2, smallI, zChn3, zLrg1, zLrg2, zEnm, zZip, opd_chn3, opd_lrg1, opd_lrg2, T12, T13, e0, e1, hty, finD1]
  · have hn : ¬ ((xs.length : Int) + 1 + 1 + 1 + 1 = 3) := by omega
    have hf : formB (.tuple (x1 :: x2 :: x3 :: x4 :: xs)) = false := by cases x3 <;> rfl
    rw [due_no hf, U14]
    simp [evDef, sv, ev, Fl.of, Ev.val, Ev.no, Ev.itr, opd_pk, opd_io, opd_var, opd_cst, opd_glb, opd_op, opd_chn, opd_slc, opd_and, opd_or, opd_not, opd_ife, opd_call, opd_lc, Ou.bd, zOp, opdl, retains, rsl, Z.rs, frl, opD, binD, cmpD, Ou.of, slD, atI, ixN, eqv_int, shaped_int, dbl, dint, zVar, zPkT, putR, ownAt, R.sl, R.d, finD, truD, zCall, locT, cstC, argsS, argS, ioIx, afterCall, putBack, zAnd, zOr, zNot, zChn, zSlc, slcD, cutD, Tg.put, setAll, seqD, isTy_tt, fmtOk, fitL, zRng1, zRng2, smallI, zChn3, zLrg1, zLrg2, zEnm, zZip, opd_chn3, opd_lrg1, opd_lrg2, c__law_title_due, hn]
end Z

set_option Elab.async false
set_option linter.all false
set_option maxRecDepth 100000
set_option maxHeartbeats 0
namespace Z
open PySem PySem.Spec PyProof.Rows L2
def unfz (s : Sl) : Prop := s = .un ∨ ∃ y, s = .fz y
/-- a comprehension that draws -/
theorem zLc_draw {tg : Tg} {own : List Nat} {fi : En → Ou (List PyData)} {fc : En → Ou Bool} {fe : En → Ou R} (N : PyData → Sl → En) (Sx : PyData → Prop) {d : PyData} {xs : List PyData} (hd : St d) (hi : fi (N d .un) = .ok xs (N d .un)) (hp : ∀ d, noPn (N d .un) own = true)
    (hw : ∀ d s, wipeN (N d s) own = N d .un) (hput : ∀ d x, tg.put x (N d .un) = some (N d (.fz x))) (hfc : ∀ n, fc n = .ok true n) (hfe : ∀ d x, St d → ∃ r d', fe (N d (.fz x)) = .ok r (N d' (.fz x)) ∧ St d' ∧ Sx r.d) (hl : xs.length ≤ sizeLine) :
    ∃ ys d', zLc tg own fi fc fe (N d .un) = .ok (.nw (.list ys)) (N d' .un) ∧ St d' ∧ ys.length = xs.length ∧ ∀ y ∈ ys, Sx y := by
  unfold zLc
  rw [hi]
  dsimp only [Ou.bd]
  rw [if_pos (hp d), hw]
  obtain ⟨ys, n', e, d', s, rfl, h1, h2, h3⟩ := lcGo_inv (tg := tg) (own := own) (fc := fc) (fe := fe) (fun rem acc n => ∃ d s, n = N d s ∧ St d ∧ acc.length + rem.length = xs.length ∧ ∀ y ∈ acc, Sx y) (by
    rintro x rem acc n ⟨d, s, rfl, g1, g2, g3⟩
    refine ⟨N d (.fz x), true, N d (.fz x), by rw [hw]; exact hput d x, hfc _, fun _ => ?_, fun z => by cases z⟩
    obtain ⟨r, d', e1, e2, e3⟩ := hfe d x g1
    refine ⟨r, N d' (.fz x), e1, by simp at g2; omega, d', _, rfl, e2, by simp at g2 ⊢; omega, fun y hy => ?_⟩
    rcases List.mem_append.mp hy with hy | hy
    · exact g3 y hy
    · rw [List.mem_singleton.mp hy]; exact e3) xs [] (N d .un) ⟨d, .un, rfl, hd, by simp, fun y hy => by cases hy⟩
  rw [e]
  dsimp only
  rw [hw]
  exact ⟨ys, d', rfl, h1, by simpa using h2, h3⟩
theorem rangeD_len (m : Int) : (rangeD 0 m).length = m.toNat := by
  unfold rangeD
  rw [List.length_map, List.length_range, Int.sub_zero]
theorem rng_ok {m : Int} (h0 : 0 ≤ m) (h1 : m ≤ 1000) : rngOk m = true := by
  unfold rngOk
  exact decide_eq_true ⟨by omega, by omega⟩
theorem sz6 : (6 : Nat) ≤ sizeLine := by rw [sizeLine_eq]; decide
theorem sz1000 : (1000 : Nat) ≤ sizeLine := by rw [sizeLine_eq]; decide
theorem atoms_of {xs : List PyData} (h : ∀ y ∈ xs, atom y) {x : PyData} (hx : x ∈ xs) : atom x := h x hx
/-! ### _law_start -/
theorem F5loop (T : Tb) (C : Nat → Option PyData) (v : Sl) : ∀ (ns : List Int) (s : Int) (t : Sl), unfz t → ∃ s' t', forGo (.nm 2) (sv T C b__law_start_0) (ns.map .int) [v, .fz (.int s), t] = .nx [v, .fz (.int s'), t']
  | [], s, t, _ => ⟨s, t, rfl⟩
  | n :: ns, s, t, ht => by
    have hp : (Tg.nm 2).put (.int n) [v, .fz (.int s), t] = some [v, .fz (.int s), .fz (.int n)] := by rcases ht with rfl | ⟨y, rfl⟩ <;> rfl
    rw [List.map_cons, forGo_cons, hp]
    have hb : sv T C b__law_start_0 [v, .fz (.int s), .fz (.int n)] = .nx [v, .fz (.int ((s * 48271 + n).fmod 2147483629 + 1)), .fz (.int n)] := by
      simp [evDef, sv, ev, Fl.of, Ev.val, Ev.no, Ev.itr, opd_pk, opd_io, opd_var, opd_cst, opd_glb, opd_op, opd_chn, opd_slc, opd_and, opd_or, opd_not, opd_ife, opd_call, opd_lc, Ou.bd, zOp, opdl, retains, rsl, Z.rs, frl, opD, binD, cmpD, Ou.of, slD, atI, ixN, eqv_int, shaped_int, dbl, dint, zVar, zPkT, putR, ownAt, R.sl, R.d, finD, truD, zCall, locT, cstC, argsS, argS, ioIx, afterCall, putBack, zAnd, zOr, zNot, zChn, zSlc, slcD, cutD, Tg.put, setAll, seqD, isTy_tt, fmtOk, fitL, zRng1, zRng2, smallI, zChn3, zLrg1, zLrg2, zEnm, zZip, opd_chn3, opd_lrg1, opd_lrg2, b__law_start_0]
    dsimp only
    rw [hb]
    exact F5loop T C v ns _ _ (.inr ⟨_, rfl⟩)
theorem F5 (k : Nat) (ns : List Int) : ∃ d, Fd k 5 [.fz (.list (ns.map .int))] = .ret (.nw d) [.none] ∧ St d := by
  obtain ⟨s', t', e⟩ := F5loop (locT c__law_start.calls (tbl cs k)) (cstC c__law_start.gcs) (.fz (.list (ns.map .int))) ns 7 .un (.inl rfl)
  refine ⟨stD ns 0 0 s', ?_, ns, 0, 0, s', rfl, by omega, by omega⟩
  rw [U5]
  simp only [c__law_start] at e ⊢
  have z := sz6
  have z4 : (4 : Nat) ≤ sizeLine := by omega
  simp [evDef, sv, ev, Fl.of, Ev.val, Ev.no, Ev.itr, opd_pk, opd_io, opd_var, opd_cst, opd_glb, opd_op, opd_chn, opd_slc, opd_and, opd_or, opd_not, opd_ife, opd_call, opd_lc, Ou.bd, zOp, opdl, retains, rsl, Z.rs, frl, opD, binD, cmpD, Ou.of, slD, atI, ixN, eqv_int, shaped_int, dbl, dint, zVar, zPkT, putR, ownAt, R.sl, R.d, finD, truD, zCall, locT, cstC, argsS, argS, ioIx, afterCall, putBack, zAnd, zOr, zNot, zChn, zSlc, slcD, cutD, Tg.put, setAll, seqD, isTy_tt, fmtOk, fitL, zRng1, zRng2, smallI, zChn3, zLrg1, zLrg2, zEnm, zZip, opd_chn3, opd_lrg1, opd_lrg2, e, stD, z4, finD1]
/-! ### comprehensions of drawn ones -/
theorem pickE (k : Nat) {d : PyData} {xs : List PyData} (hd : St d) (h1 : xs ≠ []) (h2 : xs.length ≤ 6) (ha : ∀ y ∈ xs, atom y) : ∃ x d', Fd (k + 1) 7 [.pn d, .fz (.list xs)] = .ret (.fr x) [d', .none] ∧ St d' ∧ atom x := by
  obtain ⟨x, d', e, s, hx⟩ := pick k hd h1 (by omega)
  exact ⟨x, d', e, s, ha x hx⟩
end Z

set_option Elab.async false
set_option linter.all false
set_option maxRecDepth 100000
set_option maxHeartbeats 0
namespace Z
open PySem PySem.Spec PyProof.Rows L2
/-! ### _law_spoilt -/
theorem cut_len (xs : List PyData) (lo hi : Option Int) : (cutD xs lo hi).length ≤ xs.length := by
  unfold cutD
  rw [List.length_take, List.length_drop]
  omega
theorem cut_mem {xs : List PyData} {lo hi : Option Int} {x : PyData} (h : x ∈ cutD xs lo hi) : x ∈ xs := List.mem_of_mem_drop (List.mem_of_mem_take h)
theorem F11a {b h K : Nat} {d v : PyData} (hd : St d) (ha : atom v) : ∃ v' d', Fd (K + 3) 11 [.pn d, .fz v] = .ret (.fr v') [d', .none] ∧ St d' ∧ okV (2 * b + 2) (h + 4) v' := by
  obtain ⟨o, d1, e1, s1, ho⟩ := odd K hd
  refine ⟨o, d1, ?_, s1, okV_mono (by omega) (by omega) ho⟩
  rw [U11]
  simp only [c__law_spoilt]
  have ht : isTy .tuple v = false := by cases v <;> first | rfl | exact ha.elim
  simp [evDef, sv, ev, Fl.of, Ev.val, Ev.no, Ev.itr, opd_pk, opd_io, opd_var, opd_cst, opd_glb, opd_op, opd_chn, opd_slc, opd_and, opd_or, opd_not, opd_ife, opd_call, opd_lc, Ou.bd, zOp, opdl, retains, rsl, Z.rs, frl, opD, binD, cmpD, Ou.of, slD, atI, ixN, eqv_int, shaped_int, dbl, dint, zVar, zPkT, putR, ownAt, R.sl, R.d, finD, truD, zCall, locT, cstC, argsS, argS, ioIx, afterCall, putBack, zAnd, zOr, zNot, zChn, zSlc, slcD, Tg.put, setAll, seqD, isTy_tt, fmtOk, fitL, zRng1, zRng2, smallI, zChn3, zLrg1, zLrg2, zEnm, zZip, opd_chn3, opd_lrg1, opd_lrg2, T10, e1, ht]
theorem F11b {b h K : Nat} (hz : 2 * b + 10 ≤ sizeLine) {d : PyData} {xs : List PyData} (hd : St d) (hl : xs.length ≤ b) (hx : ∀ x ∈ xs, okV b h x) (hemp : xs ≠ []) (v5 : Int) {d0 : PyData} (e5 : Fd (K + 2) 6 [.pn d0, .fz (.int 5)] = .ret (.fr (.int 0)) [d, .none]) :
    ∃ v' d', Fd (K + 3) 11 [.pn d0, .fz (.tuple xs)] = .ret (.fr v') [d', .none] ∧ St d' ∧ okV (2 * b + 2) (h + 1 + 4) v' := by
  obtain ⟨v2, d1, e2, s1, _, _⟩ := draw (K + 2) hd (m := 2) (by omega) (by omega)
  by_cases h0 : v2 = 0
  · subst h0
    obtain ⟨o, d2, e3, s2, ho⟩ := odd K s1
    obtain ⟨r, d3, e4, s3, hr⟩ := pick (K + 1) (xs := [.tuple (xs ++ [o]), .tuple (cutD xs none (some (-1))), .tuple (cutD xs (some 1) none), .tuple (xs ++ cutD xs none (some 1)), .tuple xs.reverse, .tuple (xs ++ xs)]) s2 (by simp) (by simp)
    refine ⟨r, d3, ?_, s3, ?_⟩
    · rw [U11]
      simp only [c__law_spoilt]
      have c1 := cut_len xs none (some 1)
      have z1 : xs.length + 1 ≤ sizeLine := by omega
      have z2 : xs.length + (cutD xs none (some 1)).length ≤ sizeLine := by omega
      have z3 : xs.length + xs.length ≤ sizeLine := by omega
      have z6 : (6 : Nat) ≤ sizeLine := by omega
      have z7 : (1 : Nat) ≤ sizeLine := by omega
      have hemp2 : xs.isEmpty = false := by cases xs <;> first | rfl | exact absurd rfl hemp
      simp [evDef, sv, ev, Fl.of, Ev.val, Ev.no, Ev.itr, opd_pk, opd_io, opd_var, opd_cst, opd_glb, opd_op, opd_chn, opd_slc, opd_and, opd_or, opd_not, opd_ife, opd_call, opd_lc, Ou.bd, zOp, opdl, retains, rsl, Z.rs, frl, opD, binD, cmpD, Ou.of, slD, atI, ixN, eqv_int, shaped_int, dbl, dint, zVar, zPkT, putR, ownAt, R.sl, R.d, finD, truD, zCall, locT, cstC, argsS, argS, ioIx, afterCall, putBack, zAnd, zOr, zNot, zChn, zSlc, slcD, Tg.put, setAll, seqD, isTy_tt, fmtOk, fitL, zRng1, zRng2, smallI, zChn3, zLrg1, zLrg2, zEnm, zZip, opd_chn3, opd_lrg1, opd_lrg2, T6, T7, T10, e5, e2, e3, e4, hemp2, hemp, z1, z2, z3, z6, z7]
    · have up : ∀ ys : List PyData, ys.length ≤ 2 * b + 2 → (∀ y ∈ ys, y ∈ xs ∨ y = o) → okV (2 * b + 2) (h + 1 + 4) (.tuple ys) := fun ys h1 h2 => by
        refine okV_tup (h := h + 4) h1 fun y hy => ?_
        rcases h2 y hy with z | rfl
        · exact okV_mono (by omega) (by omega) (hx y z)
        · exact okV_mono (by omega) (by omega) ho
      simp only [List.mem_cons, List.not_mem_nil, or_false] at hr
      rcases hr with rfl | rfl | rfl | rfl | rfl | rfl
      · exact up _ (by simp; omega) fun y hy => by
          rcases List.mem_append.mp hy with z | z
          · exact .inl z
          · exact .inr (List.mem_singleton.mp z)
      · exact up _ (by have := cut_len xs none (some (-1)); omega) fun y hy => .inl (cut_mem hy)
      · exact up _ (by have := cut_len xs (some 1) none; omega) fun y hy => .inl (cut_mem hy)
      · exact up _ (by rw [List.length_append]; have := cut_len xs none (some 1); omega) fun y hy => by
          rcases List.mem_append.mp hy with z | z
          · exact .inl z
          · exact .inl (cut_mem z)
      · exact up _ (by rw [List.length_reverse]; omega) fun y hy => .inl (List.mem_reverse.mp hy)
      · exact up _ (by rw [List.length_append]; omega) fun y hy => by
          rcases List.mem_append.mp hy with z | z <;> exact .inl z
  · obtain ⟨o, d2, e3, s2, ho⟩ := odd K s1
    refine ⟨o, d2, ?_, s2, okV_mono (by omega) (by omega) ho⟩
    rw [U11]
    simp only [c__law_spoilt]
    have hemp2 : xs.isEmpty = false := by cases xs <;> first | rfl | exact absurd rfl hemp
    simp [evDef, sv, ev, Fl.of, Ev.val, Ev.no, Ev.itr, opd_pk, opd_io, opd_var, opd_cst, opd_glb, opd_op, opd_chn, opd_slc, opd_and, opd_or, opd_not, opd_ife, opd_call, opd_lc, Ou.bd, zOp, opdl, retains, rsl, Z.rs, frl, opD, binD, cmpD, Ou.of, slD, atI, ixN, eqv_int, shaped_int, dbl, dint, zVar, zPkT, putR, ownAt, R.sl, R.d, finD, truD, zCall, locT, cstC, argsS, argS, ioIx, afterCall, putBack, zAnd, zOr, zNot, zChn, zSlc, slcD, Tg.put, setAll, seqD, isTy_tt, fmtOk, fitL, zRng1, zRng2, smallI, zChn3, zLrg1, zLrg2, zEnm, zZip, opd_chn3, opd_lrg1, opd_lrg2, T6, T7, T10, e5, e2, e3, hemp2, hemp, h0]
theorem F11n {b h K : Nat} (hz : 2 * b + 10 ≤ sizeLine) {d : PyData} (hd : St d) : ∃ v' d', Fd (K + 3) 11 [.pn d, .fz (.tuple [])] = .ret (.fr v') [d', .none] ∧ St d' ∧ okV (2 * b + 2) (h + 1 + 4) v' := by
  obtain ⟨v2, d1, e2, s1, _, _⟩ := draw (K + 2) hd (m := 2) (by omega) (by omega)
  by_cases h0 : v2 = 0
  · subst h0
    obtain ⟨o, d2, e3, s2, ho⟩ := odd K s1
    obtain ⟨r, d3, e4, s3, hr⟩ := pick (K + 1) (xs := [.tuple [o], .tuple (cutD [] none (some (-1))), .tuple (cutD [] (some 1) none), .tuple (cutD [] none (some 1)), .tuple [], .tuple []]) s2 (by simp) (by simp)
    refine ⟨r, d3, ?_, s3, ?_⟩
    · rw [U11]
      simp only [c__law_spoilt]
      have c1 := cut_len [] none (some 1)
      have z2 : (cutD [] none (some 1)).length ≤ sizeLine := by simp at c1; rw [c1]; exact Nat.zero_le _
      have z6 : (6 : Nat) ≤ sizeLine := by omega
      have z7 : (1 : Nat) ≤ sizeLine := by omega
      simp [evDef, sv, ev, Fl.of, Ev.val, Ev.no, Ev.itr, opd_pk, opd_io, opd_var, opd_cst, opd_glb, opd_op, opd_chn, opd_slc, opd_and, opd_or, opd_not, opd_ife, opd_call, opd_lc, Ou.bd, zOp, opdl, retains, rsl, Z.rs, frl, opD, binD, cmpD, Ou.of, slD, atI, ixN, eqv_int, shaped_int, dbl, dint, zVar, zPkT, putR, ownAt, R.sl, R.d, finD, truD, zCall, locT, cstC, argsS, argS, ioIx, afterCall, putBack, zAnd, zOr, zNot, zChn, zSlc, slcD, Tg.put, setAll, seqD, isTy_tt, fmtOk, fitL, zRng1, zRng2, smallI, zChn3, zLrg1, zLrg2, zEnm, zZip, opd_chn3, opd_lrg1, opd_lrg2, T6, T7, T10, e2, e3, e4, z2, z6, z7]
    · have up : ∀ ys : List PyData, ys.length ≤ 2 * b + 2 → (∀ y ∈ ys, y = o) → okV (2 * b + 2) (h + 1 + 4) (.tuple ys) := fun ys h1 h2 => by
        refine okV_tup (h := h + 4) h1 fun y hy => ?_
        rw [h2 y hy]
        exact okV_mono (by omega) (by omega) ho
      have no : ∀ {lo hi : Option Int} {y : PyData}, y ∈ cutD [] lo hi → y = o := fun hy => by have := cut_mem hy; cases this
      simp only [List.mem_cons, List.not_mem_nil, or_false] at hr
      rcases hr with rfl | rfl | rfl | rfl | rfl | rfl
      · exact up _ (by simp) fun y hy => List.mem_singleton.mp hy
      · exact up _ (by have := cut_len [] none (some (-1)); simp at this; rw [this]; simp) fun y hy => no hy
      · exact up _ (by have := cut_len [] (some 1) none; simp at this; rw [this]; simp) fun y hy => no hy
      · exact up _ (by have := cut_len [] none (some 1); simp at this; rw [this]; simp) fun y hy => no hy
      · exact up _ (by simp) fun y hy => by cases hy
      · exact up _ (by simp) fun y hy => by cases hy
  · obtain ⟨o, d2, e3, s2, ho⟩ := odd K s1
    refine ⟨o, d2, ?_, s2, okV_mono (by omega) (by omega) ho⟩
    rw [U11]
    simp only [c__law_spoilt]
    simp [evDef, sv, ev, Fl.of, Ev.val, Ev.no, Ev.itr, opd_pk, opd_io, opd_var, opd_cst, opd_glb, opd_op, opd_chn, opd_slc, opd_and, opd_or, opd_not, opd_ife, opd_call, opd_lc, Ou.bd, zOp, opdl, retains, rsl, Z.rs, frl, opD, binD, cmpD, Ou.of, slD, atI, ixN, eqv_int, shaped_int, dbl, dint, zVar, zPkT, putR, ownAt, R.sl, R.d, finD, truD, zCall, locT, cstC, argsS, argS, ioIx, afterCall, putBack, zAnd, zOr, zNot, zChn, zSlc, slcD, Tg.put, setAll, seqD, isTy_tt, fmtOk, fitL, zRng1, zRng2, smallI, zChn3, zLrg1, zLrg2, zEnm, zZip, opd_chn3, opd_lrg1, opd_lrg2, T6, T7, T10, e2, e3, h0]
theorem F11 (b : Nat) (hz : 2 * b + 10 ≤ sizeLine) (hb : b < 1073741824) : ∀ (h K : Nat), h ≤ K → ∀ d v, St d → okV b h v → ∃ v' d', Fd (K + 3) 11 [.pn d, .fz v] = .ret (.fr v') [d', .none] ∧ St d' ∧ okV (2 * b + 2) (h + 4) v'
  | 0, K, _, d, v, hd, q => F11a hd q
  | h + 1, 0, hk, _, _, _, _ => by omega
  | h + 1, K + 1, hk, d, v, hd, q => by
    rcases q with q | ⟨xs, rfl, hl, hx⟩
    · exact F11a hd q
    · by_cases hemp : xs = []
      · subst hemp
        exact F11n hz hd
      · obtain ⟨v5, d1, e5, s1, _, _⟩ := draw (K + 3) hd (m := 5) (by omega) (by omega)
        by_cases h0 : v5 = 0
        · subst h0
          exact F11b (K := K + 1) hz s1 hl hx hemp 0 e5
        · have hlen : 1 ≤ xs.length := by cases xs with
            | nil => exact absurd rfl hemp
            | cons _ _ => simp
          obtain ⟨a, d2, e6, s2, a0, a1⟩ := draw (K + 3) s1 (m := xs.length) (by omega) (by omega)
          have ha : a.toNat < xs.length := by omega
          obtain ⟨v', d3, e7, s3, hv⟩ := F11 b hz hb h K (by omega) d2 xs[a.toNat] s2 (hx _ (List.getElem_mem ha))
          refine ⟨.tuple (cutD xs none (some a) ++ [v'] ++ cutD xs (some (a + 1)) none), d3, ?_, s3, ?_⟩
          · rw [U11]
            simp only [c__law_spoilt]
            have c1 := cut_len xs none (some a)
            have c2 := cut_len xs (some (a + 1)) none
            have z1 : (cutD xs none (some a)).length + 1 ≤ sizeLine := by omega
            have z2 : (cutD xs none (some a)).length + 1 + (cutD xs (some (a + 1)) none).length ≤ sizeLine := by omega
            have z2' : (cutD xs none (some a)).length + ((cutD xs (some (a + 1)) none).length + 1) ≤ sizeLine := by omega
            have z7 : (1 : Nat) ≤ sizeLine := by omega
            have hemp2 : xs.isEmpty = false := by cases xs <;> first | rfl | exact absurd rfl hemp
            simp [evDef, sv, ev, Fl.of, Ev.val, Ev.no, Ev.itr, opd_pk, opd_io, opd_var, opd_cst, opd_glb, opd_op, opd_chn, opd_slc, opd_and, opd_or, opd_not, opd_ife, opd_call, opd_lc, Ou.bd, zOp, opdl, retains, rsl, Z.rs, frl, opD, binD, cmpD, Ou.of, slD, atI, ixN, eqv_int, shaped_int, dbl, dint, zVar, zPkT, putR, ownAt, R.sl, R.d, finD, truD, zCall, locT, cstC, argsS, argS, ioIx, afterCall, putBack, zAnd, zOr, zNot, zChn, zSlc, slcD, Tg.put, setAll, seqD, isTy_tt, fmtOk, fitL, zRng1, zRng2, smallI, zChn3, zLrg1, zLrg2, zEnm, zZip, opd_chn3, opd_lrg1, opd_lrg2, T6, T11, e5, e6, e7, hemp2, hemp, h0, a0, a1, ha, z1, z2, z2', z7]
          · refine okV_tup (h := h + 4) ?_ fun y hy => ?_
            · have c1 := cut_len xs none (some a)
              have c2 := cut_len xs (some (a + 1)) none
              simp
              omega
            · simp only [List.mem_append, List.mem_singleton] at hy
              rcases hy with (hy | rfl) | hy
              · exact okV_mono (by omega) (by omega) (hx y (cut_mem hy))
              · exact hv
              · exact okV_mono (by omega) (by omega) (hx y (cut_mem hy))
end Z

set_option Elab.async false
set_option linter.all false
set_option maxRecDepth 100000
set_option maxHeartbeats 0
namespace Z
open PySem PySem.Spec PyProof.Rows L2
/-! ## titles of numbers -/
theorem F8g (k : Nat) {a : PyData} {h w : Nat} (g : Gd h w a) (hh : h ≤ 64) (hw : w ≤ sizeLine) : Fd k 8 [.fz a, .fz a] = .ret (.fr (.bool true)) [.none, .none] := by
  obtain ⟨h1, h2, h3, _, h5, h6⟩ := g.same hh hw
  have h4 := Nat.le_trans g.len hw
  rw [U8]
  simp [evDef, sv, ev, Fl.of, Ev.val, Ev.no, Ev.itr, opd_pk, opd_io, opd_var, opd_cst, opd_glb, opd_op, opd_chn, opd_slc, opd_and, opd_or, opd_not, opd_ife, opd_call, opd_lc, Ou.bd, zOp, opdl, retains, rsl, Z.rs, frl, opD, binD, cmpD, Ou.of, slD, atI, ixN, eqv_int, shaped_int, dbl, dint, zVar, zPkT, putR, ownAt, R.sl, R.d, finD, truD, zCall, locT, cstC, argsS, argS, ioIx, afterCall, putBack, zAnd, zOr, zNot, zChn, zSlc, slcD, cutD, Tg.put, setAll, seqD, isTy_tt, fmtOk, fitL, zRng1, zRng2, smallI, zChn3, zLrg1, zLrg2, zEnm, zZip, opd_chn3, opd_lrg1, opd_lrg2, c__law_same, h1, h2, h3, h4, h5, h6]
def tI (l : List Int) : PyData := .tuple (l.map .int)
def rD2 (r : Int × List Int) : PyData := .tuple [.int r.1, tI r.2]
def tD (ss : List Int) (l : Int) (rs : List (Int × List Int)) : PyData := .tuple [tI ss, .int l, .tuple (rs.map rD2)]
structure Right (m : Nat) (ss : List Int) (l : Int) (rs : List (Int × List Int)) : Prop where
  n1 : 1 ≤ ss.length
  n2 : ss.length ≤ m
  s : ∀ x ∈ ss, 1 ≤ x ∧ x ≤ 8
  l1 : -1 ≤ l
  l2 : l < ss.length
  r1 : 1 ≤ rs.length
  r2 : rs.length ≤ 6
  r : ∀ r ∈ rs, 0 ≤ r.1 ∧ r.1 ≤ 99 ∧ r.2.length = ss.length ∧ ∀ x ∈ r.2, 1 ≤ x ∧ x ≤ 60
theorem isI_all (l : List Int) : (l.map PyData.int).all isI = true := by
  rw [List.all_map]
  exact List.all_eq_true.mpr fun _ _ => rfl
theorem rowB_tI (l : List Int) : rowB (tI l) = true := isI_all l
theorem formB_tD (ss : List Int) (l : Int) (rs : List (Int × List Int)) : formB (tD ss l rs) = true := by
  show (rowB (tI ss) && (isI (.int l) && (rs.map rD2).all rateB)) = true
  rw [rowB_tI, List.all_map]
  have : rs.all (rateB ∘ rD2) = true := List.all_eq_true.mpr fun r _ => by
    show (isI (.int r.1) && rowB (tI r.2)) = true
    rw [rowB_tI]; rfl
  rw [this]; rfl
theorem btw_all {l : List Int} {a b : Int} (h : ∀ x ∈ l, a ≤ x ∧ x ≤ b) : (l.map PyData.int).all (btw a b) = true := by
  rw [List.all_map]
  refine List.all_eq_true.mpr fun x hx => ?_
  obtain ⟨h1, h2⟩ := h x hx
  show (decide (a ≤ x) && decide (x ≤ b)) = true
  simp [h1, h2]
theorem due_tD (ss : List Int) (l : Int) (rs : List (Int × List Int)) : dueS (tD ss l rs) = dueT (ss.map .int) l (rs.map rD2) := by
  unfold dueS
  rw [formB_tD, if_pos rfl]
  rfl
theorem due_right {ss : List Int} {l : Int} {rs : List (Int × List Int)} (h : Right 40 ss l rs) : dueS (tD ss l rs) = none := by
  obtain ⟨h1, h2, h3, h4, h5, h6, h7, h8⟩ := h
  rw [due_tD]
  unfold dueT
  have e1 := btw_all h3
  have e2 : (rs.map rD2).all (rateOk (ss.map PyData.int).length) = true := by
    rw [List.all_map]
    refine List.all_eq_true.mpr fun r hr => ?_
    obtain ⟨a, b, c, d⟩ := h8 r hr
    show ((decide (0 ≤ r.1) && decide (r.1 ≤ 99)) && (decide (((r.2.map PyData.int).length : Int) = ((ss.map PyData.int).length : Nat)) && (r.2.map PyData.int).all (btw 1 60))) = true
    rw [btw_all d]
    simp [a, b, c]
  rw [e1, e2]
  have g1 : 1 ≤ (ss.length : Int) := by omega
  have g2 : (ss.length : Int) ≤ 40 := by omega
  have g3 : 1 ≤ (rs.length : Int) := by omega
  have g4 : (rs.length : Int) ≤ 6 := by omega
  simp [g1, g2, g3, g4, h4, h5]
  try omega
theorem due_long {ss : List Int} {l : Int} {rs : List (Int × List Int)} (h : 40 < ss.length) : dueS (tD ss l rs) = some "spans" := by
  rw [due_tD]
  unfold dueT
  have g2 : ¬ (ss.length : Int) ≤ 40 := by omega
  simp [g2]
theorem atom_int {i : Int} : atom (.int i) := trivial
theorem okV_tI {b h : Nat} {l : List Int} (hl : l.length ≤ b) : okV b (h + 1) (tI l) := okV_tup (by simpa using hl) fun x hx => by
  obtain ⟨i, _, rfl⟩ := List.mem_map.mp hx
  exact okV_atom trivial
theorem okV_tD {ss : List Int} {l : Int} {rs : List (Int × List Int)} (h1 : ss.length ≤ 1000) (h2 : rs.length ≤ 1000) (h3 : ∀ r ∈ rs, r.2.length ≤ 1000) : okV 1000 4 (tD ss l rs) := by
  refine okV_tup (by simp) fun x hx => ?_
  rcases List.mem_cons.mp hx with rfl | hx
  · exact okV_tI h1
  · rcases List.mem_cons.mp hx with rfl | hx
    · exact okV_atom trivial
    · rw [List.mem_singleton.mp hx]
      refine okV_tup (by simpa using h2) fun y hy => ?_
      obtain ⟨r, hr, rfl⟩ := List.mem_map.mp hy
      refine okV_tup (by simp) fun z hz => ?_
      rcases List.mem_cons.mp hz with rfl | hz
      · exact okV_atom trivial
      · rw [List.mem_singleton.mp hz]
        exact okV_tI (h := 0) (h3 r hr)
/-- its text is short -/
theorem gd_tI {l : List Int} {m : Nat} (hl : l.length ≤ m) (hb : ∀ x ∈ l, x.natAbs < 10 ^ 40) : Gd 1 (3 + m * 43) (tI l) := by
  refine (Gd.tup (h := 0) (w := 41) fun x hx => ?_).mono (Nat.le_refl _) (by simp; omega)
  obtain ⟨i, hi, rfl⟩ := List.mem_map.mp hx
  exact Gd.int (hb i hi)
theorem gd_right {ss : List Int} {l : Int} {rs : List (Int × List Int)} (h : Right 40 ss l rs) : Gd 4 100000 (tD ss l rs) := by
  obtain ⟨h1, h2, h3, h4, h5, h6, h7, h8⟩ := h
  have small : ∀ {x : Int}, -1 ≤ x → x ≤ 100 → x.natAbs < 10 ^ 40 := fun {x} a b => Nat.lt_of_lt_of_le (show x.natAbs < 101 by omega) (by decide)
  have g1 : Gd 1 (3 + 40 * 43) (tI ss) := gd_tI h2 fun x hx => small (by have := (h3 x hx).1; omega) (by have := (h3 x hx).2; omega)
  have g2 : Gd 2 4000 (.tuple []) := (Gd.tup (h := 0) (w := 0) (xs := []) fun x hx => (nomatch hx)).mono (by omega) (by simp)
  have g3 : ∀ y ∈ rs.map rD2, Gd 2 3600 y := fun y hy => by
    obtain ⟨r, hr, rfl⟩ := List.mem_map.mp hy
    obtain ⟨a, b, c, d⟩ := h8 r hr
    refine (Gd.tup (h := 1) (w := 3 + 40 * 43) (xs := [.int r.1, tI r.2]) fun z hz => ?_).mono (Nat.le_refl _) (by simp)
    rcases List.mem_cons.mp hz with rfl | hz
    · exact (Gd.int (small (by omega) (by omega))).mono (by omega) (by omega)
    · rw [List.mem_singleton.mp hz]
      exact gd_tI (by omega) fun x hx => small (by have := (d x hx).1; omega) (by have := (d x hx).2; omega)
  refine (Gd.tup (h := 3) (w := 3 + 6 * 3602) (xs := [tI ss, .int l, .tuple (rs.map rD2)]) fun z hz => ?_).mono (Nat.le_refl _) (by simp)
  rcases List.mem_cons.mp hz with rfl | hz
  · exact g1.mono (by omega) (by omega)
  · rcases List.mem_cons.mp hz with rfl | hz
    · exact (Gd.int (small (by omega) (by omega))).mono (by omega) (by omega)
    · rw [List.mem_singleton.mp hz]
      exact (Gd.tup g3).mono (by omega) (by simp; omega)
theorem sz100000 : (100000 : Nat) ≤ sizeLine := by rw [sizeLine_eq]; decide
/-! ## following -/
theorem F15 (k : Nat) (ss : List Int) (l p : Int) (rs : List (Int × List Int)) : Fd k 15 [.fz (tD ss l rs), .fz (.int p)] = .ret (.fr (.int (if p + 1 < (ss.length : Int) then p + 1 else l))) [.none, .none] := by
  rw [U15]
  by_cases h : p + 1 < (ss.length : Int)
  · simp [evDef, sv, ev, Fl.of, Ev.val, Ev.no, Ev.itr, opd_pk, opd_io, opd_var, opd_cst, opd_glb, opd_op, opd_chn, opd_slc, opd_and, opd_or, opd_not, opd_ife, opd_call, opd_lc, Ou.bd, zOp, opdl, retains, rsl, Z.rs, frl, opD, binD, cmpD, Ou.of, slD, atI, ixN, eqv_int, shaped_int, dbl, dint, zVar, zPkT, putR, ownAt, R.sl, R.d, finD, truD, zCall, locT, cstC, argsS, argS, ioIx, afterCall, putBack, zAnd, zOr, zNot, zChn, zSlc, slcD, cutD, Tg.put, setAll, seqD, isTy_tt, fmtOk, fitL, zRng1, zRng2, smallI, zChn3, zLrg1, zLrg2, zEnm, zZip, opd_chn3, opd_lrg1, opd_lrg2, c_following, tD, tI, h]
  · simp [evDef, sv, ev, Fl.of, Ev.val, Ev.no, Ev.itr, opd_pk, opd_io, opd_var, opd_cst, opd_glb, opd_op, opd_chn, opd_slc, opd_and, opd_or, opd_not, opd_ife, opd_call, opd_lc, Ou.bd, zOp, opdl, retains, rsl, Z.rs, frl, opD, binD, cmpD, Ou.of, slD, atI, ixN, eqv_int, shaped_int, dbl, dint, zVar, zPkT, putR, ownAt, R.sl, R.d, finD, truD, zCall, locT, cstC, argsS, argS, ioIx, afterCall, putBack, zAnd, zOr, zNot, zChn, zSlc, slcD, cutD, Tg.put, setAll, seqD, isTy_tt, fmtOk, fitL, zRng1, zRng2, smallI, zChn3, zLrg1, zLrg2, zEnm, zZip, opd_chn3, opd_lrg1, opd_lrg2, c_following, tD, tI, h]
end Z

set_option Elab.async false
set_option linter.all false
set_option maxRecDepth 100000
set_option maxHeartbeats 0
namespace Z
open PySem PySem.Spec PyProof.Rows L2
/-! ## unrolled -/
def rgI (lo hi : Int) : List Int := (List.range (hi - lo).toNat).map fun (i : Nat) => lo + (i : Int)
theorem rangeD_eq (lo hi : Int) : rangeD lo hi = (rgI lo hi).map .int := by
  unfold rangeD rgI
  rw [List.map_map]; rfl
theorem rgI_len (lo hi : Int) : (rgI lo hi).length = (hi - lo).toNat := by unfold rgI; simp
theorem rgI_mem {lo hi x : Int} (h : x ∈ rgI lo hi) : lo ≤ x ∧ x < hi := by
  unfold rgI at h
  obtain ⟨i, hi', rfl⟩ := List.mem_map.mp h
  have := List.mem_range.mp hi'
  omega
def ordU (n : Nat) (l t : Int) : List Int := rgI 0 n ++ (if 0 ≤ l then (List.replicate (if 40 < t then 40 else t).toNat (rgI l n)).flatten else [])
def ix (ss : List Int) (i : Int) : Int := (ss[i.toNat]?).getD 0
def toI : PyData → Int
  | .int i => i
  | _ => 0
def mkT (ss : List Int) (rs : List (Int × List Int)) (ord : List Int) : PyData := tD (ord.map (ix ss)) (-1) (rs.map fun r => (r.1, ord.map (ix r.2)))
theorem map_ix (ss ord : List Int) : (ord.map PyData.int).map (fun x => PyData.int (ix ss (toI x))) = (ord.map (ix ss)).map .int := by
  rw [List.map_map, List.map_map]; rfl
section
variable {T : Tb} {C : Nat → Option PyData}
theorem LU0 {ss : List Int} {l : Int} {rs : List (Int × List Int)} {ord : List Int} (hl : ord.length ≤ sizeLine) (ho : ∀ i ∈ ord, 0 ≤ i ∧ i < (ss.length : Int)) (tu s3 s4 s5 s7 s8 o : Sl) (hoo : o = .fz (.list (ord.map .int)) ∨ o = .ow (.list (ord.map .int))) :
    (ev T C l_unrolled_0).e [.fz (tD ss l rs), tu, o, s3, s4, s5, .un, s7, s8] = .ok (.nw (.list ((ord.map (ix ss)).map .int))) [.fz (tD ss l rs), tu, .fz (.list (ord.map .int)), s3, s4, s5, .un, s7, s8] := by
  have h := zLc_look (tg := .nm 6) (own := [6]) (fi := (ev T C (.var 2)).i) (fc := (ev T C .yes).t) (fe := (ev T C (.op .idx (.cons (.op .idx (.cons (.pk 0) (.cons (.cst (.int 0)) .nil))) (.cons (.pk 6) .nil)))).e)
    (n := [.fz (tD ss l rs), tu, o, s3, s4, s5, .un, s7, s8]) (n1 := [.fz (tD ss l rs), tu, .fz (.list (ord.map .int)), s3, s4, s5, .un, s7, s8]) (n0 := [.fz (tD ss l rs), tu, .fz (.list (ord.map .int)), s3, s4, s5, .un, s7, s8]) (xs := ord.map .int) (p := fun _ => true) (f := fun x => .int (ix ss (toI x)))
    (by rcases hoo with rfl | rfl <;> rfl) rfl rfl rfl (fun x hx => by
      obtain ⟨i, hi, rfl⟩ := List.mem_map.mp hx
      obtain ⟨h0, h1⟩ := ho i hi
      have h2 : i.toNat < ss.length := by omega
      refine ⟨[.fz (tD ss l rs), tu, .fz (.list (ord.map .int)), s3, s4, s5, .fz (.int i), s7, s8], rfl, rfl, rfl, fun _ => ⟨.fr (.int (ix ss i)), ?_, rfl⟩⟩
      simp [evDef, sv, ev, Fl.of, Ev.val, Ev.no, Ev.itr, opd_pk, opd_io, opd_var, opd_cst, opd_glb, opd_op, opd_chn, opd_slc, opd_and, opd_or, opd_not, opd_ife, opd_call, opd_lc, Ou.bd, zOp, opdl, retains, rsl, Z.rs, frl, opD, binD, cmpD, Ou.of, slD, atI, ixN, eqv_int, shaped_int, dbl, dint, zVar, zPkT, putR, ownAt, R.sl, R.d, finD, truD, zCall, locT, cstC, argsS, argS, ioIx, afterCall, putBack, zAnd, zOr, zNot, zChn, zSlc, slcD, cutD, Tg.put, setAll, seqD, isTy_tt, fmtOk, fitL, zRng1, zRng2, smallI, zChn3, zLrg1, zLrg2, zEnm, zZip, opd_chn3, opd_lrg1, opd_lrg2, tD, tI, ix, h0, h1, h2]) (by simpa using hl)
  rw [ft, map_ix] at h
  exact h
theorem LU1 {sz : List Int} {ord : List Int} (hl : ord.length ≤ sizeLine) (ho : ∀ i ∈ ord, 0 ≤ i ∧ i < (sz.length : Int)) (s0 tu s3 s4 s5 s7 : Sl) :
    (ev T C l_unrolled_1).e [s0, tu, .fz (.list (ord.map .int)), s3, s4, s5, .un, s7, .fz (tI sz)] = .ok (.nw (.list ((ord.map (ix sz)).map .int))) [s0, tu, .fz (.list (ord.map .int)), s3, s4, s5, .un, s7, .fz (tI sz)] := by
  have h := zLc_look (tg := .nm 6) (own := [6]) (fi := (ev T C (.var 2)).i) (fc := (ev T C .yes).t) (fe := (ev T C (.op .idx (.cons (.pk 8) (.cons (.pk 6) .nil)))).e)
    (n := [s0, tu, .fz (.list (ord.map .int)), s3, s4, s5, .un, s7, .fz (tI sz)]) (n1 := [s0, tu, .fz (.list (ord.map .int)), s3, s4, s5, .un, s7, .fz (tI sz)]) (n0 := [s0, tu, .fz (.list (ord.map .int)), s3, s4, s5, .un, s7, .fz (tI sz)]) (xs := ord.map .int) (p := fun _ => true) (f := fun x => .int (ix sz (toI x)))
    rfl rfl rfl rfl (fun x hx => by
      obtain ⟨i, hi, rfl⟩ := List.mem_map.mp hx
      obtain ⟨h0, h1⟩ := ho i hi
      have h2 : i.toNat < sz.length := by omega
      refine ⟨[s0, tu, .fz (.list (ord.map .int)), s3, s4, s5, .fz (.int i), s7, .fz (tI sz)], rfl, rfl, rfl, fun _ => ⟨.fr (.int (ix sz i)), ?_, rfl⟩⟩
      simp [evDef, sv, ev, Fl.of, Ev.val, Ev.no, Ev.itr, opd_pk, opd_io, opd_var, opd_cst, opd_glb, opd_op, opd_chn, opd_slc, opd_and, opd_or, opd_not, opd_ife, opd_call, opd_lc, Ou.bd, zOp, opdl, retains, rsl, Z.rs, frl, opD, binD, cmpD, Ou.of, slD, atI, ixN, eqv_int, shaped_int, dbl, dint, zVar, zPkT, putR, ownAt, R.sl, R.d, finD, truD, zCall, locT, cstC, argsS, argS, ioIx, afterCall, putBack, zAnd, zOr, zNot, zChn, zSlc, slcD, cutD, Tg.put, setAll, seqD, isTy_tt, fmtOk, fitL, zRng1, zRng2, smallI, zChn3, zLrg1, zLrg2, zEnm, zZip, opd_chn3, opd_lrg1, opd_lrg2, tI, ix, h0, h1, h2]) (by simpa using hl)
  rw [ft, map_ix] at h
  exact h
theorem oLU0 {f : En → Ou R} {n : En} : opd l_unrolled_0 f n = (f n).bd fun r n1 => .ok (.dd r.d) n1 := rfl
theorem oLU1 {f : En → Ou R} {n : En} : opd l_unrolled_1 f n = (f n).bd fun r n1 => .ok (.dd r.d) n1 := rfl
theorem oLU2 {f : En → Ou R} {n : En} : opd l_unrolled_2 f n = (f n).bd fun r n1 => .ok (.dd r.d) n1 := rfl
def toR : PyData → Int × List PyData
  | .tuple [.int q, .tuple sz] => (q, sz)
  | _ => (0, [])
theorem LU2 {ss : List Int} {l : Int} {rs : List (Int × List Int)} {ord : List Int} (hl : ord.length ≤ sizeLine) (hr : rs.length ≤ sizeLine) (ho : ∀ r ∈ rs, ∀ i ∈ ord, 0 ≤ i ∧ i < (r.2.length : Int)) (tu s3 s4 s5 : Sl) :
    (ev T C l_unrolled_2).e [.fz (tD ss l rs), tu, .fz (.list (ord.map .int)), s3, s4, s5, .un, .un, .un] = .ok (.nw (.list ((rs.map fun r => (r.1, ord.map (ix r.2))).map rD2))) [.fz (tD ss l rs), tu, .fz (.list (ord.map .int)), s3, s4, s5, .un, .un, .un] := by
  have z2 : (2 : Nat) ≤ sizeLine := by rw [sizeLine_eq]; decide
  have h := zLc_look (tg := .tp [7, 8]) (own := [7, 8]) (fi := (ev T C (.op .idx (.cons (.pk 0) (.cons (.cst (.int 2)) .nil)))).i) (fc := (ev T C .yes).t) (fe := (ev T C (.op .tup (.cons (.var 7) (.cons (.op .tupOf (.cons l_unrolled_1 .nil)) .nil)))).e)
    (n := [.fz (tD ss l rs), tu, .fz (.list (ord.map .int)), s3, s4, s5, .un, .un, .un]) (n1 := [.fz (tD ss l rs), tu, .fz (.list (ord.map .int)), s3, s4, s5, .un, .un, .un]) (n0 := [.fz (tD ss l rs), tu, .fz (.list (ord.map .int)), s3, s4, s5, .un, .un, .un]) (xs := rs.map rD2) (p := fun _ => true)
    (f := fun x => rD2 ((toR x).1, ord.map (ix ((toR x).2.map toI))))
    (by simp [evDef, sv, ev, Fl.of, Ev.val, Ev.no, Ev.itr, opd_pk, opd_io, opd_var, opd_cst, opd_glb, opd_op, opd_chn, opd_slc, opd_and, opd_or, opd_not, opd_ife, opd_call, opd_lc, Ou.bd, zOp, opdl, retains, rsl, Z.rs, frl, opD, binD, cmpD, Ou.of, slD, atI, ixN, eqv_int, shaped_int, dbl, dint, zVar, zPkT, putR, ownAt, R.sl, R.d, finD, truD, zCall, locT, cstC, argsS, argS, ioIx, afterCall, putBack, zAnd, zOr, zNot, zChn, zSlc, slcD, cutD, Tg.put, setAll, seqD, isTy_tt, fmtOk, fitL, zRng1, zRng2, smallI, zChn3, zLrg1, zLrg2, zEnm, zZip, opd_chn3, opd_lrg1, opd_lrg2, tD]) rfl rfl rfl (fun x hx => by
      obtain ⟨r, hr', rfl⟩ := List.mem_map.mp hx
      have e := LU1 (T := T) (C := C) hl (ho r hr') (.fz (tD ss l rs)) tu s3 s4 s5 (.fz (.int r.1))
      refine ⟨[.fz (tD ss l rs), tu, .fz (.list (ord.map .int)), s3, s4, s5, .un, .fz (.int r.1), .fz (tI r.2)], rfl, rfl, rfl, fun _ => ⟨.fr (rD2 (r.1, ord.map (ix r.2))), ?_, ?_⟩⟩
      · simp [evDef, sv, ev, Fl.of, Ev.val, Ev.no, Ev.itr, opd_pk, opd_io, opd_var, opd_cst, opd_glb, opd_op, opd_chn, opd_slc, opd_and, opd_or, opd_not, opd_ife, opd_call, opd_lc, Ou.bd, zOp, opdl, retains, rsl, Z.rs, frl, opD, binD, cmpD, Ou.of, slD, atI, ixN, eqv_int, shaped_int, dbl, dint, zVar, zPkT, putR, ownAt, R.sl, R.d, finD, truD, zCall, locT, cstC, argsS, argS, ioIx, afterCall, putBack, zAnd, zOr, zNot, zChn, zSlc, slcD, cutD, Tg.put, setAll, seqD, isTy_tt, fmtOk, fitL, zRng1, zRng2, smallI, zChn3, zLrg1, zLrg2, zEnm, zZip, opd_chn3, opd_lrg1, opd_lrg2, oLU1, e, z2, rD2]
        simp only [tI, List.map_map]
      · show rD2 _ = rD2 (r.1, ord.map (ix ((r.2.map PyData.int).map toI)))
        rw [List.map_map, show toI ∘ PyData.int = id from rfl, List.map_id]) (by simpa using hr)
  rw [ft] at h
  have e : (rs.map rD2).map (fun x => rD2 ((toR x).1, ord.map (ix ((toR x).2.map toI)))) = (rs.map fun r => (r.1, ord.map (ix r.2))).map rD2 := by
    rw [List.map_map, List.map_map]
    refine List.map_congr_left fun r _ => ?_
    show rD2 (r.1, ord.map (ix ((r.2.map PyData.int).map toI))) = _
    rw [List.map_map, show toI ∘ PyData.int = id from rfl, List.map_id]
    rfl
  rw [e] at h
  exact h
end
theorem rng_ok2 {m : Int} (h0 : -1000 ≤ m) (h1 : m ≤ 1000) : rngOk m = true := by
  unfold rngOk
  exact decide_eq_true ⟨by omega, by omega⟩
theorem rep_len (m : Nat) (l : List Int) : (List.replicate m l).flatten.length = m * l.length := by
  induction m with
  | zero => simp
  | succ m ih => rw [List.replicate_succ, List.flatten_cons, List.length_append, ih, Nat.succ_mul]; omega
theorem rep_map (m : Nat) (l : List Int) : (List.replicate m (l.map PyData.int)).flatten = ((List.replicate m l).flatten).map .int := by
  induction m with
  | zero => rfl
  | succ m ih => rw [List.replicate_succ, List.flatten_cons, ih, List.replicate_succ, List.flatten_cons, List.map_append]
theorem ordU_mem {n : Nat} {l t x : Int} (h : x ∈ ordU n l t) : 0 ≤ x ∧ x < n := by
  unfold ordU at h
  rcases List.mem_append.mp h with h | h
  · exact rgI_mem h
  · split at h
    · obtain ⟨y, hy, hx⟩ := List.mem_flatten.mp h
      rw [(List.mem_replicate.mp hy).2] at hx
      have := rgI_mem hx
      omega
    · cases h
theorem ordU_len (n : Nat) (l t : Int) (hl : l < n) : (ordU n l t).length ≤ n + 40 * n := by
  unfold ordU
  rw [List.length_append, rgI_len]
  split
  · rw [rep_len, rgI_len]
    have : (if 40 < t then 40 else t).toNat * ((n : Int) - l).toNat ≤ 40 * n := Nat.mul_le_mul (by split <;> omega) (by omega)
    omega
  · simp
/-- a wrong title -/
theorem F16x (k b h : Nat) (hb : b ≤ sizeLine) {v t : PyData} {s : Str} (q : okV b h v) (hs : dueS v = some s) : Fd (k + 4) 16 [.fz v, .fz t] = .ex 1 (.str s) [.none, .none] := by
  have e := F4 k b h hb q
  unfold outC at e
  rw [hs] at e
  rw [U16]
  simp [evDef, sv, ev, Fl.of, Ev.val, Ev.no, Ev.itr, opd_pk, opd_io, opd_var, opd_cst, opd_glb, opd_op, opd_chn, opd_slc, opd_and, opd_or, opd_not, opd_ife, opd_call, opd_lc, Ou.bd, zOp, opdl, retains, rsl, Z.rs, frl, opD, binD, cmpD, Ou.of, slD, atI, ixN, eqv_int, shaped_int, dbl, dint, zVar, zPkT, putR, ownAt, R.sl, R.d, finD, truD, zCall, locT, cstC, argsS, argS, ioIx, afterCall, putBack, zAnd, zOr, zNot, zChn, zSlc, slcD, cutD, Tg.put, setAll, seqD, isTy_tt, fmtOk, fitL, zRng1, zRng2, smallI, zChn3, zLrg1, zLrg2, zEnm, zZip, opd_chn3, opd_lrg1, opd_lrg2, c_unrolled, T4, e]
abbrev TU (k : Nat) : Tb := locT c_unrolled.calls (tbl cs (k + 4))
abbrev CU : Nat → Option PyData := cstC c_unrolled.gcs
theorem nI_len (ss : List Int) : (ss.map PyData.int).length = ss.length := List.length_map ..
theorem lenR (lo hi : Int) : (rangeD lo hi).length = (hi - lo).toNat := by rw [rangeD_eq, List.length_map, rgI_len]
theorem s1U (k : Nat) {ss : List PyData} {l : Int} {rs : List PyData} (r0 : rngOk (ss.length : Int) = true) (r1 : ss.length ≤ 16777216) (tu : Sl) :
    sv (TU k) CU (.set (.nm 2) (.lrg1 (.op .len (.cons (.op .idx (.cons (.pk 0) (.cons (.cst (.int 0)) .nil))) .nil)))) [.fz (.tuple [.tuple ss, .int l, .tuple rs]), tu, .un, .un, .un, .un, .un, .un, .un] = .nx [.fz (.tuple [.tuple ss, .int l, .tuple rs]), tu, .ow (.list (rangeD 0 ss.length)), .un, .un, .un, .un, .un, .un] := by
  refine sv_set (r := .nw (.list (rangeD 0 ss.length))) (n1 := [.fz (.tuple [.tuple ss, .int l, .tuple rs]), tu, .un, .un, .un, .un, .un, .un, .un]) (t := .un) (lrg1_ok (p := .dd (.int ss.length)) (i := ss.length) (by simp [evDef, sv, ev, Fl.of, Ev.val, Ev.no, Ev.itr, opd_pk, opd_io, opd_var, opd_cst, opd_glb, opd_op, opd_chn, opd_slc, opd_and, opd_or, opd_not, opd_ife, opd_call, opd_lc, Ou.bd, zOp, opdl, retains, rsl, Z.rs, frl, opD, binD, cmpD, Ou.of, slD, atI, ixN, eqv_int, shaped_int, dbl, dint, zVar, zPkT, putR, ownAt, R.sl, R.d, finD, truD, zCall, locT, cstC, argsS, argS, ioIx, afterCall, putBack, zAnd, zOr, zNot, zChn, zSlc, slcD, cutD, Tg.put, setAll, seqD, isTy_tt, fmtOk, fitL, zRng1, zRng2, smallI, zChn3, zLrg1, zLrg2, zEnm, zZip, opd_chn3, opd_lrg1, opd_lrg2]) rfl r0 (by omega)) rfl rfl
theorem v1U {T : Tb} {C : Nat → Option PyData} {ss : List PyData} {l : Int} {rs : List PyData} (r0 : rngOk (ss.length : Int) = true) (r2 : rngOk l = true) (r4 : (ss.length : Int) - l ≤ 16777216) (tu o : Sl) :
    (ev T C (.lrg2 (.op .idx (.cons (.pk 0) (.cons (.cst (.int 1)) .nil))) (.op .len (.cons (.op .idx (.cons (.pk 0) (.cons (.cst (.int 0)) .nil))) .nil)))).e [.fz (.tuple [.tuple ss, .int l, .tuple rs]), tu, o, .un, .un, .un, .un, .un, .un] = .ok (.nw (.list (rangeD l ss.length))) [.fz (.tuple [.tuple ss, .int l, .tuple rs]), tu, o, .un, .un, .un, .un, .un, .un] := by
  exact lrg2_ok (p := .dd (.int l)) (q := .dd (.int ss.length)) (n1 := [.fz (.tuple [.tuple ss, .int l, .tuple rs]), tu, o, .un, .un, .un, .un, .un, .un]) (by simp [evDef, sv, ev, Fl.of, Ev.val, Ev.no, Ev.itr, opd_pk, opd_io, opd_var, opd_cst, opd_glb, opd_op, opd_chn, opd_slc, opd_and, opd_or, opd_not, opd_ife, opd_call, opd_lc, Ou.bd, zOp, opdl, retains, rsl, Z.rs, frl, opD, binD, cmpD, Ou.of, slD, atI, ixN, eqv_int, shaped_int, dbl, dint, zVar, zPkT, putR, ownAt, R.sl, R.d, finD, truD, zCall, locT, cstC, argsS, argS, ioIx, afterCall, putBack, zAnd, zOr, zNot, zChn, zSlc, slcD, cutD, Tg.put, setAll, seqD, isTy_tt, fmtOk, fitL, zRng1, zRng2, smallI, zChn3, zLrg1, zLrg2, zEnm, zZip, opd_chn3, opd_lrg1, opd_lrg2]) (by simp [evDef, sv, ev, Fl.of, Ev.val, Ev.no, Ev.itr, opd_pk, opd_io, opd_var, opd_cst, opd_glb, opd_op, opd_chn, opd_slc, opd_and, opd_or, opd_not, opd_ife, opd_call, opd_lc, Ou.bd, zOp, opdl, retains, rsl, Z.rs, frl, opD, binD, cmpD, Ou.of, slD, atI, ixN, eqv_int, shaped_int, dbl, dint, zVar, zPkT, putR, ownAt, R.sl, R.d, finD, truD, zCall, locT, cstC, argsS, argS, ioIx, afterCall, putBack, zAnd, zOr, zNot, zChn, zSlc, slcD, cutD, Tg.put, setAll, seqD, isTy_tt, fmtOk, fitL, zRng1, zRng2, smallI, zChn3, zLrg1, zLrg2, zEnm, zZip, opd_chn3, opd_lrg1, opd_lrg2]) rfl rfl r2 r0 (by omega)
theorem v2U {t : Int} (s0 o : Sl) : ∀ (T : Tb), (ev T CU (.op .min2 (.cons (.pk 1) (.cons (.glb 0) .nil)))).e [s0, .fz (.int t), o, .un, .un, .un, .un, .un, .un] = .ok (.fr (.int (if 40 < t then 40 else t))) [s0, .fz (.int t), o, .un, .un, .un, .un, .un, .un] := fun T => by
  simp only [CU, c_unrolled]
  simp [evDef, sv, ev, Fl.of, Ev.val, Ev.no, Ev.itr, opd_pk, opd_io, opd_var, opd_cst, opd_glb, opd_op, opd_chn, opd_slc, opd_and, opd_or, opd_not, opd_ife, opd_call, opd_lc, Ou.bd, zOp, opdl, retains, rsl, Z.rs, frl, opD, binD, cmpD, Ou.of, slD, atI, ixN, eqv_int, shaped_int, dbl, dint, zVar, zPkT, putR, ownAt, R.sl, R.d, finD, truD, zCall, locT, cstC, argsS, argS, ioIx, afterCall, putBack, zAnd, zOr, zNot, zChn, zSlc, slcD, cutD, Tg.put, setAll, seqD, isTy_tt, fmtOk, fitL, zRng1, zRng2, smallI, zChn3, zLrg1, zLrg2, zEnm, zZip, opd_chn3, opd_lrg1, opd_lrg2]
theorem v3U {T : Tb} {C : Nat → Option PyData} {n : En} {a b : E} {x y z : R} (oa : ∀ f n, opd a f n = (f n).bd fun r n1 => .ok (.dd r.d) n1) (ob : ∀ f n, opd b f n = (f n).bd fun r n1 => .ok (.dd r.d) n1) {o : BOp} (ha : (ev T C a).e n = .ok x n) (hb : (ev T C b).e n = .ok y n) (h : binD o x.d y.d = some z) : (ev T C (.op (.bin o) (.cons a (.cons b .nil)))).e n = .ok z n := by
  show zOp (.bin o) (ev T C (.cons a (.cons b .nil))).l n = _
  rw [zOp_two, oa, ha]
  dsimp only [Ou.bd]
  rw [ob, hb]
  have eo : ∀ n ps, opdl (.bin o) n ps = rsl n ps := fun _ _ => rfl
  simp only [eo, rsl, Z.rs, Option.bind, Option.map, opD, h, Ou.of, Ou.bd]
theorem s2U (k : Nat) {ss : List PyData} {l t : Int} {rs : List PyData} (h5 : l < ss.length) (h2 : ss.length ≤ 40) (ht : 0 ≤ t) (hn : 0 ≤ l) (r0 : rngOk (ss.length : Int) = true) (r2 : rngOk l = true) :
    sv (TU k) CU (.ife (.op (.cmp .ge) (.cons (.op .idx (.cons (.pk 0) (.cons (.cst (.int 1)) .nil))) (.cons (.cst (.int 0)) .nil)))
   (.cons (.set (.nm 2) (.op (.bin .add) (.cons (.pk 2) (.cons (.op (.bin .mul) (.cons (.lrg2 (.op .idx (.cons (.pk 0) (.cons (.cst (.int 1)) .nil))) (.op .len (.cons (.op .idx (.cons (.pk 0) (.cons (.cst (.int 0)) .nil))) .nil))) (.cons (.op .min2 (.cons (.pk 1) (.cons (.glb 0) .nil))) .nil))) .nil))))
    .nil)
   .nil) [.fz (.tuple [.tuple ss, .int l, .tuple rs]), .fz (.int t), .ow (.list (rangeD 0 ss.length)), .un, .un, .un, .un, .un, .un] = .nx [.fz (.tuple [.tuple ss, .int l, .tuple rs]), .fz (.int t), .ow (.list (rangeD 0 ss.length ++ (List.replicate (if 40 < t then 40 else t).toNat (rangeD l ss.length)).flatten)), .un, .un, .un, .un, .un, .un] := by
  have zz := sz1000
  have w2 : ((ss.length : Int) - l).toNat ≤ 40 := by omega
  have w1 : (if 40 < t then 40 else t).toNat ≤ 40 := by split <;> omega
  have w3 : ((ss.length : Int) - l).toNat * (if 40 < t then 40 else t).toNat ≤ 40 * 40 := Nat.mul_le_mul w2 w1
  have z4 : 1640 ≤ sizeLine := by rw [sizeLine_eq]; decide
  have w4 : ((ss.length : Int) - l).toNat * (if 40 < t then 40 else t).toNat ≤ sizeLine := by omega
  have w5 : ss.length + (if 40 < t then 40 else t).toNat * ((ss.length : Int) - l).toNat ≤ sizeLine := by rw [Nat.mul_comm]; omega
  have w6 : rngOk (if 40 < t then 40 else t) = true := by split <;> exact rng_ok2 (by omega) (by omega)
  have v1 := v1U (T := TU k) (C := CU) (rs := rs) r0 r2 (by omega) (.fz (.int t)) (.ow (.list (rangeD 0 ss.length)))
  have v2 := v2U (t := t) (.fz (.tuple [.tuple ss, .int l, .tuple rs])) (.ow (.list (rangeD 0 ss.length))) (TU k)
  generalize (if 40 < t then 40 else t) = mt at *
  have m3 : binD .mul (.list (rangeD l ss.length)) (.int mt) = some (.nw (.list (List.replicate mt.toNat (rangeD l ss.length)).flatten)) := by
    show (if rngOk mt && fitL _ then _ else _) = _
    rw [w6, lenR, show fitL (((ss.length : Int) - l).toNat * mt.toNat) = true from decide_eq_true w4]
    rfl
  have lenM : (List.replicate mt.toNat (rangeD l (ss.length : Int))).flatten.length = mt.toNat * ((ss.length : Int) - l).toNat := by rw [rangeD_eq, rep_map, List.length_map, rep_len, rgI_len]
  have v3 := v3U (a := .lrg2 (.op .idx (.cons (.pk 0) (.cons (.cst (.int 1)) .nil))) (.op .len (.cons (.op .idx (.cons (.pk 0) (.cons (.cst (.int 0)) .nil))) .nil))) (b := .op .min2 (.cons (.pk 1) (.cons (.glb 0) .nil))) (fun _ _ => rfl) (fun _ _ => rfl) v1 v2 m3
  have w7 : (rangeD 0 (ss.length : Int)).length + (List.replicate mt.toNat (rangeD l (ss.length : Int))).flatten.length ≤ sizeLine := by
    rw [lenM, lenR]; omega
  generalize (List.replicate mt.toNat (rangeD l (ss.length : Int))).flatten = MM at *
  generalize rangeD 0 (ss.length : Int) = R0 at *
  generalize hE : (E.op (.bin .mul) (.cons (.lrg2 (.op .idx (.cons (.pk 0) (.cons (.cst (.int 1)) .nil))) (.op .len (.cons (.op .idx (.cons (.pk 0) (.cons (.cst (.int 0)) .nil))) .nil))) (.cons (.op .min2 (.cons (.pk 1) (.cons (.glb 0) .nil))) .nil))) = EM at *
  have oE : ∀ f n, opd EM f n = (f n).bd fun r n1 => .ok (.dd r.d) n1 := fun f n => by rw [← hE]; rfl
  simp [evDef, sv, ev, Fl.of, Ev.val, Ev.no, Ev.itr, opd_pk, opd_io, opd_var, opd_cst, opd_glb, opd_op, opd_chn, opd_slc, opd_and, opd_or, opd_not, opd_ife, opd_call, opd_lc, Ou.bd, zOp, opdl, retains, rsl, Z.rs, frl, opD, binD, cmpD, Ou.of, slD, atI, ixN, eqv_int, shaped_int, dbl, dint, zVar, zPkT, putR, ownAt, R.sl, R.d, finD, truD, zCall, locT, cstC, argsS, argS, ioIx, afterCall, putBack, zAnd, zOr, zNot, zChn, zSlc, slcD, cutD, Tg.put, setAll, seqD, isTy_tt, fmtOk, fitL, zRng1, zRng2, smallI, zChn3, zLrg1, zLrg2, zEnm, zZip, opd_chn3, opd_lrg1, opd_lrg2, hn, oE, v3, w7]
theorem s2U0 (k : Nat) {ss : List PyData} {l t : Int} {rs : List PyData} (hn : ¬ 0 ≤ l) (a : S) (o : Sl) :
    sv (TU k) CU (.ife (.op (.cmp .ge) (.cons (.op .idx (.cons (.pk 0) (.cons (.cst (.int 1)) .nil))) (.cons (.cst (.int 0)) .nil))) a .nil) [.fz (.tuple [.tuple ss, .int l, .tuple rs]), .fz (.int t), o, .un, .un, .un, .un, .un, .un] = .nx [.fz (.tuple [.tuple ss, .int l, .tuple rs]), .fz (.int t), o, .un, .un, .un, .un, .un, .un] := by
  simp [evDef, sv, ev, Fl.of, Ev.val, Ev.no, Ev.itr, opd_pk, opd_io, opd_var, opd_cst, opd_glb, opd_op, opd_chn, opd_slc, opd_and, opd_or, opd_not, opd_ife, opd_call, opd_lc, Ou.bd, zOp, opdl, retains, rsl, Z.rs, frl, opD, binD, cmpD, Ou.of, slD, atI, ixN, eqv_int, shaped_int, dbl, dint, zVar, zPkT, putR, ownAt, R.sl, R.d, finD, truD, zCall, locT, cstC, argsS, argS, ioIx, afterCall, putBack, zAnd, zOr, zNot, zChn, zSlc, slcD, cutD, Tg.put, setAll, seqD, isTy_tt, fmtOk, fitL, zRng1, zRng2, smallI, zChn3, zLrg1, zLrg2, zEnm, zZip, opd_chn3, opd_lrg1, opd_lrg2, hn]
theorem bodyU (k : Nat) {ss S1 R1 O rs : List PyData} {l t : Int} {M : PyData} (hm : M = .tuple [.tuple S1, .int (-1), .tuple R1]) (e1 : Fd (k + 3) 4 [.fz (.tuple [.tuple ss, .int l, .tuple rs])] = .ret (.fr .none) [.none]) (e3 : Fd (k + 3) 4 [.fz M] = outC M)
    (z3 : 3 ≤ sizeLine) (h5 : l < ss.length) (h2 : ss.length ≤ 40) (ht : 0 ≤ t) (r0 : rngOk (ss.length : Int) = true) (r1 : ss.length ≤ 16777216) (r2 : rngOk l = true)
    (hO : O = if 0 ≤ l then rangeD 0 ss.length ++ (List.replicate (if 40 < t then 40 else t).toNat (rangeD l ss.length)).flatten else rangeD 0 ss.length)
    (l0 : ∀ (tu s3 s4 s5 s7 s8 : Sl), (ev (TU k) CU l_unrolled_0).e [.fz (.tuple [.tuple ss, .int l, .tuple rs]), tu, .ow (.list O), s3, s4, s5, .un, s7, s8] = .ok (.nw (.list S1)) [.fz (.tuple [.tuple ss, .int l, .tuple rs]), tu, .fz (.list O), s3, s4, s5, .un, s7, s8])
    (l2 : ∀ (tu s3 s4 s5 : Sl), (ev (TU k) CU l_unrolled_2).e [.fz (.tuple [.tuple ss, .int l, .tuple rs]), tu, .fz (.list O), s3, s4, s5, .un, .un, .un] = .ok (.nw (.list R1)) [.fz (.tuple [.tuple ss, .int l, .tuple rs]), tu, .fz (.list O), s3, s4, s5, .un, .un, .un]) :
    sv (TU k) CU c_unrolled.body [.fz (.tuple [.tuple ss, .int l, .tuple rs]), .fz (.int t), .un, .un, .un, .un, .un, .un, .un] = match dueS M with
      | none => .rt (.fr M) [.fz (.tuple [.tuple ss, .int l, .tuple rs]), .fz (.int t), .fz (.list O), .fz (.tuple S1), .fz (.tuple R1), .fz M, .un, .un, .un]
      | some s => .ex 1 (.str s) [.fz (.tuple [.tuple ss, .int l, .tuple rs]), .fz (.int t), .fz (.list O), .fz (.tuple S1), .fz (.tuple R1), .fz M, .un, .un, .un] := by
  refine sv_nx (n1 := [.fz (.tuple [.tuple ss, .int l, .tuple rs]), .fz (.int t), .un, .un, .un, .un, .un, .un, .un]) (by simp only [TU, c_unrolled]; simp [evDef, sv, ev, Fl.of, Ev.val, Ev.no, Ev.itr, opd_pk, opd_io, opd_var, opd_cst, opd_glb, opd_op, opd_chn, opd_slc, opd_and, opd_or, opd_not, opd_ife, opd_call, opd_lc, Ou.bd, zOp, opdl, retains, rsl, Z.rs, frl, opD, binD, cmpD, Ou.of, slD, atI, ixN, eqv_int, shaped_int, dbl, dint, zVar, zPkT, putR, ownAt, R.sl, R.d, finD, truD, zCall, locT, cstC, argsS, argS, ioIx, afterCall, putBack, zAnd, zOr, zNot, zChn, zSlc, slcD, cutD, Tg.put, setAll, seqD, isTy_tt, fmtOk, fitL, zRng1, zRng2, smallI, zChn3, zLrg1, zLrg2, zEnm, zZip, opd_chn3, opd_lrg1, opd_lrg2, T4, e1]) ?_
  refine sv_nx (s1U k r0 r1 (.fz (.int t))) ?_
  refine sv_nx (n1 := [.fz (.tuple [.tuple ss, .int l, .tuple rs]), .fz (.int t), .ow (.list O), .un, .un, .un, .un, .un, .un]) ?_ ?_
  · by_cases hn : 0 ≤ l
    · rw [hO, if_pos hn]; exact s2U k h5 h2 ht hn r0 r2
    · rw [hO, if_neg hn]; exact s2U0 k hn _ _
  clear hO
  refine sv_nx (n1 := [.fz (.tuple [.tuple ss, .int l, .tuple rs]), .fz (.int t), .fz (.list O), .fz (.tuple S1), .un, .un, .un, .un, .un]) (by simp [evDef, sv, ev, Fl.of, Ev.val, Ev.no, Ev.itr, opd_pk, opd_io, opd_var, opd_cst, opd_glb, opd_op, opd_chn, opd_slc, opd_and, opd_or, opd_not, opd_ife, opd_call, opd_lc, Ou.bd, zOp, opdl, retains, rsl, Z.rs, frl, opD, binD, cmpD, Ou.of, slD, atI, ixN, eqv_int, shaped_int, dbl, dint, zVar, zPkT, putR, ownAt, R.sl, R.d, finD, truD, zCall, locT, cstC, argsS, argS, ioIx, afterCall, putBack, zAnd, zOr, zNot, zChn, zSlc, slcD, cutD, Tg.put, setAll, seqD, isTy_tt, fmtOk, fitL, zRng1, zRng2, smallI, zChn3, zLrg1, zLrg2, zEnm, zZip, opd_chn3, opd_lrg1, opd_lrg2, oLU0, l0]) ?_
  refine sv_nx (n1 := [.fz (.tuple [.tuple ss, .int l, .tuple rs]), .fz (.int t), .fz (.list O), .fz (.tuple S1), .fz (.tuple R1), .un, .un, .un, .un]) (by simp [evDef, sv, ev, Fl.of, Ev.val, Ev.no, Ev.itr, opd_pk, opd_io, opd_var, opd_cst, opd_glb, opd_op, opd_chn, opd_slc, opd_and, opd_or, opd_not, opd_ife, opd_call, opd_lc, Ou.bd, zOp, opdl, retains, rsl, Z.rs, frl, opD, binD, cmpD, Ou.of, slD, atI, ixN, eqv_int, shaped_int, dbl, dint, zVar, zPkT, putR, ownAt, R.sl, R.d, finD, truD, zCall, locT, cstC, argsS, argS, ioIx, afterCall, putBack, zAnd, zOr, zNot, zChn, zSlc, slcD, cutD, Tg.put, setAll, seqD, isTy_tt, fmtOk, fitL, zRng1, zRng2, smallI, zChn3, zLrg1, zLrg2, zEnm, zZip, opd_chn3, opd_lrg1, opd_lrg2, oLU2, l2]) ?_
  refine sv_nx (n1 := [.fz (.tuple [.tuple ss, .int l, .tuple rs]), .fz (.int t), .fz (.list O), .fz (.tuple S1), .fz (.tuple R1), .fz M, .un, .un, .un]) (by rw [hm]; simp [evDef, sv, ev, Fl.of, Ev.val, Ev.no, Ev.itr, opd_pk, opd_io, opd_var, opd_cst, opd_glb, opd_op, opd_chn, opd_slc, opd_and, opd_or, opd_not, opd_ife, opd_call, opd_lc, Ou.bd, zOp, opdl, retains, rsl, Z.rs, frl, opD, binD, cmpD, Ou.of, slD, atI, ixN, eqv_int, shaped_int, dbl, dint, zVar, zPkT, putR, ownAt, R.sl, R.d, finD, truD, zCall, locT, cstC, argsS, argS, ioIx, afterCall, putBack, zAnd, zOr, zNot, zChn, zSlc, slcD, cutD, Tg.put, setAll, seqD, isTy_tt, fmtOk, fitL, zRng1, zRng2, smallI, zChn3, zLrg1, zLrg2, zEnm, zZip, opd_chn3, opd_lrg1, opd_lrg2, z3]) ?_
  clear hm
  unfold outC at e3
  cases hd : dueS M with
  | none =>
    rw [hd] at e3
    refine sv_nx (n1 := [.fz (.tuple [.tuple ss, .int l, .tuple rs]), .fz (.int t), .fz (.list O), .fz (.tuple S1), .fz (.tuple R1), .fz M, .un, .un, .un]) (by simp only [TU, c_unrolled]; simp [evDef, sv, ev, Fl.of, Ev.val, Ev.no, Ev.itr, opd_pk, opd_io, opd_var, opd_cst, opd_glb, opd_op, opd_chn, opd_slc, opd_and, opd_or, opd_not, opd_ife, opd_call, opd_lc, Ou.bd, zOp, opdl, retains, rsl, Z.rs, frl, opD, binD, cmpD, Ou.of, slD, atI, ixN, eqv_int, shaped_int, dbl, dint, zVar, zPkT, putR, ownAt, R.sl, R.d, finD, truD, zCall, locT, cstC, argsS, argS, ioIx, afterCall, putBack, zAnd, zOr, zNot, zChn, zSlc, slcD, cutD, Tg.put, setAll, seqD, isTy_tt, fmtOk, fitL, zRng1, zRng2, smallI, zChn3, zLrg1, zLrg2, zEnm, zZip, opd_chn3, opd_lrg1, opd_lrg2, T4, e3]) ?_
    exact sv_rt rfl
  | some s =>
    rw [hd] at e3
    exact sv_ex (by simp only [TU, c_unrolled]; simp [evDef, sv, ev, Fl.of, Ev.val, Ev.no, Ev.itr, opd_pk, opd_io, opd_var, opd_cst, opd_glb, opd_op, opd_chn, opd_slc, opd_and, opd_or, opd_not, opd_ife, opd_call, opd_lc, Ou.bd, zOp, opdl, retains, rsl, Z.rs, frl, opD, binD, cmpD, Ou.of, slD, atI, ixN, eqv_int, shaped_int, dbl, dint, zVar, zPkT, putR, ownAt, R.sl, R.d, finD, truD, zCall, locT, cstC, argsS, argS, ioIx, afterCall, putBack, zAnd, zOr, zNot, zChn, zSlc, slcD, cutD, Tg.put, setAll, seqD, isTy_tt, fmtOk, fitL, zRng1, zRng2, smallI, zChn3, zLrg1, zLrg2, zEnm, zZip, opd_chn3, opd_lrg1, opd_lrg2, T4, e3])
def outU (M : PyData) : Rt := match dueS M with
  | none => .ret (.fr M) [.none, .none]
  | some s => .ex 1 (.str s) [.none, .none]
theorem okV_mkT {ss : List Int} {rs : List (Int × List Int)} {ord : List Int} (h1 : ord.length ≤ 2000) (h2 : rs.length ≤ 2000) : okV 2000 4 (mkT ss rs ord) := by
  refine okV_tup (by simp) fun x hx => ?_
  rcases List.mem_cons.mp hx with rfl | hx
  · exact okV_tI (by simpa using h1)
  · rcases List.mem_cons.mp hx with rfl | hx
    · exact okV_atom trivial
    · rw [List.mem_singleton.mp hx]
      refine okV_tup (by simpa using h2) fun y hy => ?_
      obtain ⟨r, hr, rfl⟩ := List.mem_map.mp hy
      obtain ⟨r0, hr0, rfl⟩ := List.mem_map.mp hr
      refine okV_tup (by simp) fun z hz => ?_
      rcases List.mem_cons.mp hz with rfl | hz
      · exact okV_atom trivial
      · rw [List.mem_singleton.mp hz]
        exact okV_tI (h := 0) (by simpa using h1)
theorem sz2000 : (2000 : Nat) ≤ sizeLine := by rw [sizeLine_eq]; decide
/-- a right one -/
theorem F16 (k : Nat) {ss : List Int} {l t : Int} {rs : List (Int × List Int)} (h : Right 40 ss l rs) (ht : 0 ≤ t) : Fd (k + 4) 16 [.fz (tD ss l rs), .fz (.int t)] = outU (mkT ss rs (ordU ss.length l t)) := by
  obtain ⟨h1, h2, h3, h4, h5, h6, h7, h8⟩ := id h
  have zz := sz2000
  have e1 := F4 k 1000 4 sz1000 (okV_tD (ss := ss) (l := l) (rs := rs) (by omega) (by omega) fun r hr => by have := (h8 r hr).2.2.1; omega)
  unfold outC at e1
  rw [due_right h] at e1
  have ol := ordU_len ss.length l t h5
  have e3 := F4 k 2000 4 zz (okV_mkT (ss := ss) (rs := rs) (ord := ordU ss.length l t) (by omega) (by omega))
  have hb := bodyU k (ss := ss.map .int) (rs := rs.map rD2) (l := l) (t := t) (O := (ordU ss.length l t).map .int) (M := mkT ss rs (ordU ss.length l t)) rfl e1 e3 (by omega) (by rw [nI_len]; exact h5) (by rw [nI_len]; exact h2) ht (by rw [nI_len]; exact rng_ok2 (by omega) (by omega)) (by rw [nI_len]; omega) (rng_ok2 (by omega) (by omega)) (by
      rw [nI_len]
      unfold ordU
      rw [rangeD_eq, rangeD_eq]
      by_cases hn : 0 ≤ l
      · rw [if_pos hn, if_pos hn, rep_map, List.map_append]
      · rw [if_neg hn, if_neg hn, List.append_nil])
    (fun tu s3 s4 s5 s7 s8 => LU0 (by omega) (fun i hi => ordU_mem hi) tu s3 s4 s5 s7 s8 _ (.inr rfl)) (fun tu s3 s4 s5 => LU2 (by omega) (by omega) (fun r hr i hi => by
      have := ordU_mem hi
      have := (h8 r hr).2.2.1
      omega) tu s3 s4 s5)
  rw [U16]
  unfold outU
  cases hd : dueS (mkT ss rs (ordU ss.length l t)) with
  | none => rw [hd] at hb; exact def_rt (m := 9) (ss := [.fz (tD ss l rs), .fz (.int t)]) (show sv _ _ _ _ = Fl.rt (.fr (mkT ss rs (ordU ss.length l t))) _ from hb)
  | some s => rw [hd] at hb; exact def_ex (m := 9) (ss := [.fz (tD ss l rs), .fz (.int t)]) (show sv _ _ _ _ = Fl.ex 1 (.str s) _ from hb)
end Z

set_option Elab.async false
set_option linter.all false
set_option maxRecDepth 100000
set_option maxHeartbeats 0
namespace Z
open PySem PySem.Spec PyProof.Rows L2
/-! ## _law_title, exactly -/
theorem pickI (k : Nat) {d : PyData} {is : List Int} (hd : St d) (h1 : is ≠ []) (h2 : is.length ≤ 7) : ∃ x d', Fd (k + 1) 7 [.pn d, .fz (.list (is.map .int))] = .ret (.fr (.int x)) [d', .none] ∧ St d' ∧ x ∈ is := by
  obtain ⟨x, d', e, s, hx⟩ := pick k (xs := is.map .int) hd (by simpa using h1) (by simp; omega)
  obtain ⟨i, hi, rfl⟩ := List.mem_map.mp hx
  exact ⟨i, d', e, s, hi⟩
theorem intsOf {P : Int → Prop} : ∀ {ys : List PyData}, (∀ y ∈ ys, ∃ i, y = .int i ∧ P i) → ∃ l : List Int, ys = l.map .int ∧ ∀ x ∈ l, P x
  | [], _ => ⟨[], rfl, fun x h => (nomatch h)⟩
  | y :: ys, h => by
    obtain ⟨i, rfl, hi⟩ := h y List.mem_cons_self
    obtain ⟨l, rfl, hl⟩ := intsOf fun z hz => h z (List.mem_cons_of_mem _ hz)
    exact ⟨i :: l, rfl, fun x hx => by
      rcases List.mem_cons.mp hx with rfl | hx
      · exact hi
      · exact hl x hx⟩
abbrev TT (k : Nat) : Tb := locT c__law_title.calls (tbl cs (k + 2))
abbrev CT : Nat → Option PyData := cstC c__law_title.gcs
theorem rng_i {T : Tb} {C : Nat → Option PyData} {n : En} {i : Nat} {m : Int} (h : n[i]? = some (.fz (.int m))) (h0 : 0 ≤ m) (h1 : m ≤ 1000) : (ev T C (.rng1 (.pk i))).i n = .ok (rangeD 0 m) n := by
  show zRng1 (opd (.pk i) (ev T C (.pk i)).e) n = _
  unfold zRng1
  rw [opd_pk, h]
  dsimp only [Ou.bd]
  have e : Z.rs n (.sl i) = some (.int m) := by
    show (n[i]?).bind slD = _
    rw [h]; rfl
  rw [e]
  dsimp only
  rw [if_pos (rng_ok h0 h1)]
theorem LT1 (k : Nat) {d : PyData} {m : Int} (hd : St d) (h0 : 0 ≤ m) (h1 : m ≤ 1000) (a b s4 s5 s6 : Sl) : ∃ (ys : List Int) (d' : PyData), (ev (TT k) CT l__law_title_0).e [.pn d, a, b, .fz (.int m), s4, s5, s6, .un, .un] = .ok (.nw (.list (ys.map .int))) [.pn d', a, b, .fz (.int m), s4, s5, s6, .un, .un] ∧ St d' ∧ ys.length = m.toNat ∧ ∀ y ∈ ys, 1 ≤ y ∧ y ≤ 8 := by
  have z := sz6
  have z2 := sz1000
  obtain ⟨ys, d', e, s, hl, ha⟩ := zLc_draw (tg := .nm 7) (own := [7]) (fi := (ev (TT k) CT (.rng1 (.pk 3))).i) (fc := (ev (TT k) CT .yes).t)
    (fe := (ev (TT k) CT (.call 1 (.cons (.io 0) (.cons (.op .lst (.cons (.cst (.int 1)) (.cons (.cst (.int 2)) (.cons (.cst (.int 2)) (.cons (.cst (.int 3)) (.cons (.cst (.int 4)) (.cons (.cst (.int 8)) .nil))))))) .nil)))).e)
    (fun d s => [.pn d, a, b, .fz (.int m), s4, s5, s6, s, .un]) (fun y => ∃ i, y = .int i ∧ (1 ≤ i ∧ i ≤ 8)) (d := d) (xs := rangeD 0 m) hd (rng_i rfl h0 h1) (fun _ => rfl) (fun _ _ => rfl) (fun _ _ => rfl) (fun _ => rfl) (fun d x hd => by
      obtain ⟨y, d', e, s, hy⟩ := pickI k (is := [1, 2, 2, 3, 4, 8]) hd (by simp) (by simp)
      refine ⟨.fr (.int y), d', ?_, s, y, rfl, ?_⟩
      · simp only [List.map_cons, List.map_nil] at e
        simp only [TT, CT, c__law_title]
        simp [evDef, sv, ev, Fl.of, Ev.val, Ev.no, Ev.itr, opd_pk, opd_io, opd_var, opd_cst, opd_glb, opd_op, opd_chn, opd_slc, opd_and, opd_or, opd_not, opd_ife, opd_call, opd_lc, Ou.bd, zOp, opdl, retains, rsl, Z.rs, frl, opD, binD, cmpD, Ou.of, slD, atI, ixN, eqv_int, shaped_int, dbl, dint, zVar, zPkT, putR, ownAt, R.sl, R.d, finD, truD, zCall, locT, cstC, argsS, argS, ioIx, afterCall, putBack, zAnd, zOr, zNot, zChn, zSlc, slcD, cutD, Tg.put, setAll, seqD, isTy_tt, fmtOk, fitL, zRng1, zRng2, smallI, zChn3, zLrg1, zLrg2, zEnm, zZip, opd_chn3, opd_lrg1, opd_lrg2, T7, e, z]
      · simp at hy; omega) (by rw [rangeD_len]; omega)
  obtain ⟨l, rfl, hl2⟩ := intsOf ha
  exact ⟨l, d', e, s, by rw [List.length_map] at hl; rw [hl, rangeD_len], hl2⟩
theorem LT0 (k : Nat) {d : PyData} {m : Int} (hd : St d) (h0 : 0 ≤ m) (h1 : m ≤ 1000) (a b s4 s5 s6 s7 : Sl) : ∃ (ys : List Int) (d' : PyData), (ev (TT k) CT l__law_title_1).e [.pn d, a, b, .fz (.int m), s4, s5, s6, s7, .un] = .ok (.nw (.list (ys.map .int))) [.pn d', a, b, .fz (.int m), s4, s5, s6, s7, .un] ∧ St d' ∧ ys.length = m.toNat ∧ ∀ y ∈ ys, 1 ≤ y ∧ y ≤ 60 := by
  have z := sz6
  have z2 := sz1000
  obtain ⟨ys, d', e, s, hl, ha⟩ := zLc_draw (tg := .nm 8) (own := [8]) (fi := (ev (TT k) CT (.rng1 (.pk 3))).i) (fc := (ev (TT k) CT .yes).t)
    (fe := (ev (TT k) CT (.call 1 (.cons (.io 0) (.cons (.op .lst (.cons (.cst (.int 1)) (.cons (.cst (.int 2)) (.cons (.cst (.int 3)) (.cons (.cst (.int 5)) (.cons (.cst (.int 8)) (.cons (.cst (.int 13)) .nil))))))) .nil)))).e)
    (fun d s => [.pn d, a, b, .fz (.int m), s4, s5, s6, s7, s]) (fun y => ∃ i, y = .int i ∧ (1 ≤ i ∧ i ≤ 60)) (d := d) (xs := rangeD 0 m) hd (rng_i rfl h0 h1) (fun _ => rfl) (fun _ _ => rfl) (fun _ _ => rfl) (fun _ => rfl) (fun d x hd => by
      obtain ⟨y, d', e, s, hy⟩ := pickI k (is := [1, 2, 3, 5, 8, 13]) hd (by simp) (by simp)
      refine ⟨.fr (.int y), d', ?_, s, y, rfl, ?_⟩
      · simp only [List.map_cons, List.map_nil] at e
        simp only [TT, CT, c__law_title]
        simp [evDef, sv, ev, Fl.of, Ev.val, Ev.no, Ev.itr, opd_pk, opd_io, opd_var, opd_cst, opd_glb, opd_op, opd_chn, opd_slc, opd_and, opd_or, opd_not, opd_ife, opd_call, opd_lc, Ou.bd, zOp, opdl, retains, rsl, Z.rs, frl, opD, binD, cmpD, Ou.of, slD, atI, ixN, eqv_int, shaped_int, dbl, dint, zVar, zPkT, putR, ownAt, R.sl, R.d, finD, truD, zCall, locT, cstC, argsS, argS, ioIx, afterCall, putBack, zAnd, zOr, zNot, zChn, zSlc, slcD, cutD, Tg.put, setAll, seqD, isTy_tt, fmtOk, fitL, zRng1, zRng2, smallI, zChn3, zLrg1, zLrg2, zEnm, zZip, opd_chn3, opd_lrg1, opd_lrg2, T7, e, z]
      · simp at hy; omega) (by rw [rangeD_len]; omega)
  obtain ⟨l, rfl, hl2⟩ := intsOf ha
  exact ⟨l, d', e, s, by rw [List.length_map] at hl; rw [hl, rangeD_len], hl2⟩
theorem oLT0 {f : En → Ou R} {n : En} : opd l__law_title_0 f n = (f n).bd fun r n1 => .ok (.dd r.d) n1 := rfl
theorem oLT1 {f : En → Ou R} {n : En} : opd l__law_title_1 f n = (f n).bd fun r n1 => .ok (.dd r.d) n1 := rfl
def rOk (m : Int) (r : Int × List Int) : Prop := 0 ≤ r.1 ∧ r.1 ≤ 99 ∧ (r.2.length : Int) = m ∧ ∀ x ∈ r.2, 1 ≤ x ∧ x ≤ 60
theorem bT (k : Nat) {d : PyData} {m : Int} {rs : List PyData} (hd : St d) (h0 : 0 ≤ m) (h1 : m ≤ 1000) (hr : rs.length < 1000) (a b s4 s5 s7 : Sl) : ∃ r d', sv (TT k) CT b__law_title_0 [.pn d, a, b, .fz (.int m), s4, s5, .ow (.list rs), s7, .un] = .nx [.pn d', a, b, .fz (.int m), s4, s5, .ow (.list (rs ++ [rD2 r])), s7, .un] ∧ St d' ∧ rOk m r := by
  obtain ⟨x, d1, e1, s1, hx⟩ := pickI k (is := [0, 1, 5, 9, 99]) hd (by simp) (by simp)
  obtain ⟨ys, d2, e2, s2, hl, ha⟩ := LT0 k s1 h0 h1 a b s4 s5 (.ow (.list rs)) s7
  have z := sz6
  have z5 : (5 : Nat) ≤ sizeLine := by omega
  have z2 : (2 : Nat) ≤ sizeLine := by omega
  have zr : rs.length < sizeLine := Nat.lt_of_lt_of_le hr sz1000
  refine ⟨(x, ys), d2, ?_, s2, ?_, ?_, by show (ys.length : Int) = m; omega, ha⟩
  · simp only [List.map_cons, List.map_nil] at e1
    simp only [b__law_title_0, c__law_title, TT, CT] at e2 ⊢
    simp [evDef, sv, ev, Fl.of, Ev.val, Ev.no, Ev.itr, opd_pk, opd_io, opd_var, opd_cst, opd_glb, opd_op, opd_chn, opd_slc, opd_and, opd_or, opd_not, opd_ife, opd_call, opd_lc, Ou.bd, zOp, opdl, retains, rsl, Z.rs, frl, opD, binD, cmpD, Ou.of, slD, atI, ixN, eqv_int, shaped_int, dbl, dint, zVar, zPkT, putR, ownAt, R.sl, R.d, finD, truD, zCall, locT, cstC, argsS, argS, ioIx, afterCall, putBack, zAnd, zOr, zNot, zChn, zSlc, slcD, cutD, Tg.put, setAll, seqD, isTy_tt, fmtOk, fitL, zRng1, zRng2, smallI, zChn3, zLrg1, zLrg2, zEnm, zZip, opd_chn3, opd_lrg1, opd_lrg2, T7, e1, e2, oLT1, z5, z2, zr, rD2, tI]
  · simp at hx; show 0 ≤ x; omega
  · simp at hx; show x ≤ 99; omega
theorem loopT (k : Nat) {m : Int} (h0 : 0 ≤ m) (h1 : m ≤ 1000) (a b s4 s5 : Sl) : ∀ (xs : List PyData) (d : PyData) (rs : List (Int × List Int)) (s7 : Sl), St d → unfz s7 → rs.length + xs.length ≤ 900 → (∀ r ∈ rs, rOk m r) → ∃ (d' : PyData) (rs' : List (Int × List Int)) (s7' : Sl), forGo (.nm 7) (sv (TT k) CT b__law_title_0) xs [.pn d, a, b, .fz (.int m), s4, s5, .ow (.list (rs.map rD2)), s7, .un] = .nx [.pn d', a, b, .fz (.int m), s4, s5, .ow (.list (rs'.map rD2)), s7', .un] ∧ St d' ∧ unfz s7' ∧ rs'.length = rs.length + xs.length ∧ ∀ r ∈ rs', rOk m r
  | [], d, rs, s7, hd, hs, _, hr => ⟨d, rs, s7, rfl, hd, hs, by simp, hr⟩
  | x :: xs, d, rs, s7, hd, hs, hl, hr => by
    have hl : rs.length + (xs.length + 1) ≤ 900 := by simpa using hl
    have hp : (Tg.nm 7).put x [.pn d, a, b, .fz (.int m), s4, s5, .ow (.list (rs.map rD2)), s7, .un] = some [.pn d, a, b, .fz (.int m), s4, s5, .ow (.list (rs.map rD2)), .fz x, .un] := by rcases hs with rfl | ⟨y, rfl⟩ <;> rfl
    obtain ⟨r, d1, e1, s1, hy⟩ := bT k hd h0 h1 (rs := rs.map rD2) (by simp; omega) a b s4 s5 (.fz x)
    rw [forGo_cons, hp]
    dsimp only
    rw [e1]
    dsimp only
    obtain ⟨d2, rs2, s72, e2, q1, q2, q3, q4⟩ := loopT k h0 h1 a b s4 s5 xs d1 (rs ++ [r]) (.fz x) s1 (.inr ⟨x, rfl⟩) (by simp; omega) (fun r' hr' => by
      rcases List.mem_append.mp hr' with hr' | hr'
      · exact hr r' hr'
      · rw [List.mem_singleton.mp hr']; exact hy)
    rw [List.map_append] at e2
    exact ⟨d2, rs2, s72, e2, q1, q2, by rw [q3]; simp; omega, q4⟩
theorem F9 (k : Nat) {d : PyData} {mo : Int} (hd : St d) (hm0 : 1 ≤ mo) (hm1 : mo ≤ 12) : ∃ ss l rs d', Fd (k + 2) 9 [.pn d, .fz (.int mo), .fz (.bool true)] = .ret (.fr (tD ss l rs)) [d', .none, .none] ∧ St d' ∧ Right 12 ss l rs := by
  obtain ⟨m0, d1, e1, s1, p0, p1⟩ := draw (k + 1) hd (m := mo) (by omega) (by omega)
  obtain ⟨sp, d2, e2, s2, l2, a2⟩ := LT1 k s1 (m := 1 + m0) (by omega) (by omega) (.fz (.int mo)) (.fz (.bool true)) .un .un .un
  obtain ⟨lo, d3, e3, s3, q0, q1⟩ := draw (k + 1) s2 (m := 1 + m0 + 1) (by omega) (by omega)
  obtain ⟨nr, d4, e4, s4, r0, r1⟩ := draw (k + 1) s3 (m := 3) (by omega) (by omega)
  obtain ⟨d5, rs, s7, e5, s5, _, l5, a5⟩ := loopT k (m := 1 + m0) (by omega) (by omega) (.fz (.int mo)) (.fz (.bool true)) (.fz (.tuple (sp.map .int))) (.fz (.int (lo - 1))) (rangeD 0 (1 + nr)) d4 [] .un s4 (.inl rfl) (by rw [rangeD_len]; simp; omega) (by simp)
  have hrl : rs.length = (1 + nr).toNat := by rw [l5, rangeD_len]; simp
  refine ⟨sp, lo - 1, rs, d5, ?_, s5, by omega, by omega, a2, by omega, by omega, by omega, by omega, fun r hr => ?_⟩
  · rw [U9]
    have z := sz6
    have z3 : (3 : Nat) ≤ sizeLine := by omega
    have z0 : (0 : Nat) ≤ sizeLine := by omega
    have ro := rng_ok (m := 1 + nr) (by omega) (by omega)
    simp only [List.map_nil] at e5
    simp only [c__law_title, TT, CT] at e2 e5 ⊢
    simp [evDef, sv, ev, Fl.of, Ev.val, Ev.no, Ev.itr, opd_pk, opd_io, opd_var, opd_cst, opd_glb, opd_op, opd_chn, opd_slc, opd_and, opd_or, opd_not, opd_ife, opd_call, opd_lc, Ou.bd, zOp, opdl, retains, rsl, Z.rs, frl, opD, binD, cmpD, Ou.of, slD, atI, ixN, eqv_int, shaped_int, dbl, dint, zVar, zPkT, putR, ownAt, R.sl, R.d, finD, truD, zCall, locT, cstC, argsS, argS, ioIx, afterCall, putBack, zAnd, zOr, zNot, zChn, zSlc, slcD, cutD, Tg.put, setAll, seqD, isTy_tt, fmtOk, fitL, zRng1, zRng2, smallI, zChn3, zLrg1, zLrg2, zEnm, zZip, opd_chn3, opd_lrg1, opd_lrg2, T6, e1, e2, e3, e4, e5, oLT0, z3, z0, ro, tD, tI]
  · obtain ⟨x1, x2, x3, x4⟩ := a5 r hr
    exact ⟨x1, x2, by omega, x4⟩
end Z

set_option Elab.async false
set_option linter.all false
set_option maxRecDepth 100000
set_option maxHeartbeats 0
namespace Z
open PySem PySem.Spec PyProof.Rows L2
theorem np_unfz {s : Sl} (h : unfz s) : isPn (some s) = false := by rcases h with rfl | ⟨y, rfl⟩ <;> rfl
/-! ## the order -/
def ordL (n : Nat) (l : Int) : Nat → Int → Int → List Int
  | 0, _, _ => []
  | f + 1, p, left => p :: (if p + 1 < (n : Int) then ordL n l f (p + 1) left else if 0 < left then ordL n l f l (left - 1) else [])
theorem rgI_cons {p n : Int} (h : p < n) : rgI p n = p :: rgI (p + 1) n := by
  unfold rgI
  have e : (n - p).toNat = (n - (p + 1)).toNat + 1 := by omega
  rw [e, List.range_succ_eq_map, List.map_cons, List.map_map]
  congr 1
  · simp
  · refine List.map_congr_left fun i _ => ?_
    simp only [Function.comp]
    omega
theorem rgI_nil {p n : Int} (h : ¬ p < n) : rgI p n = [] := by
  unfold rgI
  rw [show (n - p).toNat = 0 by omega]; rfl
theorem ordL_eq (n : Nat) (l : Int) : ∀ (f : Nat) (p left : Int), p < n → 0 ≤ left → (0 < left → l < n) → ordL n l f p left = (rgI p n ++ (List.replicate left.toNat (rgI l n)).flatten).take f
  | 0, p, left, _, _, _ => by rw [List.take_zero]; rfl
  | f + 1, p, left, h1, h2, h3 => by
    rw [rgI_cons h1, List.cons_append, List.take_succ_cons]
    show p :: _ = _
    congr 1
    by_cases g1 : p + 1 < (n : Int)
    · rw [if_pos g1]
      exact ordL_eq n l f (p + 1) left g1 h2 h3
    · rw [if_neg g1, rgI_nil g1, List.nil_append]
      by_cases g2 : 0 < left
      · rw [if_pos g2, ordL_eq n l f l (left - 1) (h3 g2) (by omega) (fun z => h3 (by omega))]
        have e : left.toNat = (left - 1).toNat + 1 := by omega
        rw [e, List.replicate_succ, List.flatten_cons]
      · rw [if_neg g2, show left.toNat = 0 by omega]
        simp
theorem bO (T : Tb) (C : Nat → Option PyData) {SS acc : List PyData} {l p left : Int} (hz : acc.length < sizeLine) (a b s5 s8 : Sl) :
    sv T C b__law_order_0 [a, b, .ow (.list acc), .fz (.int p), .fz (.int left), s5, .fz (.tuple SS), .fz (.int l), s8] =
      if p + 1 < (SS.length : Int) then .nx [a, b, .ow (.list (acc ++ [.int p])), .fz (.int (p + 1)), .fz (.int left), s5, .fz (.tuple SS), .fz (.int l), s8]
      else if 0 < left then .nx [a, b, .ow (.list (acc ++ [.int p])), .fz (.int l), .fz (.int (left - 1)), s5, .fz (.tuple SS), .fz (.int l), s8]
      else .bk [a, b, .ow (.list (acc ++ [.int p])), .fz (.int p), .fz (.int left), s5, .fz (.tuple SS), .fz (.int l), s8] := by
  by_cases h1 : p + 1 < (SS.length : Int)
  · simp [evDef, sv, ev, Fl.of, Ev.val, Ev.no, Ev.itr, opd_pk, opd_io, opd_var, opd_cst, opd_glb, opd_op, opd_chn, opd_slc, opd_and, opd_or, opd_not, opd_ife, opd_call, opd_lc, Ou.bd, zOp, opdl, retains, rsl, Z.rs, frl, opD, binD, cmpD, Ou.of, slD, atI, ixN, eqv_int, shaped_int, dbl, dint, zVar, zPkT, putR, ownAt, R.sl, R.d, finD, truD, zCall, locT, cstC, argsS, argS, ioIx, afterCall, putBack, zAnd, zOr, zNot, zChn, zSlc, slcD, cutD, Tg.put, setAll, seqD, isTy_tt, fmtOk, fitL, zRng1, zRng2, smallI, zChn3, zLrg1, zLrg2, zEnm, zZip, opd_chn3, opd_lrg1, opd_lrg2, b__law_order_0, h1, hz]
  · by_cases h2 : 0 < left
    · simp [evDef, sv, ev, Fl.of, Ev.val, Ev.no, Ev.itr, opd_pk, opd_io, opd_var, opd_cst, opd_glb, opd_op, opd_chn, opd_slc, opd_and, opd_or, opd_not, opd_ife, opd_call, opd_lc, Ou.bd, zOp, opdl, retains, rsl, Z.rs, frl, opD, binD, cmpD, Ou.of, slD, atI, ixN, eqv_int, shaped_int, dbl, dint, zVar, zPkT, putR, ownAt, R.sl, R.d, finD, truD, zCall, locT, cstC, argsS, argS, ioIx, afterCall, putBack, zAnd, zOr, zNot, zChn, zSlc, slcD, cutD, Tg.put, setAll, seqD, isTy_tt, fmtOk, fitL, zRng1, zRng2, smallI, zChn3, zLrg1, zLrg2, zEnm, zZip, opd_chn3, opd_lrg1, opd_lrg2, b__law_order_0, h1, h2, hz]
    · simp [evDef, sv, ev, Fl.of, Ev.val, Ev.no, Ev.itr, opd_pk, opd_io, opd_var, opd_cst, opd_glb, opd_op, opd_chn, opd_slc, opd_and, opd_or, opd_not, opd_ife, opd_call, opd_lc, Ou.bd, zOp, opdl, retains, rsl, Z.rs, frl, opD, binD, cmpD, Ou.of, slD, atI, ixN, eqv_int, shaped_int, dbl, dint, zVar, zPkT, putR, ownAt, R.sl, R.d, finD, truD, zCall, locT, cstC, argsS, argS, ioIx, afterCall, putBack, zAnd, zOr, zNot, zChn, zSlc, slcD, cutD, Tg.put, setAll, seqD, isTy_tt, fmtOk, fitL, zRng1, zRng2, smallI, zChn3, zLrg1, zLrg2, zEnm, zZip, opd_chn3, opd_lrg1, opd_lrg2, b__law_order_0, h1, h2, hz]
theorem loopO (T : Tb) (C : Nat → Option PyData) {SS : List PyData} {n : Nat} (hn : SS.length = n) (l : Int) (a b s8 : Sl) : ∀ (xs : List PyData) (acc : List Int) (p left : Int) (s5 : Sl), unfz s5 → acc.length + xs.length ≤ sizeLine →
    ∃ p' left' s5', forGo (.nm 5) (sv T C b__law_order_0) xs [a, b, .ow (.list (acc.map .int)), .fz (.int p), .fz (.int left), s5, .fz (.tuple SS), .fz (.int l), s8] = .nx [a, b, .ow (.list ((acc ++ ordL n l xs.length p left).map .int)), .fz (.int p'), .fz (.int left'), s5', .fz (.tuple SS), .fz (.int l), s8]
  | [], acc, p, left, s5, _, _ => ⟨p, left, s5, by rw [forGo_nil]; simp [ordL]⟩
  | x :: xs, acc, p, left, s5, h5, hz => by
    have hz : acc.length + (xs.length + 1) ≤ sizeLine := by simpa using hz
    have hp : (Tg.nm 5).put x [a, b, .ow (.list (acc.map .int)), .fz (.int p), .fz (.int left), s5, .fz (.tuple SS), .fz (.int l), s8] = some [a, b, .ow (.list (acc.map .int)), .fz (.int p), .fz (.int left), .fz x, .fz (.tuple SS), .fz (.int l), s8] := by rcases h5 with rfl | ⟨y, rfl⟩ <;> rfl
    have hb := bO T C (SS := SS) (acc := acc.map .int) (l := l) (p := p) (left := left) (by rw [List.length_map]; omega) a b (.fz x) s8
    have e : acc.map PyData.int ++ [PyData.int p] = (acc ++ [p]).map .int := by simp
    rw [forGo_cons, hp]
    dsimp only
    rw [hb, e, hn]
    show ∃ p' left' s5', _ = Fl.nx [a, b, .ow (.list ((acc ++ (p :: (if p + 1 < (n : Int) then ordL n l xs.length (p + 1) left else if 0 < left then ordL n l xs.length l (left - 1) else []))).map .int)), .fz (.int p'), .fz (.int left'), s5', .fz (.tuple SS), .fz (.int l), s8]
    by_cases h1 : p + 1 < (n : Int)
    · rw [if_pos h1, if_pos h1]
      obtain ⟨p', l', s', e2⟩ := loopO T C hn l a b s8 xs (acc ++ [p]) (p + 1) left (.fz x) (.inr ⟨x, rfl⟩) (by simp; omega)
      exact ⟨p', l', s', by dsimp only; rw [e2]; simp⟩
    · rw [if_neg h1, if_neg h1]
      by_cases h2 : 0 < left
      · rw [if_pos h2, if_pos h2]
        obtain ⟨p', l', s', e2⟩ := loopO T C hn l a b s8 xs (acc ++ [p]) l (left - 1) (.fz x) (.inr ⟨x, rfl⟩) (by simp; omega)
        exact ⟨p', l', s', by dsimp only; rw [e2]; simp⟩
      · rw [if_neg h2, if_neg h2]
        exact ⟨p, left, .fz x, by simp⟩
def full (n : Nat) (l t : Int) : List Int := rgI 0 n ++ (if 0 ≤ l then (List.replicate t.toNat (rgI l n)).flatten else [])
theorem rng2000 : rngOk 2000 = true := by decide +kernel
theorem len2000 : (rangeD 0 2000).length = 2000 := by rw [lenR]; rfl
theorem finD2 (v w : PyData) (n : En) : finD [.fz v, .fz w] n = [.none, .none] := by
  rcases n with _ | ⟨a, _ | ⟨b, n⟩⟩ <;> rfl
theorem tailO (T : Tb) (C : Nat → Option PyData) {SS : List PyData} {n : Nat} (hn : SS.length = n) {l left : Int} (h1 : 1 ≤ n) (h5 : l < n) (g1 : 0 ≤ left) (a b s8 : Sl) : ∃ n', sv T C (.cons (.for_ (.nm 5) (.rng1 (.cst (.int 2000))) b__law_order_0) (.cons (.ret (.var 2)) .nil)) [a, b, .ow (.list []), .fz (.int 0), .fz (.int left), .un, .fz (.tuple SS), .fz (.int l), s8] = .rt (.fr (.list (((rgI 0 n ++ (List.replicate left.toNat (rgI l n)).flatten).take 2000).map .int))) n' := by
  have z := sz2000
  obtain ⟨p', l', s', e⟩ := loopO T C hn l a b s8 (rangeD 0 2000) [] 0 left .un (.inl rfl) (by rw [len2000]; simpa using z)
  rw [len2000, List.nil_append, ordL_eq n l 2000 0 left (by omega) g1 (fun _ => h5)] at e
  have hi : (ev T C (.rng1 (.cst (.int 2000)))).i [a, b, .ow (.list []), .fz (.int 0), .fz (.int left), .un, .fz (.tuple SS), .fz (.int l), s8] = .ok (rangeD 0 2000) [a, b, .ow (.list []), .fz (.int 0), .fz (.int left), .un, .fz (.tuple SS), .fz (.int l), s8] := by
    simp [evDef, sv, ev, Fl.of, Ev.val, Ev.no, Ev.itr, opd_pk, opd_io, opd_var, opd_cst, opd_glb, opd_op, opd_chn, opd_slc, opd_and, opd_or, opd_not, opd_ife, opd_call, opd_lc, Ou.bd, zOp, opdl, retains, rsl, Z.rs, frl, opD, binD, cmpD, Ou.of, slD, atI, ixN, eqv_int, shaped_int, dbl, dint, zVar, zPkT, putR, ownAt, R.sl, R.d, finD, truD, zCall, locT, cstC, argsS, argS, ioIx, afterCall, putBack, zAnd, zOr, zNot, zChn, zSlc, slcD, cutD, Tg.put, setAll, seqD, isTy_tt, fmtOk, fitL, zRng1, zRng2, smallI, zChn3, zLrg1, zLrg2, zEnm, zZip, opd_chn3, opd_lrg1, opd_lrg2, rng2000]
  exact ⟨_, sv_nx (sv_for hi e) (sv_rt rfl)⟩
theorem F17 (k : Nat) {ss : List Int} {l t : Int} {rs : List (Int × List Int)} (h1 : 1 ≤ ss.length) (h5 : l < ss.length) (ht : 0 ≤ t) : Fd k 17 [.fz (tD ss l rs), .fz (.int t)] = .ret (.fr (.list (((full ss.length l t).take 2000).map .int))) [.none, .none] := by
  have goal : ∃ n', sv (locT c__law_order.calls (tbl cs k)) (cstC c__law_order.gcs) c__law_order.body [.fz (tD ss l rs), .fz (.int t), .un, .un, .un, .un, .un, .un, .un] = .rt (.fr (.list (((full ss.length l t).take 2000).map .int))) n' := by
    unfold full
    by_cases hn : 0 ≤ l
    · rw [if_pos hn]
      obtain ⟨n', e⟩ := tailO (locT c__law_order.calls (tbl cs k)) (cstC c__law_order.gcs) (nI_len ss) (l := l) (left := t) h1 h5 ht (.fz (tD ss l rs)) (.fz (.int t)) (.fz (.tuple (rs.map rD2)))
      refine ⟨n', sv_nx (n1 := [.fz (tD ss l rs), .fz (.int t), .un, .un, .un, .un, .fz (tI ss), .fz (.int l), .fz (.tuple (rs.map rD2))]) rfl ?_⟩
      refine sv_nx (n1 := [.fz (tD ss l rs), .fz (.int t), .ow (.list []), .un, .un, .un, .fz (tI ss), .fz (.int l), .fz (.tuple (rs.map rD2))]) (by simp [evDef, sv, ev, Fl.of, Ev.val, Ev.no, Ev.itr, opd_pk, opd_io, opd_var, opd_cst, opd_glb, opd_op, opd_chn, opd_slc, opd_and, opd_or, opd_not, opd_ife, opd_call, opd_lc, Ou.bd, zOp, opdl, retains, rsl, Z.rs, frl, opD, binD, cmpD, Ou.of, slD, atI, ixN, eqv_int, shaped_int, dbl, dint, zVar, zPkT, putR, ownAt, R.sl, R.d, finD, truD, zCall, locT, cstC, argsS, argS, ioIx, afterCall, putBack, zAnd, zOr, zNot, zChn, zSlc, slcD, cutD, Tg.put, setAll, seqD, isTy_tt, fmtOk, fitL, zRng1, zRng2, smallI, zChn3, zLrg1, zLrg2, zEnm, zZip, opd_chn3, opd_lrg1, opd_lrg2, Nat.zero_le]) ?_
      refine sv_nx (n1 := [.fz (tD ss l rs), .fz (.int t), .ow (.list []), .fz (.int 0), .un, .un, .fz (tI ss), .fz (.int l), .fz (.tuple (rs.map rD2))]) rfl ?_
      exact sv_nx (n1 := [.fz (tD ss l rs), .fz (.int t), .ow (.list []), .fz (.int 0), .fz (.int t), .un, .fz (tI ss), .fz (.int l), .fz (.tuple (rs.map rD2))]) (by simp [evDef, sv, ev, Fl.of, Ev.val, Ev.no, Ev.itr, opd_pk, opd_io, opd_var, opd_cst, opd_glb, opd_op, opd_chn, opd_slc, opd_and, opd_or, opd_not, opd_ife, opd_call, opd_lc, Ou.bd, zOp, opdl, retains, rsl, Z.rs, frl, opD, binD, cmpD, Ou.of, slD, atI, ixN, eqv_int, shaped_int, dbl, dint, zVar, zPkT, putR, ownAt, R.sl, R.d, finD, truD, zCall, locT, cstC, argsS, argS, ioIx, afterCall, putBack, zAnd, zOr, zNot, zChn, zSlc, slcD, cutD, Tg.put, setAll, seqD, isTy_tt, fmtOk, fitL, zRng1, zRng2, smallI, zChn3, zLrg1, zLrg2, zEnm, zZip, opd_chn3, opd_lrg1, opd_lrg2, hn]) e
    · rw [if_neg hn]
      obtain ⟨n', e⟩ := tailO (locT c__law_order.calls (tbl cs k)) (cstC c__law_order.gcs) (nI_len ss) (l := l) (left := 0) h1 h5 (by omega) (.fz (tD ss l rs)) (.fz (.int t)) (.fz (.tuple (rs.map rD2)))
      rw [show (0 : Int).toNat = 0 from rfl, List.replicate_zero, List.flatten_nil] at e
      refine ⟨n', sv_nx (n1 := [.fz (tD ss l rs), .fz (.int t), .un, .un, .un, .un, .fz (tI ss), .fz (.int l), .fz (.tuple (rs.map rD2))]) rfl ?_⟩
      refine sv_nx (n1 := [.fz (tD ss l rs), .fz (.int t), .ow (.list []), .un, .un, .un, .fz (tI ss), .fz (.int l), .fz (.tuple (rs.map rD2))]) (by simp [evDef, sv, ev, Fl.of, Ev.val, Ev.no, Ev.itr, opd_pk, opd_io, opd_var, opd_cst, opd_glb, opd_op, opd_chn, opd_slc, opd_and, opd_or, opd_not, opd_ife, opd_call, opd_lc, Ou.bd, zOp, opdl, retains, rsl, Z.rs, frl, opD, binD, cmpD, Ou.of, slD, atI, ixN, eqv_int, shaped_int, dbl, dint, zVar, zPkT, putR, ownAt, R.sl, R.d, finD, truD, zCall, locT, cstC, argsS, argS, ioIx, afterCall, putBack, zAnd, zOr, zNot, zChn, zSlc, slcD, cutD, Tg.put, setAll, seqD, isTy_tt, fmtOk, fitL, zRng1, zRng2, smallI, zChn3, zLrg1, zLrg2, zEnm, zZip, opd_chn3, opd_lrg1, opd_lrg2, Nat.zero_le]) ?_
      refine sv_nx (n1 := [.fz (tD ss l rs), .fz (.int t), .ow (.list []), .fz (.int 0), .un, .un, .fz (tI ss), .fz (.int l), .fz (.tuple (rs.map rD2))]) rfl ?_
      exact sv_nx (n1 := [.fz (tD ss l rs), .fz (.int t), .ow (.list []), .fz (.int 0), .fz (.int 0), .un, .fz (tI ss), .fz (.int l), .fz (.tuple (rs.map rD2))]) (by simp [evDef, sv, ev, Fl.of, Ev.val, Ev.no, Ev.itr, opd_pk, opd_io, opd_var, opd_cst, opd_glb, opd_op, opd_chn, opd_slc, opd_and, opd_or, opd_not, opd_ife, opd_call, opd_lc, Ou.bd, zOp, opdl, retains, rsl, Z.rs, frl, opD, binD, cmpD, Ou.of, slD, atI, ixN, eqv_int, shaped_int, dbl, dint, zVar, zPkT, putR, ownAt, R.sl, R.d, finD, truD, zCall, locT, cstC, argsS, argS, ioIx, afterCall, putBack, zAnd, zOr, zNot, zChn, zSlc, slcD, cutD, Tg.put, setAll, seqD, isTy_tt, fmtOk, fitL, zRng1, zRng2, smallI, zChn3, zLrg1, zLrg2, zEnm, zZip, opd_chn3, opd_lrg1, opd_lrg2, hn]) e
  obtain ⟨n', g⟩ := goal
  rw [← finD2 (tD ss l rs) (.int t) n', U17]
  exact def_rt (m := 9) (ss := [.fz (tD ss l rs), .fz (.int t)]) g
/-! ## the two orders -/
theorem full_len (n : Nat) (l t : Int) : (full n l t).length = n + (if 0 ≤ l then t.toNat * ((n : Int) - l).toNat else 0) := by
  unfold full
  rw [List.length_append, rgI_len]
  split
  · rw [rep_len, rgI_len]; omega
  · simp
theorem ordU_lenE (n : Nat) (l t : Int) : (ordU n l t).length = n + (if 0 ≤ l then (if 40 < t then 40 else t).toNat * ((n : Int) - l).toNat else 0) := by
  unfold ordU
  rw [List.length_append, rgI_len]
  split
  · rw [rep_len, rgI_len]; omega
  · simp
theorem ord_short {n : Nat} {l t : Int} (h1 : 1 ≤ n) (h5 : l < n) (h : (full n l t).length ≤ 40) : ordU n l t = full n l t := by
  unfold ordU full
  rw [full_len] at h
  by_cases hn : 0 ≤ l
  · rw [if_pos hn] at h
    rw [if_pos hn, if_pos hn]
    have w : 1 ≤ ((n : Int) - l).toNat := by omega
    have w2 : t.toNat * 1 ≤ t.toNat * ((n : Int) - l).toNat := Nat.mul_le_mul_left _ w
    rw [if_neg (show ¬ 40 < t by omega)]
  · rw [if_neg hn, if_neg hn]
theorem ord_long {n : Nat} {l t : Int} (h1 : 1 ≤ n) (h5 : l < n) (h : 40 < (full n l t).length) : 40 < (ordU n l t).length := by
  rw [ordU_lenE]
  rw [full_len] at h
  by_cases hn : 0 ≤ l
  · rw [if_pos hn] at h ⊢
    by_cases ht : 40 < t
    · rw [if_pos ht]
      have w : 1 ≤ ((n : Int) - l).toNat := by omega
      have w2 : (40 : Int).toNat * 1 ≤ (40 : Int).toNat * ((n : Int) - l).toNat := Nat.mul_le_mul_left _ w
      have w3 : (40 : Int).toNat = 40 := rfl
      rw [w3] at w2 ⊢
      omega
    · rw [if_neg ht]; exact h
  · rw [if_neg hn] at h ⊢; exact h
end Z

set_option Elab.async false
set_option linter.all false
set_option maxRecDepth 100000
set_option maxHeartbeats 0
namespace Z
open PySem PySem.Spec PyProof.Rows L2
/-! ## _law_told -/
def toldU (M : PyData) : PyData := match dueS M with
  | none => M
  | some s => .str s
theorem F18r (k : Nat) {ss : List Int} {l t : Int} {rs : List (Int × List Int)} (h : Right 40 ss l rs) (ht : 0 ≤ t) : Fd (k + 5) 18 [.fz (tD ss l rs), .fz (.int t)] = .ret (.fr (toldU (mkT ss rs (ordU ss.length l t)))) [.none, .none] := by
  have e := F16 k h ht
  unfold outU at e
  unfold toldU
  generalize mkT ss rs (ordU ss.length l t) = M at *
  generalize tD ss l rs = tt at *
  rw [U18]
  simp only [c__law_told]
  cases hd : dueS M with
  | none => rw [hd] at e; simp [evDef, sv, ev, Fl.of, Ev.val, Ev.no, Ev.itr, opd_pk, opd_io, opd_var, opd_cst, opd_glb, opd_op, opd_chn, opd_slc, opd_and, opd_or, opd_not, opd_ife, opd_call, opd_lc, Ou.bd, zOp, opdl, retains, rsl, Z.rs, frl, opD, binD, cmpD, Ou.of, slD, atI, ixN, eqv_int, shaped_int, dbl, dint, zVar, zPkT, putR, ownAt, R.sl, R.d, finD, truD, zCall, locT, cstC, argsS, argS, ioIx, afterCall, putBack, zAnd, zOr, zNot, zChn, zSlc, slcD, cutD, Tg.put, setAll, seqD, isTy_tt, fmtOk, fitL, zRng1, zRng2, smallI, zChn3, zLrg1, zLrg2, zEnm, zZip, opd_chn3, opd_lrg1, opd_lrg2, T16, e]
  | some s => rw [hd] at e; simp [evDef, sv, ev, Fl.of, Ev.val, Ev.no, Ev.itr, opd_pk, opd_io, opd_var, opd_cst, opd_glb, opd_op, opd_chn, opd_slc, opd_and, opd_or, opd_not, opd_ife, opd_call, opd_lc, Ou.bd, zOp, opdl, retains, rsl, Z.rs, frl, opD, binD, cmpD, Ou.of, slD, atI, ixN, eqv_int, shaped_int, dbl, dint, zVar, zPkT, putR, ownAt, R.sl, R.d, finD, truD, zCall, locT, cstC, argsS, argS, ioIx, afterCall, putBack, zAnd, zOr, zNot, zChn, zSlc, slcD, cutD, Tg.put, setAll, seqD, isTy_tt, fmtOk, fitL, zRng1, zRng2, smallI, zChn3, zLrg1, zLrg2, zEnm, zZip, opd_chn3, opd_lrg1, opd_lrg2, T16, e, hv, sbC, atN]
theorem F18x (k b h : Nat) (hb : b ≤ sizeLine) {v t : PyData} {s : Str} (q : okV b h v) (hs : dueS v = some s) : Fd (k + 5) 18 [.fz v, .fz t] = .ret (.fr (.str s)) [.none, .none] := by
  have e := F16x k b h hb (t := t) q hs
  rw [U18]
  simp only [c__law_told]
  simp [evDef, sv, ev, Fl.of, Ev.val, Ev.no, Ev.itr, opd_pk, opd_io, opd_var, opd_cst, opd_glb, opd_op, opd_chn, opd_slc, opd_and, opd_or, opd_not, opd_ife, opd_call, opd_lc, Ou.bd, zOp, opdl, retains, rsl, Z.rs, frl, opD, binD, cmpD, Ou.of, slD, atI, ixN, eqv_int, shaped_int, dbl, dint, zVar, zPkT, putR, ownAt, R.sl, R.d, finD, truD, zCall, locT, cstC, argsS, argS, ioIx, afterCall, putBack, zAnd, zOr, zNot, zChn, zSlc, slcD, cutD, Tg.put, setAll, seqD, isTy_tt, fmtOk, fitL, zRng1, zRng2, smallI, zChn3, zLrg1, zLrg2, zEnm, zZip, opd_chn3, opd_lrg1, opd_lrg2, T16, e, hv, sbC, atN]
/-! ## the made title -/
theorem ix_mem {ss : List Int} {i : Int} (h0 : 0 ≤ i) (h1 : i < (ss.length : Int)) : ix ss i ∈ ss := by
  unfold ix
  have h2 : i.toNat < ss.length := by omega
  rw [List.getElem?_eq_getElem h2]
  exact List.getElem_mem h2
theorem right_mk {ss ord : List Int} {l : Int} {rs : List (Int × List Int)} (h : Right 40 ss l rs) (o1 : 1 ≤ ord.length) (o2 : ord.length ≤ 40) (om : ∀ i ∈ ord, 0 ≤ i ∧ i < (ss.length : Int)) : Right 40 (ord.map (ix ss)) (-1) (rs.map fun r => (r.1, ord.map (ix r.2))) := by
  obtain ⟨h1, h2, h3, h4, h5, h6, h7, h8⟩ := h
  refine ⟨by simpa using o1, by simpa using o2, fun x hx => ?_, by omega, by omega, by simpa using h6, by simpa using h7, fun r hr => ?_⟩
  · obtain ⟨i, hi, rfl⟩ := List.mem_map.mp hx
    exact h3 _ (ix_mem (om i hi).1 (om i hi).2)
  · obtain ⟨r0, hr0, rfl⟩ := List.mem_map.mp hr
    obtain ⟨a, b, c, d⟩ := h8 r0 hr0
    refine ⟨a, b, by simp, fun x hx => ?_⟩
    obtain ⟨i, hi, rfl⟩ := List.mem_map.mp hx
    exact d _ (ix_mem (om i hi).1 (by rw [c]; exact (om i hi).2))
theorem map_ix_id (ss : List Int) : (rgI 0 ss.length).map (ix ss) = ss := by
  unfold rgI ix
  rw [List.map_map]
  refine List.ext_getElem? fun i => ?_
  rw [List.getElem?_map]
  by_cases h : i < ss.length
  · rw [List.getElem?_range (by omega)]
    simp [h]
  · rw [List.getElem?_eq_none (by simp; omega), List.getElem?_eq_none (by omega)]
    rfl
theorem mk_again {ss : List Int} {l t : Int} {rs : List (Int × List Int)} (h : Right 40 ss l rs) (hl : l = -1) : mkT ss rs (ordU ss.length l t) = tD ss l rs := by
  have e : ordU ss.length l t = rgI 0 ss.length := by
    unfold ordU
    rw [if_neg (by omega), List.append_nil]
  unfold mkT
  rw [e, map_ix_id, hl]
  congr 1
  have : ∀ r ∈ rs, (r.1, (rgI 0 (ss.length : Int)).map (ix r.2)) = r := fun r hr => by
    have := (h.r r hr).2.2.1
    rw [← this, map_ix_id]
  rw [List.map_congr_left this, List.map_id']
theorem gd_spans : Gd 0 10 (.str "spans") := ⟨by decide +kernel, Nat.zero_le _, rfl, by decide +kernel, by decide +kernel⟩
theorem due_str (v : PyData) {s : Str} (h : dueS v = some s) : s = "form" ∨ s = "spans" ∨ s = "loop" ∨ s = "rates" := by
  have := due_cases v
  unfold dueD at this
  rw [h] at this
  simpa using this
theorem gd_due {s : Str} (h : s = "form" ∨ s = "spans" ∨ s = "loop" ∨ s = "rates") : Gd 0 10 (.str s) := by
  rcases h with rfl | rfl | rfl | rfl <;> exact ⟨by decide +kernel, Nat.zero_le _, rfl, by decide +kernel, by decide +kernel⟩
/-! ## law -/
abbrev TL : Tb := locT c_law.calls (tbl cs 30)
abbrev CL : Nat → Option PyData := cstC c_law.gcs
theorem t4 : tbl cs 30 4 = some (1, Fd 29 4) := T4 29
theorem t5 : tbl cs 30 5 = some (1, Fd 29 5) := T5 29
theorem t6 : tbl cs 30 6 = some (2, Fd 29 6) := T6 29
theorem t7 : tbl cs 30 7 = some (2, Fd 29 7) := T7 29
theorem t8 : tbl cs 30 8 = some (2, Fd 29 8) := T8 29
theorem t9 : tbl cs 30 9 = some (3, Fd 29 9) := T9 29
theorem t11 : tbl cs 30 11 = some (2, Fd 29 11) := T11 29
theorem t14 : tbl cs 30 14 = some (1, Fd 29 14) := T14 29
theorem t15 : tbl cs 30 15 = some (2, Fd 29 15) := T15 29
theorem t17 : tbl cs 30 17 = some (2, Fd 29 17) := T17 29
theorem t18 : tbl cs 30 18 = some (2, Fd 29 18) := T18 29
section
variable {T : Tb} {C : Nat → Option PyData}
theorem LA0 {ss ord : List Int} (hl : ord.length ≤ sizeLine) (ho : ∀ i ∈ ord, 0 ≤ i ∧ i < (ss.length : Int)) (s0 s1 s2 s3 s4 s5 s6 s8 s9 s10 s12 s14 : Sl) :
    (ev T C l_law_0).e [s0, s1, s2, s3, s4, s5, s6, .fz (tI ss), s8, s9, s10, .fz (.list (ord.map .int)), s12, .un, s14] = .ok (.nw (.list ((ord.map (ix ss)).map .int))) [s0, s1, s2, s3, s4, s5, s6, .fz (tI ss), s8, s9, s10, .fz (.list (ord.map .int)), s12, .un, s14] := by
  have h := zLc_look (tg := .nm 13) (own := [13]) (fi := (ev T C (.var 11)).i) (fc := (ev T C .yes).t) (fe := (ev T C (.op .idx (.cons (.pk 7) (.cons (.pk 13) .nil)))).e)
    (n := [s0, s1, s2, s3, s4, s5, s6, .fz (tI ss), s8, s9, s10, .fz (.list (ord.map .int)), s12, .un, s14]) (n1 := [s0, s1, s2, s3, s4, s5, s6, .fz (tI ss), s8, s9, s10, .fz (.list (ord.map .int)), s12, .un, s14]) (n0 := [s0, s1, s2, s3, s4, s5, s6, .fz (tI ss), s8, s9, s10, .fz (.list (ord.map .int)), s12, .un, s14]) (xs := ord.map .int) (p := fun _ => true) (f := fun x => .int (ix ss (toI x)))
    rfl rfl rfl rfl (fun x hx => by
      obtain ⟨i, hi, rfl⟩ := List.mem_map.mp hx
      obtain ⟨h0, h1⟩ := ho i hi
      have h2 : i.toNat < ss.length := by omega
      refine ⟨[s0, s1, s2, s3, s4, s5, s6, .fz (tI ss), s8, s9, s10, .fz (.list (ord.map .int)), s12, .fz (.int i), s14], rfl, rfl, rfl, fun _ => ⟨.fr (.int (ix ss i)), ?_, rfl⟩⟩
      simp [evDef, sv, ev, Fl.of, Ev.val, Ev.no, Ev.itr, opd_pk, opd_io, opd_var, opd_cst, opd_glb, opd_op, opd_chn, opd_slc, opd_and, opd_or, opd_not, opd_ife, opd_call, opd_lc, Ou.bd, zOp, opdl, retains, rsl, Z.rs, frl, opD, binD, cmpD, Ou.of, slD, atI, ixN, eqv_int, shaped_int, dbl, dint, zVar, zPkT, putR, ownAt, R.sl, R.d, finD, truD, zCall, locT, cstC, argsS, argS, ioIx, afterCall, putBack, zAnd, zOr, zNot, zChn, zSlc, slcD, cutD, Tg.put, setAll, seqD, isTy_tt, fmtOk, fitL, zRng1, zRng2, smallI, zChn3, zLrg1, zLrg2, zEnm, zZip, opd_chn3, opd_lrg1, opd_lrg2, tI, ix, h0, h1, h2]) (by simpa using hl)
  rw [ft, map_ix] at h
  exact h
theorem LA1 {q : Int} {sz ord : List Int} (hl : ord.length ≤ sizeLine) (ho : ∀ i ∈ ord, 0 ≤ i ∧ i < (sz.length : Int)) (s0 s1 s2 s3 s4 s5 s6 s7 s8 s9 s10 s12 : Sl) :
    (ev T C l_law_1).e [s0, s1, s2, s3, s4, s5, s6, s7, s8, s9, s10, .fz (.list (ord.map .int)), s12, .un, .fz (rD2 (q, sz))] = .ok (.nw (.list ((ord.map (ix sz)).map .int))) [s0, s1, s2, s3, s4, s5, s6, s7, s8, s9, s10, .fz (.list (ord.map .int)), s12, .un, .fz (rD2 (q, sz))] := by
  have h := zLc_look (tg := .nm 13) (own := [13]) (fi := (ev T C (.var 11)).i) (fc := (ev T C .yes).t) (fe := (ev T C (.op .idx (.cons (.op .idx (.cons (.pk 14) (.cons (.cst (.int 1)) .nil))) (.cons (.pk 13) .nil)))).e)
    (n := [s0, s1, s2, s3, s4, s5, s6, s7, s8, s9, s10, .fz (.list (ord.map .int)), s12, .un, .fz (rD2 (q, sz))]) (n1 := [s0, s1, s2, s3, s4, s5, s6, s7, s8, s9, s10, .fz (.list (ord.map .int)), s12, .un, .fz (rD2 (q, sz))]) (n0 := [s0, s1, s2, s3, s4, s5, s6, s7, s8, s9, s10, .fz (.list (ord.map .int)), s12, .un, .fz (rD2 (q, sz))]) (xs := ord.map .int) (p := fun _ => true) (f := fun x => .int (ix sz (toI x)))
    rfl rfl rfl rfl (fun x hx => by
      obtain ⟨i, hi, rfl⟩ := List.mem_map.mp hx
      obtain ⟨h0, h1⟩ := ho i hi
      have h2 : i.toNat < sz.length := by omega
      refine ⟨[s0, s1, s2, s3, s4, s5, s6, s7, s8, s9, s10, .fz (.list (ord.map .int)), s12, .fz (.int i), .fz (rD2 (q, sz))], rfl, rfl, rfl, fun _ => ⟨.fr (.int (ix sz i)), ?_, rfl⟩⟩
      simp [evDef, sv, ev, Fl.of, Ev.val, Ev.no, Ev.itr, opd_pk, opd_io, opd_var, opd_cst, opd_glb, opd_op, opd_chn, opd_slc, opd_and, opd_or, opd_not, opd_ife, opd_call, opd_lc, Ou.bd, zOp, opdl, retains, rsl, Z.rs, frl, opD, binD, cmpD, Ou.of, slD, atI, ixN, eqv_int, shaped_int, dbl, dint, zVar, zPkT, putR, ownAt, R.sl, R.d, finD, truD, zCall, locT, cstC, argsS, argS, ioIx, afterCall, putBack, zAnd, zOr, zNot, zChn, zSlc, slcD, cutD, Tg.put, setAll, seqD, isTy_tt, fmtOk, fitL, zRng1, zRng2, smallI, zChn3, zLrg1, zLrg2, zEnm, zZip, opd_chn3, opd_lrg1, opd_lrg2, rD2, tI, ix, h0, h1, h2]) (by simpa using hl)
  rw [ft, map_ix] at h
  exact h
theorem oLA0 {f : En → Ou R} {n : En} : opd l_law_0 f n = (f n).bd fun r n1 => .ok (.dd r.d) n1 := rfl
theorem oLA1 {f : En → Ou R} {n : En} : opd l_law_1 f n = (f n).bd fun r n1 => .ok (.dd r.d) n1 := rfl
theorem oLA2 {f : En → Ou R} {n : En} : opd l_law_2 f n = (f n).bd fun r n1 => .ok (.dd r.d) n1 := rfl
theorem LA2 {rs : List (Int × List Int)} {ord : List Int} (hl : ord.length ≤ sizeLine) (hr : rs.length ≤ sizeLine) (ho : ∀ r ∈ rs, ∀ i ∈ ord, 0 ≤ i ∧ i < (r.2.length : Int)) (s0 s1 s2 s3 s4 s5 s6 s7 s8 s10 s12 : Sl) :
    (ev T C l_law_2).e [s0, s1, s2, s3, s4, s5, s6, s7, s8, .fz (.tuple (rs.map rD2)), s10, .fz (.list (ord.map .int)), s12, .un, .un] = .ok (.nw (.list ((rs.map fun r => (r.1, ord.map (ix r.2))).map rD2))) [s0, s1, s2, s3, s4, s5, s6, s7, s8, .fz (.tuple (rs.map rD2)), s10, .fz (.list (ord.map .int)), s12, .un, .un] := by
  have z2 : (2 : Nat) ≤ sizeLine := by rw [sizeLine_eq]; decide
  have h := zLc_look (tg := .nm 14) (own := [14]) (fi := (ev T C (.var 9)).i) (fc := (ev T C .yes).t) (fe := (ev T C (.op .tup (.cons (.op .idx (.cons (.pk 14) (.cons (.cst (.int 0)) .nil))) (.cons (.op .tupOf (.cons l_law_1 .nil)) .nil)))).e)
    (n := [s0, s1, s2, s3, s4, s5, s6, s7, s8, .fz (.tuple (rs.map rD2)), s10, .fz (.list (ord.map .int)), s12, .un, .un]) (n1 := [s0, s1, s2, s3, s4, s5, s6, s7, s8, .fz (.tuple (rs.map rD2)), s10, .fz (.list (ord.map .int)), s12, .un, .un]) (n0 := [s0, s1, s2, s3, s4, s5, s6, s7, s8, .fz (.tuple (rs.map rD2)), s10, .fz (.list (ord.map .int)), s12, .un, .un]) (xs := rs.map rD2) (p := fun _ => true)
    (f := fun x => rD2 ((toR x).1, ord.map (ix ((toR x).2.map toI))))
    rfl rfl rfl rfl (fun x hx => by
      obtain ⟨r, hr', rfl⟩ := List.mem_map.mp hx
      have e := LA1 (T := T) (C := C) (q := r.1) (sz := r.2) hl (ho r hr') s0 s1 s2 s3 s4 s5 s6 s7 s8 (.fz (.tuple (rs.map rD2))) s10 s12
      refine ⟨[s0, s1, s2, s3, s4, s5, s6, s7, s8, .fz (.tuple (rs.map rD2)), s10, .fz (.list (ord.map .int)), s12, .un, .fz (rD2 r)], rfl, rfl, rfl, fun _ => ⟨.fr (rD2 (r.1, ord.map (ix r.2))), ?_, ?_⟩⟩
      · have hrd : rD2 (r.1, r.2) = .tuple [.int r.1, tI r.2] := rfl
        have hrd2 : rD2 r = .tuple [.int r.1, tI r.2] := rfl
        rw [hrd] at e
        simp [evDef, sv, ev, Fl.of, Ev.val, Ev.no, Ev.itr, opd_pk, opd_io, opd_var, opd_cst, opd_glb, opd_op, opd_chn, opd_slc, opd_and, opd_or, opd_not, opd_ife, opd_call, opd_lc, Ou.bd, zOp, opdl, retains, rsl, Z.rs, frl, opD, binD, cmpD, Ou.of, slD, atI, ixN, eqv_int, shaped_int, dbl, dint, zVar, zPkT, putR, ownAt, R.sl, R.d, finD, truD, zCall, locT, cstC, argsS, argS, ioIx, afterCall, putBack, zAnd, zOr, zNot, zChn, zSlc, slcD, cutD, Tg.put, setAll, seqD, isTy_tt, fmtOk, fitL, zRng1, zRng2, smallI, zChn3, zLrg1, zLrg2, zEnm, zZip, opd_chn3, opd_lrg1, opd_lrg2, oLA1, e, z2, hrd2]
        simp only [rD2, tI, List.map_map]
      · show rD2 _ = rD2 (r.1, ord.map (ix ((r.2.map PyData.int).map toI)))
        rw [List.map_map, show toI ∘ PyData.int = id from rfl, List.map_id]) (by simpa using hr)
  rw [ft] at h
  have e : (rs.map rD2).map (fun x => rD2 ((toR x).1, ord.map (ix ((toR x).2.map toI)))) = (rs.map fun r => (r.1, ord.map (ix r.2))).map rD2 := by
    rw [List.map_map, List.map_map]
    refine List.map_congr_left fun r _ => ?_
    show rD2 (r.1, ord.map (ix ((r.2.map PyData.int).map toI))) = _
    rw [List.map_map, show toI ∘ PyData.int = id from rfl, List.map_id]
    rfl
  rw [e] at h
  exact h
end
/-! ### piece by piece -/
theorem bL0 {ss : List Int} {l p : Int} {rs : List (Int × List Int)} (h : Right 12 ss l rs) (h0 : 0 ≤ p) (h1 : p < ss.length) (s0 s1 s2 s5 s6 s9 s10 s11 s12 s13 s14 : Sl) (u : unfz s10) :
    ∃ dv, sv TL CL b_law_0 [s0, s1, s2, .fz (tD ss l rs), .fz (.int p), s5, s6, .fz (tI ss), .fz (.int l), s9, s10, s11, s12, s13, s14] = .nx [s0, s1, s2, .fz (tD ss l rs), .fz (.int p), s5, s6, .fz (tI ss), .fz (.int l), s9, .fz dv, s11, s12, s13, s14] := by
  have e15 := F15 29 ss l p rs
  have hl := h.l1
  have hl2 := h.l2
  have hn := h.n2
  have g : Gd 0 41 (.int (if p + 1 < (ss.length : Int) then p + 1 else l)) := Gd.int (Nat.lt_of_lt_of_le (show (if p + 1 < (ss.length : Int) then p + 1 else l).natAbs < 101 by split <;> omega) (by decide))
  have e8 := F8g 29 g (by omega) (by have := sz1000; omega)
  refine ⟨.int (if p + 1 < (ss.length : Int) then p + 1 else l), ?_⟩
  refine sv_nx (n1 := [s0, s1, s2, .fz (tD ss l rs), .fz (.int p), s5, s6, .fz (tI ss), .fz (.int l), s9, .fz (.int (if p + 1 < (ss.length : Int) then p + 1 else l)), s11, s12, s13, s14]) (sv_set (r := .fr (.int (if p + 1 < (ss.length : Int) then p + 1 else l))) (n1 := [s0, s1, s2, .fz (tD ss l rs), .fz (.int p), s5, s6, .fz (tI ss), .fz (.int l), s9, s10, s11, s12, s13, s14]) (t := s10) ?_ rfl (np_unfz u)) ?_
  · by_cases g1 : p + 1 < (ss.length : Int)
    · simp [evDef, sv, ev, Fl.of, Ev.val, Ev.no, Ev.itr, opd_pk, opd_io, opd_var, opd_cst, opd_glb, opd_op, opd_chn, opd_slc, opd_and, opd_or, opd_not, opd_ife, opd_call, opd_lc, Ou.bd, zOp, opdl, retains, rsl, Z.rs, frl, opD, binD, cmpD, Ou.of, slD, atI, ixN, eqv_int, shaped_int, dbl, dint, zVar, zPkT, putR, ownAt, R.sl, R.d, finD, truD, zCall, locT, cstC, argsS, argS, ioIx, afterCall, putBack, zAnd, zOr, zNot, zChn, zSlc, slcD, cutD, Tg.put, setAll, seqD, isTy_tt, fmtOk, fitL, zRng1, zRng2, smallI, zChn3, zLrg1, zLrg2, zEnm, zZip, opd_chn3, opd_lrg1, opd_lrg2, tI, g1]
    · simp [evDef, sv, ev, Fl.of, Ev.val, Ev.no, Ev.itr, opd_pk, opd_io, opd_var, opd_cst, opd_glb, opd_op, opd_chn, opd_slc, opd_and, opd_or, opd_not, opd_ife, opd_call, opd_lc, Ou.bd, zOp, opdl, retains, rsl, Z.rs, frl, opD, binD, cmpD, Ou.of, slD, atI, ixN, eqv_int, shaped_int, dbl, dint, zVar, zPkT, putR, ownAt, R.sl, R.d, finD, truD, zCall, locT, cstC, argsS, argS, ioIx, afterCall, putBack, zAnd, zOr, zNot, zChn, zSlc, slcD, cutD, Tg.put, setAll, seqD, isTy_tt, fmtOk, fitL, zRng1, zRng2, smallI, zChn3, zLrg1, zLrg2, zEnm, zZip, opd_chn3, opd_lrg1, opd_lrg2, tI, g1]
  · generalize (if p + 1 < (ss.length : Int) then p + 1 else l) = dv at *
    generalize tD ss l rs = tt at *
    simp only [TL, CL, c_law]
    simp [evDef, sv, ev, Fl.of, Ev.val, Ev.no, Ev.itr, opd_pk, opd_io, opd_var, opd_cst, opd_glb, opd_op, opd_chn, opd_slc, opd_and, opd_or, opd_not, opd_ife, opd_call, opd_lc, Ou.bd, zOp, opdl, retains, rsl, Z.rs, frl, opD, binD, cmpD, Ou.of, slD, atI, ixN, eqv_int, shaped_int, dbl, dint, zVar, zPkT, putR, ownAt, R.sl, R.d, finD, truD, zCall, locT, cstC, argsS, argS, ioIx, afterCall, putBack, zAnd, zOr, zNot, zChn, zSlc, slcD, cutD, Tg.put, setAll, seqD, isTy_tt, fmtOk, fitL, zRng1, zRng2, smallI, zChn3, zLrg1, zLrg2, zEnm, zZip, opd_chn3, opd_lrg1, opd_lrg2, t8, t15, e15, e8]
theorem loop0 {ss : List Int} {l : Int} {rs : List (Int × List Int)} (h : Right 12 ss l rs) (s0 s1 s2 s5 s6 s9 s11 s12 s13 s14 : Sl) : ∀ (xs : List Int) (s4 s10 : Sl), (∀ x ∈ xs, 0 ≤ x ∧ x < (ss.length : Int)) → unfz s4 → unfz s10 → ∃ s4' s10', unfz s4' ∧ unfz s10' ∧
    forGo (.nm 4) (sv TL CL b_law_0) (xs.map .int) [s0, s1, s2, .fz (tD ss l rs), s4, s5, s6, .fz (tI ss), .fz (.int l), s9, s10, s11, s12, s13, s14] = .nx [s0, s1, s2, .fz (tD ss l rs), s4', s5, s6, .fz (tI ss), .fz (.int l), s9, s10', s11, s12, s13, s14]
  | [], s4, s10, _, u4, u10 => ⟨s4, s10, u4, u10, rfl⟩
  | x :: xs, s4, s10, hx, u4, u10 => by
    have hp : (Tg.nm 4).put (.int x) [s0, s1, s2, .fz (tD ss l rs), s4, s5, s6, .fz (tI ss), .fz (.int l), s9, s10, s11, s12, s13, s14] = some [s0, s1, s2, .fz (tD ss l rs), .fz (.int x), s5, s6, .fz (tI ss), .fz (.int l), s9, s10, s11, s12, s13, s14] := by rcases u4 with rfl | ⟨y, rfl⟩ <;> rfl
    obtain ⟨dv, e⟩ := bL0 h (hx x List.mem_cons_self).1 (hx x List.mem_cons_self).2 s0 s1 s2 s5 s6 s9 s10 s11 s12 s13 s14 u10
    obtain ⟨a, b, ua, ub, e2⟩ := loop0 h s0 s1 s2 s5 s6 s9 s11 s12 s13 s14 xs (.fz (.int x)) (.fz dv) (fun y hy => hx y (List.mem_cons_of_mem _ hy)) (.inr ⟨_, rfl⟩) (.inr ⟨_, rfl⟩)
    refine ⟨a, b, ua, ub, ?_⟩
    rw [List.map_cons, forGo_cons, hp]
    dsimp only
    rw [e]
    exact e2
end Z

set_option Elab.async false
set_option linter.all false
set_option maxRecDepth 100000
set_option maxHeartbeats 0
namespace Z
open PySem PySem.Spec PyProof.Rows L2
theorem Right.up {m m' : Nat} {ss : List Int} {l : Int} {rs : List (Int × List Int)} (h : Right m ss l rs) (hm : m ≤ m') : Right m' ss l rs := ⟨h.n1, Nat.le_trans h.n2 hm, h.s, h.l1, h.l2, h.r1, h.r2, h.r⟩
/-! ### number of turns by number of turns -/
theorem step6A {M : PyData} {t : Int} (e4 : Fd 29 4 [.fz M] = .ret (.fr .none) [.none]) (e18 : Fd 29 18 [.fz M, .fz (.int t)] = .ret (.fr M) [.none, .none]) (e8 : Fd 29 8 [.fz M, .fz M] = .ret (.fr (.bool true)) [.none, .none])
    (g1 : SeqAt.shaped M = true) (g2 : SeqAt.shaped (.str "spans") = true) (g3 : PyData.eqv M (.str "spans") = false) (s0 s1 s2 s3 s4 s6 s7 s8 s9 s11 : Sl) :
    sv TL CL (.ife (.and (.op (.cmp .ne) (.cons (.pk 10) (.cons (.cst (.str "spans")) .nil))) (.or (.op (.cmp .isn) (.cons (.call 8 (.cons (.var 12) .nil)) (.cons (.cst .none) .nil))) (.not (.call 4 (.cons (.call 7 (.cons (.var 12) (.cons (.var 5) .nil))) (.cons (.var 12) .nil))))))
   (.cons (.ret (.cst (.bool false))) .nil) .nil) [s0, s1, s2, s3, s4, .fz (.int t), s6, s7, s8, s9, .fz M, s11, .fz M, .un, .un] = .nx [s0, s1, s2, s3, s4, .fz (.int t), s6, s7, s8, s9, .fz M, s11, .fz M, .un, .un] := by
  simp only [TL, CL, c_law]
  simp [evDef, sv, ev, Fl.of, Ev.val, Ev.no, Ev.itr, opd_pk, opd_io, opd_var, opd_cst, opd_glb, opd_op, opd_chn, opd_slc, opd_and, opd_or, opd_not, opd_ife, opd_call, opd_lc, Ou.bd, zOp, opdl, retains, rsl, Z.rs, frl, opD, binD, cmpD, Ou.of, slD, atI, ixN, eqv_int, shaped_int, dbl, dint, zVar, zPkT, putR, ownAt, R.sl, R.d, finD, truD, zCall, locT, cstC, argsS, argS, ioIx, afterCall, putBack, zAnd, zOr, zNot, zChn, zSlc, slcD, cutD, Tg.put, setAll, seqD, isTy_tt, fmtOk, fitL, zRng1, zRng2, smallI, zChn3, zLrg1, zLrg2, zEnm, zZip, opd_chn3, opd_lrg1, opd_lrg2, t4, t8, t18, e4, e18, e8, g1, g2, g3, isNone]
theorem step6B (g2 : SeqAt.shaped (.str "spans") = true) (g3 : PyData.eqv (.str "spans") (.str "spans") = true) (a : E) (b : S) (s0 s1 s2 s3 s4 s5 s6 s7 s8 s9 s11 s12 : Sl) :
    sv TL CL (.ife (.and (.op (.cmp .ne) (.cons (.pk 10) (.cons (.cst (.str "spans")) .nil))) a) b .nil) [s0, s1, s2, s3, s4, s5, s6, s7, s8, s9, .fz (.str "spans"), s11, s12, .un, .un] = .nx [s0, s1, s2, s3, s4, s5, s6, s7, s8, s9, .fz (.str "spans"), s11, s12, .un, .un] := by
  simp [evDef, sv, ev, Fl.of, Ev.val, Ev.no, Ev.itr, opd_pk, opd_io, opd_var, opd_cst, opd_glb, opd_op, opd_chn, opd_slc, opd_and, opd_or, opd_not, opd_ife, opd_call, opd_lc, Ou.bd, zOp, opdl, retains, rsl, Z.rs, frl, opD, binD, cmpD, Ou.of, slD, atI, ixN, eqv_int, shaped_int, dbl, dint, zVar, zPkT, putR, ownAt, R.sl, R.d, finD, truD, zCall, locT, cstC, argsS, argS, ioIx, afterCall, putBack, zAnd, zOr, zNot, zChn, zSlc, slcD, cutD, Tg.put, setAll, seqD, isTy_tt, fmtOk, fitL, zRng1, zRng2, smallI, zChn3, zLrg1, zLrg2, zEnm, zZip, opd_chn3, opd_lrg1, opd_lrg2, g2, g3]
theorem step5 {M : PyData} (e8 : Fd 29 8 [.fz M, .fz M] = .ret (.fr (.bool true)) [.none, .none]) (s0 s1 s2 s3 s4 s5 s6 s7 s8 s9 s11 : Sl) :
    sv TL CL (.ife (.not (.call 4 (.cons (.var 12) (.cons (.var 10) .nil)))) (.cons (.ret (.cst (.bool false))) .nil) .nil) [s0, s1, s2, s3, s4, s5, s6, s7, s8, s9, .fz M, s11, .fz M, .un, .un] = .nx [s0, s1, s2, s3, s4, s5, s6, s7, s8, s9, .fz M, s11, .fz M, .un, .un] := by
  simp only [TL, CL, c_law]
  simp [evDef, sv, ev, Fl.of, Ev.val, Ev.no, Ev.itr, opd_pk, opd_io, opd_var, opd_cst, opd_glb, opd_op, opd_chn, opd_slc, opd_and, opd_or, opd_not, opd_ife, opd_call, opd_lc, Ou.bd, zOp, opdl, retains, rsl, Z.rs, frl, opD, binD, cmpD, Ou.of, slD, atI, ixN, eqv_int, shaped_int, dbl, dint, zVar, zPkT, putR, ownAt, R.sl, R.d, finD, truD, zCall, locT, cstC, argsS, argS, ioIx, afterCall, putBack, zAnd, zOr, zNot, zChn, zSlc, slcD, cutD, Tg.put, setAll, seqD, isTy_tt, fmtOk, fitL, zRng1, zRng2, smallI, zChn3, zLrg1, zLrg2, zEnm, zZip, opd_chn3, opd_lrg1, opd_lrg2, t8, e8]
theorem eqv_mk (ss : List Int) (rs : List (Int × List Int)) (ord : List Int) (x : Str) : PyData.eqv (mkT ss rs ord) (.str x) = false := by
  simp [mkT, tD, PyData.eqv]
theorem bL1 {ss : List Int} {l t : Int} {rs : List (Int × List Int)} (h : Right 12 ss l rs) (ht : 0 ≤ t) (s0 s1 s2 s4 s6 s10 s11 s12 : Sl) (u10 : unfz s10) (u11 : unfz s11) (u12 : unfz s12) :
    ∃ a b c, sv TL CL b_law_1 [s0, s1, s2, .fz (tD ss l rs), s4, .fz (.int t), s6, .fz (tI ss), .fz (.int l), .fz (.tuple (rs.map rD2)), s10, s11, s12, .un, .un] = .nx [s0, s1, s2, .fz (tD ss l rs), s4, .fz (.int t), s6, .fz (tI ss), .fz (.int l), .fz (.tuple (rs.map rD2)), .fz a, .fz b, .fz c, .un, .un] := by
  have h40 : Right 40 ss l rs := h.up (by omega)
  have e17 : Fd 29 17 [.fz (tD ss l rs), .fz (.int t)] = _ := F17 29 (rs := rs) h.n1 h.l2 ht
  have e18 : Fd 29 18 [.fz (tD ss l rs), .fz (.int t)] = _ := F18r 24 h40 ht
  have z100 := sz100000
  have hn1 := h.n1
  have hl2 := h.l2
  by_cases hs : (full ss.length l t).length ≤ 40
  · have eo := ord_short hn1 hl2 hs
    rw [List.take_of_length_le (by omega), ← eo] at e17
    rw [← eo] at hs
    have om : ∀ i ∈ ordU ss.length l t, 0 ≤ i ∧ i < (ss.length : Int) := fun i hi => ordU_mem hi
    have on : 1 ≤ (ordU ss.length l t).length := by rw [ordU_lenE]; omega
    have rM := right_mk h40 on hs om
    have dM : dueS (mkT ss rs (ordU ss.length l t)) = none := due_right rM
    have gM : Gd 4 100000 (mkT ss rs (ordU ss.length l t)) := gd_right rM
    unfold toldU at e18
    rw [dM] at e18
    have e4 := F4 26 1000 4 sz1000 (okV_tD (ss := (ordU ss.length l t).map (ix ss)) (l := -1) (rs := rs.map fun r => (r.1, (ordU ss.length l t).map (ix r.2))) (by simp; omega) (by have := h.r2; simp; omega) fun r hr => by
      obtain ⟨r0, _, rfl⟩ := List.mem_map.mp hr
      simp; omega)
    have e4 : Fd 29 4 [.fz (mkT ss rs (ordU ss.length l t))] = outC (mkT ss rs (ordU ss.length l t)) := e4
    unfold outC at e4
    rw [dM] at e4
    have e182 : Fd 29 18 [.fz (mkT ss rs (ordU ss.length l t)), .fz (.int t)] = _ := F18r 24 rM ht
    rw [mk_again rM rfl] at e182
    have e182 : Fd 29 18 [.fz (mkT ss rs (ordU ss.length l t)), .fz (.int t)] = .ret (.fr (toldU (mkT ss rs (ordU ss.length l t)))) [.none, .none] := e182
    unfold toldU at e182
    rw [dM] at e182
    have e8 := F8g 29 gM (by omega) z100
    have g3 := eqv_mk ss rs (ordU ss.length l t) "spans"
    have a0 := fun s3 s8 s9 s10 s12 => LA0 (T := TL) (C := CL) (ss := ss) (ord := ordU ss.length l t) (by omega) om s0 s1 s2 s3 s4 (.fz (.int t)) s6 s8 s9 s10 s12 .un
    have a2 := fun s3 s7 s8 s10 s12 => LA2 (T := TL) (C := CL) (rs := rs) (ord := ordU ss.length l t) (by omega) (by have := h.r2; omega) (fun r hr i hi => by rw [(h.r r hr).2.2.1]; exact om i hi) s0 s1 s2 s3 s4 (.fz (.int t)) s6 s7 s8 s10 s12
    have hm : mkT ss rs (ordU ss.length l t) = .tuple [.tuple (((ordU ss.length l t).map (ix ss)).map .int), .int (-1), .tuple ((rs.map fun r => (r.1, (ordU ss.length l t).map (ix r.2))).map rD2)] := rfl
    have i40 : (((ordU ss.length l t).map PyData.int).length : Int) ≤ 40 := by rw [nI_len]; omega
    have i41 : ((ordU ss.length l t).map PyData.int).length ≤ 40 := by rw [nI_len]; omega
    have z3 : (3 : Nat) ≤ sizeLine := by omega
    generalize mkT ss rs (ordU ss.length l t) = M at *
    generalize ((ordU ss.length l t).map (ix ss)).map PyData.int = S1 at *
    generalize (rs.map fun r => (r.1, (ordU ss.length l t).map (ix r.2))).map rD2 = R1 at *
    generalize (ordU ss.length l t).map PyData.int = O at *
    refine ⟨M, .list O, M, ?_⟩
    generalize tD ss l rs = tt at *
    refine sv_nx (n1 := [s0, s1, s2, .fz tt, s4, .fz (.int t), s6, .fz (tI ss), .fz (.int l), .fz (.tuple (rs.map rD2)), s10, .fz (.list O), s12, .un, .un]) (sv_set (r := .fr (.list O)) (n1 := [s0, s1, s2, .fz tt, s4, .fz (.int t), s6, .fz (tI ss), .fz (.int l), .fz (.tuple (rs.map rD2)), s10, s11, s12, .un, .un]) (t := s11) (by simp only [TL, CL, c_law]; simp [evDef, sv, ev, Fl.of, Ev.val, Ev.no, Ev.itr, opd_pk, opd_io, opd_var, opd_cst, opd_glb, opd_op, opd_chn, opd_slc, opd_and, opd_or, opd_not, opd_ife, opd_call, opd_lc, Ou.bd, zOp, opdl, retains, rsl, Z.rs, frl, opD, binD, cmpD, Ou.of, slD, atI, ixN, eqv_int, shaped_int, dbl, dint, zVar, zPkT, putR, ownAt, R.sl, R.d, finD, truD, zCall, locT, cstC, argsS, argS, ioIx, afterCall, putBack, zAnd, zOr, zNot, zChn, zSlc, slcD, cutD, Tg.put, setAll, seqD, isTy_tt, fmtOk, fitL, zRng1, zRng2, smallI, zChn3, zLrg1, zLrg2, zEnm, zZip, opd_chn3, opd_lrg1, opd_lrg2, t17, e17]) rfl (np_unfz u11)) ?_
    refine sv_nx (n1 := [s0, s1, s2, .fz tt, s4, .fz (.int t), s6, .fz (tI ss), .fz (.int l), .fz (.tuple (rs.map rD2)), .fz (.str "spans"), .fz (.list O), s12, .un, .un]) (sv_set (r := .fr (.str "spans")) (n1 := [s0, s1, s2, .fz tt, s4, .fz (.int t), s6, .fz (tI ss), .fz (.int l), .fz (.tuple (rs.map rD2)), s10, .fz (.list O), s12, .un, .un]) (t := s10) rfl rfl (np_unfz u10)) ?_
    refine sv_nx (n1 := [s0, s1, s2, .fz tt, s4, .fz (.int t), s6, .fz (tI ss), .fz (.int l), .fz (.tuple (rs.map rD2)), .fz M, .fz (.list O), s12, .un, .un]) (by rw [hm]; simp [evDef, sv, ev, Fl.of, Ev.val, Ev.no, Ev.itr, opd_pk, opd_io, opd_var, opd_cst, opd_glb, opd_op, opd_chn, opd_slc, opd_and, opd_or, opd_not, opd_ife, opd_call, opd_lc, Ou.bd, zOp, opdl, retains, rsl, Z.rs, frl, opD, binD, cmpD, Ou.of, slD, atI, ixN, eqv_int, shaped_int, dbl, dint, zVar, zPkT, putR, ownAt, R.sl, R.d, finD, truD, zCall, locT, cstC, argsS, argS, ioIx, afterCall, putBack, zAnd, zOr, zNot, zChn, zSlc, slcD, cutD, Tg.put, setAll, seqD, isTy_tt, fmtOk, fitL, zRng1, zRng2, smallI, zChn3, zLrg1, zLrg2, zEnm, zZip, opd_chn3, opd_lrg1, opd_lrg2, i40, i41, oLA0, oLA2, a0, a2, z3]) ?_
    refine sv_nx (n1 := [s0, s1, s2, .fz tt, s4, .fz (.int t), s6, .fz (tI ss), .fz (.int l), .fz (.tuple (rs.map rD2)), .fz M, .fz (.list O), .fz M, .un, .un]) (sv_set (r := .fr M) (n1 := [s0, s1, s2, .fz tt, s4, .fz (.int t), s6, .fz (tI ss), .fz (.int l), .fz (.tuple (rs.map rD2)), .fz M, .fz (.list O), s12, .un, .un]) (t := s12) (by simp only [TL, CL, c_law]; simp [evDef, sv, ev, Fl.of, Ev.val, Ev.no, Ev.itr, opd_pk, opd_io, opd_var, opd_cst, opd_glb, opd_op, opd_chn, opd_slc, opd_and, opd_or, opd_not, opd_ife, opd_call, opd_lc, Ou.bd, zOp, opdl, retains, rsl, Z.rs, frl, opD, binD, cmpD, Ou.of, slD, atI, ixN, eqv_int, shaped_int, dbl, dint, zVar, zPkT, putR, ownAt, R.sl, R.d, finD, truD, zCall, locT, cstC, argsS, argS, ioIx, afterCall, putBack, zAnd, zOr, zNot, zChn, zSlc, slcD, cutD, Tg.put, setAll, seqD, isTy_tt, fmtOk, fitL, zRng1, zRng2, smallI, zChn3, zLrg1, zLrg2, zEnm, zZip, opd_chn3, opd_lrg1, opd_lrg2, t18, e18]) rfl (np_unfz u12)) ?_
    refine sv_nx (step5 e8 _ _ _ _ _ _ _ _ _ _ _) ?_
    exact sv_nx (step6A e4 e182 e8 (gM.shaped (by omega)) (gd_spans.shaped (by omega)) g3 _ _ _ _ _ _ _ _ _ _) sv_end
  · have hs : 40 < (full ss.length l t).length := by omega
    have ol := ord_long hn1 hl2 hs
    have dM : dueS (mkT ss rs (ordU ss.length l t)) = some "spans" := due_long (by simpa using ol)
    unfold toldU at e18
    rw [dM] at e18
    have e8 := F8g 29 gd_spans (by omega) (by omega)
    have lo : 40 < ((full ss.length l t).take 2000).length := by rw [List.length_take]; omega
    have i40 : ¬ ((((full ss.length l t).take 2000).map PyData.int).length : Int) ≤ 40 := by rw [nI_len]; omega
    have i41 : ¬ (((full ss.length l t).take 2000).map PyData.int).length ≤ 40 := by rw [nI_len]; omega
    generalize ((full ss.length l t).take 2000).map PyData.int = O at *
    refine ⟨.str "spans", .list O, .str "spans", ?_⟩
    generalize tD ss l rs = tt at *
    refine sv_nx (n1 := [s0, s1, s2, .fz tt, s4, .fz (.int t), s6, .fz (tI ss), .fz (.int l), .fz (.tuple (rs.map rD2)), s10, .fz (.list O), s12, .un, .un]) (sv_set (r := .fr (.list O)) (n1 := [s0, s1, s2, .fz tt, s4, .fz (.int t), s6, .fz (tI ss), .fz (.int l), .fz (.tuple (rs.map rD2)), s10, s11, s12, .un, .un]) (t := s11) (by simp only [TL, CL, c_law]; simp [evDef, sv, ev, Fl.of, Ev.val, Ev.no, Ev.itr, opd_pk, opd_io, opd_var, opd_cst, opd_glb, opd_op, opd_chn, opd_slc, opd_and, opd_or, opd_not, opd_ife, opd_call, opd_lc, Ou.bd, zOp, opdl, retains, rsl, Z.rs, frl, opD, binD, cmpD, Ou.of, slD, atI, ixN, eqv_int, shaped_int, dbl, dint, zVar, zPkT, putR, ownAt, R.sl, R.d, finD, truD, zCall, locT, cstC, argsS, argS, ioIx, afterCall, putBack, zAnd, zOr, zNot, zChn, zSlc, slcD, cutD, Tg.put, setAll, seqD, isTy_tt, fmtOk, fitL, zRng1, zRng2, smallI, zChn3, zLrg1, zLrg2, zEnm, zZip, opd_chn3, opd_lrg1, opd_lrg2, t17, e17]) rfl (np_unfz u11)) ?_
    refine sv_nx (n1 := [s0, s1, s2, .fz tt, s4, .fz (.int t), s6, .fz (tI ss), .fz (.int l), .fz (.tuple (rs.map rD2)), .fz (.str "spans"), .fz (.list O), s12, .un, .un]) (sv_set (r := .fr (.str "spans")) (n1 := [s0, s1, s2, .fz tt, s4, .fz (.int t), s6, .fz (tI ss), .fz (.int l), .fz (.tuple (rs.map rD2)), s10, .fz (.list O), s12, .un, .un]) (t := s10) rfl rfl (np_unfz u10)) ?_
    refine sv_nx (n1 := [s0, s1, s2, .fz tt, s4, .fz (.int t), s6, .fz (tI ss), .fz (.int l), .fz (.tuple (rs.map rD2)), .fz (.str "spans"), .fz (.list O), s12, .un, .un]) (by simp [evDef, sv, ev, Fl.of, Ev.val, Ev.no, Ev.itr, opd_pk, opd_io, opd_var, opd_cst, opd_glb, opd_op, opd_chn, opd_slc, opd_and, opd_or, opd_not, opd_ife, opd_call, opd_lc, Ou.bd, zOp, opdl, retains, rsl, Z.rs, frl, opD, binD, cmpD, Ou.of, slD, atI, ixN, eqv_int, shaped_int, dbl, dint, zVar, zPkT, putR, ownAt, R.sl, R.d, finD, truD, zCall, locT, cstC, argsS, argS, ioIx, afterCall, putBack, zAnd, zOr, zNot, zChn, zSlc, slcD, cutD, Tg.put, setAll, seqD, isTy_tt, fmtOk, fitL, zRng1, zRng2, smallI, zChn3, zLrg1, zLrg2, zEnm, zZip, opd_chn3, opd_lrg1, opd_lrg2, i40, i41]) ?_
    refine sv_nx (n1 := [s0, s1, s2, .fz tt, s4, .fz (.int t), s6, .fz (tI ss), .fz (.int l), .fz (.tuple (rs.map rD2)), .fz (.str "spans"), .fz (.list O), .fz (.str "spans"), .un, .un]) (sv_set (r := .fr (.str "spans")) (n1 := [s0, s1, s2, .fz tt, s4, .fz (.int t), s6, .fz (tI ss), .fz (.int l), .fz (.tuple (rs.map rD2)), .fz (.str "spans"), .fz (.list O), s12, .un, .un]) (t := s12) (by simp only [TL, CL, c_law]; simp [evDef, sv, ev, Fl.of, Ev.val, Ev.no, Ev.itr, opd_pk, opd_io, opd_var, opd_cst, opd_glb, opd_op, opd_chn, opd_slc, opd_and, opd_or, opd_not, opd_ife, opd_call, opd_lc, Ou.bd, zOp, opdl, retains, rsl, Z.rs, frl, opD, binD, cmpD, Ou.of, slD, atI, ixN, eqv_int, shaped_int, dbl, dint, zVar, zPkT, putR, ownAt, R.sl, R.d, finD, truD, zCall, locT, cstC, argsS, argS, ioIx, afterCall, putBack, zAnd, zOr, zNot, zChn, zSlc, slcD, cutD, Tg.put, setAll, seqD, isTy_tt, fmtOk, fitL, zRng1, zRng2, smallI, zChn3, zLrg1, zLrg2, zEnm, zZip, opd_chn3, opd_lrg1, opd_lrg2, t18, e18]) rfl (np_unfz u12)) ?_
    refine sv_nx (step5 e8 _ _ _ _ _ _ _ _ _ _ _) ?_
    exact sv_nx (step6B (gd_spans.shaped (by omega)) gd_spans.refl _ _ _ _ _ _ _ _ _ _ _ _ _ _) sv_end
theorem loop1 {ss : List Int} {l : Int} {rs : List (Int × List Int)} (h : Right 12 ss l rs) (s0 s1 s2 s4 s6 : Sl) : ∀ (xs : List Int) (s5 s10 s11 s12 : Sl), (∀ x ∈ xs, 0 ≤ x) → unfz s5 → unfz s10 → unfz s11 → unfz s12 → ∃ a b c e, unfz a ∧ unfz b ∧ unfz c ∧ unfz e ∧
    forGo (.nm 5) (sv TL CL b_law_1) (xs.map .int) [s0, s1, s2, .fz (tD ss l rs), s4, s5, s6, .fz (tI ss), .fz (.int l), .fz (.tuple (rs.map rD2)), s10, s11, s12, .un, .un] = .nx [s0, s1, s2, .fz (tD ss l rs), s4, a, s6, .fz (tI ss), .fz (.int l), .fz (.tuple (rs.map rD2)), b, c, e, .un, .un]
  | [], s5, s10, s11, s12, _, u5, u10, u11, u12 => ⟨s5, s10, s11, s12, u5, u10, u11, u12, rfl⟩
  | x :: xs, s5, s10, s11, s12, hx, u5, u10, u11, u12 => by
    have hp : (Tg.nm 5).put (.int x) [s0, s1, s2, .fz (tD ss l rs), s4, s5, s6, .fz (tI ss), .fz (.int l), .fz (.tuple (rs.map rD2)), s10, s11, s12, .un, .un] = some [s0, s1, s2, .fz (tD ss l rs), s4, .fz (.int x), s6, .fz (tI ss), .fz (.int l), .fz (.tuple (rs.map rD2)), s10, s11, s12, .un, .un] := by rcases u5 with rfl | ⟨y, rfl⟩ <;> rfl
    obtain ⟨a1, b1, c1, e⟩ := bL1 h (hx x List.mem_cons_self) s0 s1 s2 s4 s6 s10 s11 s12 u10 u11 u12
    obtain ⟨a, b, c, f, ua, ub, uc, uf, e2⟩ := loop1 h s0 s1 s2 s4 s6 xs (.fz (.int x)) (.fz a1) (.fz b1) (.fz c1) (fun y hy => hx y (List.mem_cons_of_mem _ hy)) (.inr ⟨_, rfl⟩) (.inr ⟨_, rfl⟩) (.inr ⟨_, rfl⟩) (.inr ⟨_, rfl⟩)
    refine ⟨a, b, c, f, ua, ub, uc, uf, ?_⟩
    rw [List.map_cons, forGo_cons, hp]
    dsimp only
    rw [e]
    exact e2
end Z

set_option Elab.async false
set_option linter.all false
set_option maxRecDepth 100000
set_option maxHeartbeats 0
namespace Z
open PySem PySem.Spec PyProof.Rows L2
theorem draw29 {d : PyData} {m : Int} (h : St d) (hm : 1 ≤ m) (hm2 : m < 1073741824) : ∃ v d', Fd 29 6 [.pn d, .fz (.int m)] = .ret (.fr (.int v)) [d', .none] ∧ St d' ∧ 0 ≤ v ∧ v < m := draw 29 h hm hm2
theorem pick29 {d : PyData} {is : List Int} (hd : St d) (h1 : is ≠ []) (h2 : is.length ≤ 7) : ∃ x d', Fd 29 7 [.pn d, .fz (.list (is.map .int))] = .ret (.fr (.int x)) [d', .none] ∧ St d' ∧ x ∈ is := pickI 28 hd h1 h2
theorem title29 {d : PyData} {mo : Int} (hd : St d) (hm0 : 1 ≤ mo) (hm1 : mo ≤ 12) : ∃ ss l rs d', Fd 29 9 [.pn d, .fz (.int mo), .fz (.bool true)] = .ret (.fr (tD ss l rs)) [d', .none, .none] ∧ St d' ∧ Right 12 ss l rs := F9 27 hd hm0 hm1
theorem spoil29 {d v : PyData} (hd : St d) (q : okV 1000 4 v) : ∃ v' d', Fd 29 11 [.pn d, .fz v] = .ret (.fr v') [d', .none] ∧ St d' ∧ okV 2002 8 v' := F11 1000 (by have := sz100000; omega) (by omega) 4 26 (by omega) d v hd q
theorem due29 {v : PyData} (q : okV 2002 8 v) : Fd 29 14 [.fz v] = .ret (.fr (dueD v)) [.none] := F14 27 2002 8 (by have := sz100000; omega) q
theorem told29 {v t : PyData} {s : Str} (q : okV 2002 8 v) (hs : dueS v = some s) : Fd 29 18 [.fz v, .fz t] = .ret (.fr (.str s)) [.none, .none] := F18x 24 2002 8 (by have := sz100000; omega) q hs
theorem stepT {d : PyData} (hd : St d) (s0 s2 s3 s4 s5 s6 s7 s8 s9 s10 s11 s12 : Sl) (u3 : unfz s3) : ∃ ss l rs d', St d' ∧ Right 12 ss l rs ∧
    sv TL CL (.set (.nm 3) (.call 2 (.cons (.io 1) (.cons (.call 1 (.cons (.io 1) (.cons (.op .lst (.cons (.cst (.int 1)) (.cons (.cst (.int 3)) (.cons (.cst (.int 6)) (.cons (.cst (.int 12)) .nil))))) .nil))) (.cons (.cst (.bool true)) .nil))))) [s0, .ow d, s2, s3, s4, s5, s6, s7, s8, s9, s10, s11, s12, .un, .un] = .nx [s0, .ow d', s2, .fz (tD ss l rs), s4, s5, s6, s7, s8, s9, s10, s11, s12, .un, .un] := by
  obtain ⟨mo, d1, e1, g1, hm⟩ := pick29 (is := [1, 3, 6, 12]) hd (by simp) (by simp)
  have hmo : 1 ≤ mo ∧ mo ≤ 12 := by simp at hm; omega
  obtain ⟨ss, l, rs, d2, e2, g2, hr⟩ := title29 g1 hmo.1 hmo.2
  refine ⟨ss, l, rs, d2, g2, hr, sv_set (r := .fr (tD ss l rs)) (n1 := [s0, .ow d2, s2, s3, s4, s5, s6, s7, s8, s9, s10, s11, s12, .un, .un]) (t := s3) ?_ rfl (np_unfz u3)⟩
  have z4 : (4 : Nat) ≤ sizeLine := by have := sz6; omega
  simp only [List.map_cons, List.map_nil] at e1
  generalize tD ss l rs = tt at *
  simp only [TL, CL, c_law]
  simp [evDef, sv, ev, Fl.of, Ev.val, Ev.no, Ev.itr, opd_pk, opd_io, opd_var, opd_cst, opd_glb, opd_op, opd_chn, opd_slc, opd_and, opd_or, opd_not, opd_ife, opd_call, opd_lc, Ou.bd, zOp, opdl, retains, rsl, Z.rs, frl, opD, binD, cmpD, Ou.of, slD, atI, ixN, eqv_int, shaped_int, dbl, dint, zVar, zPkT, putR, ownAt, R.sl, R.d, finD, truD, zCall, locT, cstC, argsS, argS, ioIx, afterCall, putBack, zAnd, zOr, zNot, zChn, zSlc, slcD, cutD, Tg.put, setAll, seqD, isTy_tt, fmtOk, fitL, zRng1, zRng2, smallI, zChn3, zLrg1, zLrg2, zEnm, zZip, opd_chn3, opd_lrg1, opd_lrg2, t7, t9, e1, e2, z4]
theorem stepP (ss : List Int) (l : Int) (rs : List (Int × List Int)) (s0 s1 s2 s4 s5 s6 s7 s8 s9 s10 s11 s12 : Sl) (u7 : unfz s7) (u8 : unfz s8) (u9 : unfz s9) :
    sv TL CL (.set (.tp [7, 8, 9]) (.var 3)) [s0, s1, s2, .fz (tD ss l rs), s4, s5, s6, s7, s8, s9, s10, s11, s12, .un, .un] = .nx [s0, s1, s2, .fz (tD ss l rs), s4, s5, s6, .fz (tI ss), .fz (.int l), .fz (.tuple (rs.map rD2)), s10, s11, s12, .un, .un] := by
  rcases u7 with rfl | ⟨_, rfl⟩ <;> rcases u8 with rfl | ⟨_, rfl⟩ <;> rcases u9 with rfl | ⟨_, rfl⟩ <;> rfl
theorem step0 {ss : List Int} {l : Int} {rs : List (Int × List Int)} (h : Right 12 ss l rs) (s0 s1 s2 s4 s5 s6 s10 s11 s12 : Sl) (u4 : unfz s4) (u10 : unfz s10) : ∃ a b, unfz a ∧ unfz b ∧
    sv TL CL (.for_ (.nm 4) (.rng1 (.op .len (.cons (.pk 7) .nil))) b_law_0) [s0, s1, s2, .fz (tD ss l rs), s4, s5, s6, .fz (tI ss), .fz (.int l), .fz (.tuple (rs.map rD2)), s10, s11, s12, .un, .un] = .nx [s0, s1, s2, .fz (tD ss l rs), a, s5, s6, .fz (tI ss), .fz (.int l), .fz (.tuple (rs.map rD2)), b, s11, s12, .un, .un] := by
  obtain ⟨a, b, ua, ub, e⟩ := loop0 h s0 s1 s2 s5 s6 (.fz (.tuple (rs.map rD2))) s11 s12 .un .un (rgI 0 ss.length) s4 s10 (fun x hx => rgI_mem hx) u4 u10
  refine ⟨a, b, ua, ub, ?_⟩
  have r0 := rng_ok2 (m := (ss.length : Int)) (by omega) (by have := h.n2; omega)
  have hi : (ev TL CL (.rng1 (.op .len (.cons (.pk 7) .nil)))).i [s0, s1, s2, .fz (tD ss l rs), s4, s5, s6, .fz (tI ss), .fz (.int l), .fz (.tuple (rs.map rD2)), s10, s11, s12, .un, .un] = .ok (rangeD 0 ss.length) [s0, s1, s2, .fz (tD ss l rs), s4, s5, s6, .fz (tI ss), .fz (.int l), .fz (.tuple (rs.map rD2)), s10, s11, s12, .un, .un] :=
    rng1_ok (p := .dd (.int ss.length)) (by simp [evDef, sv, ev, Fl.of, Ev.val, Ev.no, Ev.itr, opd_pk, opd_io, opd_var, opd_cst, opd_glb, opd_op, opd_chn, opd_slc, opd_and, opd_or, opd_not, opd_ife, opd_call, opd_lc, Ou.bd, zOp, opdl, retains, rsl, Z.rs, frl, opD, binD, cmpD, Ou.of, slD, atI, ixN, eqv_int, shaped_int, dbl, dint, zVar, zPkT, putR, ownAt, R.sl, R.d, finD, truD, zCall, locT, cstC, argsS, argS, ioIx, afterCall, putBack, zAnd, zOr, zNot, zChn, zSlc, slcD, cutD, Tg.put, setAll, seqD, isTy_tt, fmtOk, fitL, zRng1, zRng2, smallI, zChn3, zLrg1, zLrg2, zEnm, zZip, opd_chn3, opd_lrg1, opd_lrg2, tI]) rfl r0
  refine sv_for hi ?_
  rw [rangeD_eq]
  exact e
theorem step1 {d : PyData} (hd : St d) {ss : List Int} {l : Int} {rs : List (Int × List Int)} (h : Right 12 ss l rs) (s0 s2 s4 s5 s6 s10 s11 s12 : Sl) (u5 : unfz s5) (u10 : unfz s10) (u11 : unfz s11) (u12 : unfz s12) : ∃ d' a b c e, St d' ∧ unfz a ∧ unfz b ∧ unfz c ∧ unfz e ∧
    sv TL CL (.for_ (.nm 5) (.op .lst (.cons (.cst (.int 0)) (.cons (.cst (.int 1)) (.cons (.cst (.int 2)) (.cons (.call 5 (.cons (.io 1) (.cons (.cst (.int 9)) .nil))) (.cons (.call 1 (.cons (.io 1) (.cons (.op .lst (.cons (.cst (.int 38)) (.cons (.cst (.int 39)) (.cons (.cst (.int 40)) (.cons (.cst (.int 41)) (.cons (.cst (.int 60)) (.cons (.op (.bin .pow) (.cons (.cst (.int 10)) (.cons (.cst (.int 6)) .nil))) (.cons (.op (.bin .pow) (.cons (.cst (.int 10)) (.cons (.cst (.int 30)) .nil))) .nil)))))))) .nil))) .nil)))))) b_law_1)
      [s0, .ow d, s2, .fz (tD ss l rs), s4, s5, s6, .fz (tI ss), .fz (.int l), .fz (.tuple (rs.map rD2)), s10, s11, s12, .un, .un] = .nx [s0, .ow d', s2, .fz (tD ss l rs), s4, a, s6, .fz (tI ss), .fz (.int l), .fz (.tuple (rs.map rD2)), b, c, e, .un, .un] := by
  obtain ⟨v, d1, e1, g1, v0, v1⟩ := draw29 hd (m := 9) (by omega) (by omega)
  obtain ⟨w, d2, e2, g2, hw⟩ := pick29 (is := [38, 39, 40, 41, 60, 1000000, 1000000000000000000000000000000]) g1 (by simp) (by simp)
  have w0 : 0 ≤ w := by simp at hw; omega
  obtain ⟨a, b, c, e, ua, ub, uc, ue, e3⟩ := loop1 h s0 (.ow d2) s2 s4 s6 [0, 1, 2, v, w] s5 s10 s11 s12 (fun x hx => by simp at hx; omega) u5 u10 u11 u12
  refine ⟨d2, a, b, c, e, g2, ua, ub, uc, ue, ?_⟩
  have hi : (ev TL CL (.op .lst (.cons (.cst (.int 0)) (.cons (.cst (.int 1)) (.cons (.cst (.int 2)) (.cons (.call 5 (.cons (.io 1) (.cons (.cst (.int 9)) .nil))) (.cons (.call 1 (.cons (.io 1) (.cons (.op .lst (.cons (.cst (.int 38)) (.cons (.cst (.int 39)) (.cons (.cst (.int 40)) (.cons (.cst (.int 41)) (.cons (.cst (.int 60)) (.cons (.op (.bin .pow) (.cons (.cst (.int 10)) (.cons (.cst (.int 6)) .nil))) (.cons (.op (.bin .pow) (.cons (.cst (.int 10)) (.cons (.cst (.int 30)) .nil))) .nil)))))))) .nil))) .nil))))))).i
      [s0, .ow d, s2, .fz (tD ss l rs), s4, s5, s6, .fz (tI ss), .fz (.int l), .fz (.tuple (rs.map rD2)), s10, s11, s12, .un, .un] = .ok ([0, 1, 2, v, w].map .int) [s0, .ow d2, s2, .fz (tD ss l rs), s4, s5, s6, .fz (tI ss), .fz (.int l), .fz (.tuple (rs.map rD2)), s10, s11, s12, .un, .un] := by
    have z7 : (7 : Nat) ≤ sizeLine := by have := sz1000; omega
    have z5 : (5 : Nat) ≤ sizeLine := by omega
    simp only [List.map_cons, List.map_nil] at e2
    generalize tD ss l rs = tt at *
    simp only [TL, CL, c_law]
    simp [evDef, sv, ev, Fl.of, Ev.val, Ev.no, Ev.itr, opd_pk, opd_io, opd_var, opd_cst, opd_glb, opd_op, opd_chn, opd_slc, opd_and, opd_or, opd_not, opd_ife, opd_call, opd_lc, Ou.bd, zOp, opdl, retains, rsl, Z.rs, frl, opD, binD, cmpD, Ou.of, slD, atI, ixN, eqv_int, shaped_int, dbl, dint, zVar, zPkT, putR, ownAt, R.sl, R.d, finD, truD, zCall, locT, cstC, argsS, argS, ioIx, afterCall, putBack, zAnd, zOr, zNot, zChn, zSlc, slcD, cutD, Tg.put, setAll, seqD, isTy_tt, fmtOk, fitL, zRng1, zRng2, smallI, zChn3, zLrg1, zLrg2, zEnm, zZip, opd_chn3, opd_lrg1, opd_lrg2, t6, t7, e1, e2, z7, z5]
  exact sv_for hi e3
theorem step2 {d v : PyData} (hd : St d) (q : okV 1000 4 v) (s0 s2 s4 s5 s6 s7 s8 s9 s10 s11 s12 : Sl) (u6 : unfz s6) : ∃ v' d', St d' ∧ okV 2002 8 v' ∧ sv TL CL (.set (.nm 6) (.call 9 (.cons (.io 1) (.cons (.var 3) .nil)))) [s0, .ow d, s2, .fz v, s4, s5, s6, s7, s8, s9, s10, s11, s12, .un, .un] = .nx [s0, .ow d', s2, .fz v, s4, s5, .fz v', s7, s8, s9, s10, s11, s12, .un, .un] := by
  obtain ⟨v', d', e, g, q'⟩ := spoil29 hd q
  refine ⟨v', d', g, q', sv_set (r := .fr v') (n1 := [s0, .ow d', s2, .fz v, s4, s5, s6, s7, s8, s9, s10, s11, s12, .un, .un]) (t := s6) ?_ rfl (np_unfz u6)⟩
  simp only [TL, CL, c_law]
  simp [evDef, sv, ev, Fl.of, Ev.val, Ev.no, Ev.itr, opd_pk, opd_io, opd_var, opd_cst, opd_glb, opd_op, opd_chn, opd_slc, opd_and, opd_or, opd_not, opd_ife, opd_call, opd_lc, Ou.bd, zOp, opdl, retains, rsl, Z.rs, frl, opD, binD, cmpD, Ou.of, slD, atI, ixN, eqv_int, shaped_int, dbl, dint, zVar, zPkT, putR, ownAt, R.sl, R.d, finD, truD, zCall, locT, cstC, argsS, argS, ioIx, afterCall, putBack, zAnd, zOr, zNot, zChn, zSlc, slcD, cutD, Tg.put, setAll, seqD, isTy_tt, fmtOk, fitL, zRng1, zRng2, smallI, zChn3, zLrg1, zLrg2, zEnm, zZip, opd_chn3, opd_lrg1, opd_lrg2, t11, e]
theorem step3 {v x : PyData} (q : okV 2002 8 v) (s0 s1 s3 s4 s5 s7 s8 s9 s10 s11 s12 : Sl) :
    sv TL CL (.ife (.and (.op (.cmp .isn) (.cons (.call 10 (.cons (.var 6) .nil)) (.cons (.cst .none) .nil))) (.not (.call 4 (.cons (.call 7 (.cons (.var 6) (.cons (.var 2) .nil))) (.cons (.call 10 (.cons (.var 6) .nil)) .nil))))) (.cons (.ret (.cst (.bool false))) .nil) .nil) [s0, s1, .fz x, s3, s4, s5, .fz v, s7, s8, s9, s10, s11, s12, .un, .un] = .nx [s0, s1, .fz x, s3, s4, s5, .fz v, s7, s8, s9, s10, s11, s12, .un, .un] := by
  have e := due29 q
  cases hd : dueS v with
  | none =>
    have hD : dueD v = .none := by unfold dueD; rw [hd]
    rw [hD] at e
    simp only [TL, CL, c_law]
    simp [evDef, sv, ev, Fl.of, Ev.val, Ev.no, Ev.itr, opd_pk, opd_io, opd_var, opd_cst, opd_glb, opd_op, opd_chn, opd_slc, opd_and, opd_or, opd_not, opd_ife, opd_call, opd_lc, Ou.bd, zOp, opdl, retains, rsl, Z.rs, frl, opD, binD, cmpD, Ou.of, slD, atI, ixN, eqv_int, shaped_int, dbl, dint, zVar, zPkT, putR, ownAt, R.sl, R.d, finD, truD, zCall, locT, cstC, argsS, argS, ioIx, afterCall, putBack, zAnd, zOr, zNot, zChn, zSlc, slcD, cutD, Tg.put, setAll, seqD, isTy_tt, fmtOk, fitL, zRng1, zRng2, smallI, zChn3, zLrg1, zLrg2, zEnm, zZip, opd_chn3, opd_lrg1, opd_lrg2, t14, e, isNone]
  | some s =>
    have hD : dueD v = .str s := by unfold dueD; rw [hd]
    rw [hD] at e
    have e2 := told29 (t := x) q hd
    have e8 := F8g 29 (gd_due (due_str v hd)) (by omega) (by have := sz1000; omega)
    simp only [TL, CL, c_law]
    simp [evDef, sv, ev, Fl.of, Ev.val, Ev.no, Ev.itr, opd_pk, opd_io, opd_var, opd_cst, opd_glb, opd_op, opd_chn, opd_slc, opd_and, opd_or, opd_not, opd_ife, opd_call, opd_lc, Ou.bd, zOp, opdl, retains, rsl, Z.rs, frl, opD, binD, cmpD, Ou.of, slD, atI, ixN, eqv_int, shaped_int, dbl, dint, zVar, zPkT, putR, ownAt, R.sl, R.d, finD, truD, zCall, locT, cstC, argsS, argS, ioIx, afterCall, putBack, zAnd, zOr, zNot, zChn, zSlc, slcD, cutD, Tg.put, setAll, seqD, isTy_tt, fmtOk, fitL, zRng1, zRng2, smallI, zChn3, zLrg1, zLrg2, zEnm, zZip, opd_chn3, opd_lrg1, opd_lrg2, t14, t18, t8, e, e2, e8, isNone]
def IL (n : En) : Prop := ∃ s0 d s2 s3 s4 s5 s6 s7 s8 s9 s10 s11 s12, n = [s0, .ow d, s2, s3, s4, s5, s6, s7, s8, s9, s10, s11, s12, .un, .un] ∧ s0 = n.headD .un ∧ St d ∧ unfz s2 ∧ unfz s3 ∧ unfz s4 ∧ unfz s5 ∧ unfz s6 ∧ unfz s7 ∧ unfz s8 ∧ unfz s9 ∧ unfz s10 ∧ unfz s11 ∧ unfz s12
theorem bL2 {d x : PyData} (hd : St d) (s0 s3 s4 s5 s6 s7 s8 s9 s10 s11 s12 : Sl) (u3 : unfz s3) (u4 : unfz s4) (u5 : unfz s5) (u6 : unfz s6) (u7 : unfz s7) (u8 : unfz s8) (u9 : unfz s9) (u10 : unfz s10) (u11 : unfz s11) (u12 : unfz s12) :
    ∃ d' a3 a4 a5 a6 a7 a8 a9 a10 a11 a12, St d' ∧ unfz a3 ∧ unfz a4 ∧ unfz a5 ∧ unfz a6 ∧ unfz a7 ∧ unfz a8 ∧ unfz a9 ∧ unfz a10 ∧ unfz a11 ∧ unfz a12 ∧ sv TL CL b_law_2 [s0, .ow d, .fz x, s3, s4, s5, s6, s7, s8, s9, s10, s11, s12, .un, .un] = .nx [s0, .ow d', .fz x, a3, a4, a5, a6, a7, a8, a9, a10, a11, a12, .un, .un] := by
  obtain ⟨ss, l, rs, d1, g1, hr, e1⟩ := stepT hd s0 (.fz x) s3 s4 s5 s6 s7 s8 s9 s10 s11 s12 u3
  have e2 := stepP ss l rs s0 (.ow d1) (.fz x) s4 s5 s6 s7 s8 s9 s10 s11 s12 u7 u8 u9
  obtain ⟨a4, b10, ua4, ub10, e3⟩ := step0 hr s0 (.ow d1) (.fz x) s4 s5 s6 s10 s11 s12 u4 u10
  obtain ⟨d2, a5, a10, a11, a12, g2, ua5, ua10, ua11, ua12, e4⟩ := step1 g1 hr s0 (.fz x) a4 s5 s6 b10 s11 s12 u5 ub10 u11 u12
  have q : okV 1000 4 (tD ss l rs) := okV_tD (by have := hr.n2; omega) (by have := hr.r2; omega) fun r h => by have := (hr.r r h).2.2.1; have := hr.n2; omega
  obtain ⟨v', d3, g3, q3, e5⟩ := step2 g2 q s0 (.fz x) a4 a5 s6 (.fz (tI ss)) (.fz (.int l)) (.fz (.tuple (rs.map rD2))) a10 a11 a12 u6
  have e6 := step3 (x := x) q3 s0 (.ow d3) (.fz (tD ss l rs)) a4 a5 (.fz (tI ss)) (.fz (.int l)) (.fz (.tuple (rs.map rD2))) a10 a11 a12
  exact ⟨d3, _, a4, a5, _, _, _, _, a10, a11, a12, g3, .inr ⟨_, rfl⟩, ua4, ua5, .inr ⟨_, rfl⟩, .inr ⟨_, rfl⟩, .inr ⟨_, rfl⟩, .inr ⟨_, rfl⟩, ua10, ua11, ua12, sv_nx e1 (sv_nx e2 (sv_nx e3 (sv_nx e4 (sv_nx e5 (sv_nx e6 sv_end)))))⟩
theorem loop2 {d : PyData} (hd : St d) (sc : Sl) (xs : List PyData) : ∃ n', forGo (.nm 2) (sv TL CL b_law_2) xs [sc, .ow d, .un, .un, .un, .un, .un, .un, .un, .un, .un, .un, .un, .un, .un] = .nx n' := by
  obtain ⟨n', e, _⟩ := forGo_inv (t := .nm 2) (b := sv TL CL b_law_2) (fun _ n => ∃ d s2 s3 s4 s5 s6 s7 s8 s9 s10 s11 s12, n = [sc, .ow d, s2, s3, s4, s5, s6, s7, s8, s9, s10, s11, s12, .un, .un] ∧ St d ∧ unfz s2 ∧ unfz s3 ∧ unfz s4 ∧ unfz s5 ∧ unfz s6 ∧ unfz s7 ∧ unfz s8 ∧ unfz s9 ∧ unfz s10 ∧ unfz s11 ∧ unfz s12) (by
    rintro x xs n ⟨d, s2, s3, s4, s5, s6, s7, s8, s9, s10, s11, s12, rfl, g, u2, u3, u4, u5, u6, u7, u8, u9, u10, u11, u12⟩
    obtain ⟨d', a3, a4, a5, a6, a7, a8, a9, a10, a11, a12, g', w3, w4, w5, w6, w7, w8, w9, w10, w11, w12, e⟩ := bL2 (x := x) g sc s3 s4 s5 s6 s7 s8 s9 s10 s11 s12 u3 u4 u5 u6 u7 u8 u9 u10 u11 u12
    exact ⟨[sc, .ow d, .fz x, s3, s4, s5, s6, s7, s8, s9, s10, s11, s12, .un, .un], _, by rcases u2 with rfl | ⟨y, rfl⟩ <;> rfl, e, d', _, a3, a4, a5, a6, a7, a8, a9, a10, a11, a12, rfl, g', .inr ⟨x, rfl⟩, w3, w4, w5, w6, w7, w8, w9, w10, w11, w12⟩) xs [sc, .ow d, .un, .un, .un, .un, .un, .un, .un, .un, .un, .un, .un, .un, .un]
    ⟨d, .un, .un, .un, .un, .un, .un, .un, .un, .un, .un, .un, rfl, hd, .inl rfl, .inl rfl, .inl rfl, .inl rfl, .inl rfl, .inl rfl, .inl rfl, .inl rfl, .inl rfl, .inl rfl, .inl rfl⟩
  exact ⟨n', e⟩
theorem rng4 : rngOk 4 = true := by decide +kernel
theorem FL (ns : List Int) : ∃ ds, Fd 30 19 [.fz (.list (ns.map PyData.int))] = .ret (.fr (.bool true)) ds := by
  obtain ⟨d, e1, s1⟩ := F5 29 ns
  obtain ⟨n', e2⟩ := loop2 s1 (.fz (.list (ns.map PyData.int))) (rangeD 0 4)
  refine ⟨finD [.fz (.list (ns.map PyData.int))] n', ?_⟩
  rw [U19]
  refine def_rt (m := 15) (ss := [.fz (.list (ns.map PyData.int))]) (n1 := n') ?_
  show sv TL CL c_law.body [.fz (.list (ns.map PyData.int)), .un, .un, .un, .un, .un, .un, .un, .un, .un, .un, .un, .un, .un, .un] = _
  refine sv_nx (n1 := [.fz (.list (ns.map PyData.int)), .ow d, .un, .un, .un, .un, .un, .un, .un, .un, .un, .un, .un, .un, .un]) ?_ ?_
  · simp only [TL, CL, c_law]
    simp [evDef, sv, ev, Fl.of, Ev.val, Ev.no, Ev.itr, opd_pk, opd_io, opd_var, opd_cst, opd_glb, opd_op, opd_chn, opd_slc, opd_and, opd_or, opd_not, opd_ife, opd_call, opd_lc, Ou.bd, zOp, opdl, retains, rsl, Z.rs, frl, opD, binD, cmpD, Ou.of, slD, atI, ixN, eqv_int, shaped_int, dbl, dint, zVar, zPkT, putR, ownAt, R.sl, R.d, finD, truD, zCall, locT, cstC, argsS, argS, ioIx, afterCall, putBack, zAnd, zOr, zNot, zChn, zSlc, slcD, cutD, Tg.put, setAll, seqD, isTy_tt, fmtOk, fitL, zRng1, zRng2, smallI, zChn3, zLrg1, zLrg2, zEnm, zZip, opd_chn3, opd_lrg1, opd_lrg2, t5, e1]
  refine sv_nx (n1 := n') ?_ (sv_rt rfl)
  have hi : (ev TL CL (.rng1 (.cst (.int 4)))).i [.fz (.list (ns.map PyData.int)), .ow d, .un, .un, .un, .un, .un, .un, .un, .un, .un, .un, .un, .un, .un] = .ok (rangeD 0 4) [.fz (.list (ns.map PyData.int)), .ow d, .un, .un, .un, .un, .un, .un, .un, .un, .un, .un, .un, .un, .un] := by
    simp [evDef, sv, ev, Fl.of, Ev.val, Ev.no, Ev.itr, opd_pk, opd_io, opd_var, opd_cst, opd_glb, opd_op, opd_chn, opd_slc, opd_and, opd_or, opd_not, opd_ife, opd_call, opd_lc, Ou.bd, zOp, opdl, retains, rsl, Z.rs, frl, opD, binD, cmpD, Ou.of, slD, atI, ixN, eqv_int, shaped_int, dbl, dint, zVar, zPkT, putR, ownAt, R.sl, R.d, finD, truD, zCall, locT, cstC, argsS, argS, ioIx, afterCall, putBack, zAnd, zOr, zNot, zChn, zSlc, slcD, cutD, Tg.put, setAll, seqD, isTy_tt, fmtOk, fitL, zRng1, zRng2, smallI, zChn3, zLrg1, zLrg2, zEnm, zZip, opd_chn3, opd_lrg1, opd_lrg2, rng4]
  exact sv_for hi e2
end Z

set_option Elab.async false
set_option linter.all false
set_option maxRecDepth 100000
set_option maxHeartbeats 0
namespace Z
open PySem PySem.Spec PyProof.Rows L2
theorem bi_is_integer : BindP c_is_integer.ar c_is_integer.N d_is_integer := fun kV doc pm an cdv ct us hl => match us, hl with | [_], _ => rfl
theorem bi_is_row : BindP c_is_row.ar c_is_row.N d_is_row := fun kV doc pm an cdv ct us hl => match us, hl with | [_], _ => rfl
theorem bi_has_form : BindP c_has_form.ar c_has_form.N d_has_form := fun kV doc pm an cdv ct us hl => match us, hl with | [_], _ => rfl
theorem bi_are_between : BindP c_are_between.ar c_are_between.N d_are_between := fun kV doc pm an cdv ct us hl => match us, hl with | [_, _, _], _ => rfl
theorem bi_check_title : BindP c_check_title.ar c_check_title.N d_check_title := fun kV doc pm an cdv ct us hl => match us, hl with | [_], _ => rfl
theorem bi__law_start : BindP c__law_start.ar c__law_start.N d__law_start := fun kV doc pm an cdv ct us hl => match us, hl with | [_], _ => rfl
theorem bi__law_draw : BindP c__law_draw.ar c__law_draw.N d__law_draw := fun kV doc pm an cdv ct us hl => match us, hl with | [_, _], _ => rfl
theorem bi__law_pick : BindP c__law_pick.ar c__law_pick.N d__law_pick := fun kV doc pm an cdv ct us hl => match us, hl with | [_, _], _ => rfl
theorem bi__law_same : BindP c__law_same.ar c__law_same.N d__law_same := fun kV doc pm an cdv ct us hl => match us, hl with | [_, _], _ => rfl
theorem bi__law_title : BindP c__law_title.ar c__law_title.N d__law_title := fun kV doc pm an cdv ct us hl => match us, hl with | [_, _, _], _ => rfl
theorem bi__law_odd : BindP c__law_odd.ar c__law_odd.N d__law_odd := fun kV doc pm an cdv ct us hl => match us, hl with | [_], _ => rfl
theorem bi__law_spoilt : BindP c__law_spoilt.ar c__law_spoilt.N d__law_spoilt := fun kV doc pm an cdv ct us hl => match us, hl with | [_, _], _ => rfl
theorem bi__law_is_int : BindP c__law_is_int.ar c__law_is_int.N d__law_is_int := fun kV doc pm an cdv ct us hl => match us, hl with | [_], _ => rfl
theorem bi__law_is_row : BindP c__law_is_row.ar c__law_is_row.N d__law_is_row := fun kV doc pm an cdv ct us hl => match us, hl with | [_], _ => rfl
theorem bi__law_title_due : BindP c__law_title_due.ar c__law_title_due.N d__law_title_due := fun kV doc pm an cdv ct us hl => match us, hl with | [_], _ => rfl
theorem bi_following : BindP c_following.ar c_following.N d_following := fun kV doc pm an cdv ct us hl => match us, hl with | [_, _], _ => rfl
theorem bi_unrolled : BindP c_unrolled.ar c_unrolled.N d_unrolled := fun kV doc pm an cdv ct us hl => match us, hl with | [_, _], _ => rfl
theorem bi__law_order : BindP c__law_order.ar c__law_order.N d__law_order := fun kV doc pm an cdv ct us hl => match us, hl with | [_, _], _ => rfl
theorem bi__law_told : BindP c__law_told.ar c__law_told.N d__law_told := fun kV doc pm an cdv ct us hl => match us, hl with | [_, _], _ => rfl
theorem bi_law : BindP c_law.ar c_law.N d_law := fun kV doc pm an cdv ct us hl => match us, hl with | [_], _ => rfl
theorem hck : ∀ (i : Nat) (c : DefC), cs[i]? = some c → ∃ d, ds[i]? = some d ∧ ckD cs es c d = true ∧ BindP c.ar c.N d
  | 0, c, h => by cases h; exact ⟨_, rfl, ck_is_integer, bi_is_integer⟩
  | 1, c, h => by cases h; exact ⟨_, rfl, ck_is_row, bi_is_row⟩
  | 2, c, h => by cases h; exact ⟨_, rfl, ck_has_form, bi_has_form⟩
  | 3, c, h => by cases h; exact ⟨_, rfl, ck_are_between, bi_are_between⟩
  | 4, c, h => by cases h; exact ⟨_, rfl, ck_check_title, bi_check_title⟩
  | 5, c, h => by cases h; exact ⟨_, rfl, ck__law_start, bi__law_start⟩
  | 6, c, h => by cases h; exact ⟨_, rfl, ck__law_draw, bi__law_draw⟩
  | 7, c, h => by cases h; exact ⟨_, rfl, ck__law_pick, bi__law_pick⟩
  | 8, c, h => by cases h; exact ⟨_, rfl, ck__law_same, bi__law_same⟩
  | 9, c, h => by cases h; exact ⟨_, rfl, ck__law_title, bi__law_title⟩
  | 10, c, h => by cases h; exact ⟨_, rfl, ck__law_odd, bi__law_odd⟩
  | 11, c, h => by cases h; exact ⟨_, rfl, ck__law_spoilt, bi__law_spoilt⟩
  | 12, c, h => by cases h; exact ⟨_, rfl, ck__law_is_int, bi__law_is_int⟩
  | 13, c, h => by cases h; exact ⟨_, rfl, ck__law_is_row, bi__law_is_row⟩
  | 14, c, h => by cases h; exact ⟨_, rfl, ck__law_title_due, bi__law_title_due⟩
  | 15, c, h => by cases h; exact ⟨_, rfl, ck_following, bi_following⟩
  | 16, c, h => by cases h; exact ⟨_, rfl, ck_unrolled, bi_unrolled⟩
  | 17, c, h => by cases h; exact ⟨_, rfl, ck__law_order, bi__law_order⟩
  | 18, c, h => by cases h; exact ⟨_, rfl, ck__law_told, bi__law_told⟩
  | 19, c, h => by cases h; exact ⟨_, rfl, ck_law, bi_law⟩
  | n + 20, c, h => by cases h
theorem roomL : Room 31 callerA := ⟨rfl, by decide, by decide⟩
end Z
open PySem PySem.W PySem.Calls PyProof.Rows
theorem PySem.Challenge.cw_reelhouse_k02_unrolled_titles_holds : PySem.Challenge.rw_reelhouse_k02_unrolled_titles.Holds := by
  w_on; o_law
  refine HandSHeadRun.head_any (r := OpenLaw.row PySem.Challenge.rw_reelhouse_k02_unrolled_titles) (q := view (OpenLaw.row PySem.Challenge.rw_reelhouse_k02_unrolled_titles).prog [Z.lawAt]) (H := Z.hk) (ob := Z.ob) (M := 4000) (loose := Z.names) (d := HandSHeadRun.topDef (OpenLaw.row PySem.Challenge.rw_reelhouse_k02_unrolled_titles).prog Z.lawAt) (kwd := []) Z.ob_eq
    (by kernel_rfl) (fun s => by kernel_rfl) Z.run (by kernel_rfl) (by kernel_rfl) (by kernel_rfl) (by rfl) (by first | assumption | decide +kernel) (by decide +kernel) ⟨rfl, rfl, rfl, rfl, rfl, by decide +kernel⟩ ?hw ?hc
  case hw => w_witness2
  case hc =>
    exact Z.walkZ (l := PySem.Challenge.rw_reelhouse_k02_unrolled_titles) (n := 63) (k := 31) (N := 6) (id := 19) (x := "script") (cs := Z.cs) (ds := Z.ds) (es := Z.es) (c := Z.c_law) (fm := Z.Fd 30 19) rfl (by decide) (by kernel_rfl) Z.roomL Z.ci (by decide +kernel) Z.hck rfl (by kernel_rfl) rfl rfl (fun ns _ => Z.FL ns)

