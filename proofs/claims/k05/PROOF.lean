import PyProof.Rows.All
import Wide.All
import OpenK.AllK
import Wide.FinOn
import HandS.ForMost
import HandS.ForExc
import HandS.Walk
import HandS.IsInst
import HandS.Wide
import HandS.Flow
import HandS.TupAny
import HandS.ExcField
import HandS.ExcIs
import HandS.Deep
import HandS.TupMul
import HandS.Conv
import HandS.SortInts
import HandS.Zip
import KE.KExcIs
import HandS.Defaults
import HandS.Ends
import HandS.HeadEnd
import KE.KExcSuper
import KE.KSuper
import PyProof.FString
import PyProof.FString4
import HandS.FStr
import HandS.Words
import HandS.Head0
import HandS.Head1
import HandS.Head2
import HandS.HeadHook1
import HandS.HeadHook2
import PySem.Challenge.RW_reelhouse_k05_rules_of_any_value
set_option Elab.async false
set_option linter.all false
set_option maxRecDepth 100000
set_option maxHeartbeats 4000000
namespace Z
open PySem PySem.Spec PyProof.Rows L2

/-- a def's promise where no repr is under way -/
structure FnG (P : Program) (w : World) (K : PySem.W.Frag) (mg : Str → Option Value) (base : Heap) (k : Nat) (f : Addr) (fd : FuncData) (ps : List Str) (sp : Sp) : Prop where
  len : ∀ vs H Q E, sp vs H Q E → vs.length = ps.length
  go : ∀ (A : Around) (outer : List Env) (s : Shared) (H : Hp) (args : Args) (us : List Value) (vs : List V) (Q : VK) (E : XK), A.guards = some [] → Room k A → Env0 P w K mg base A outer s H →
    BindsTo s fd args (ps.zip us) → Vals vs us → sp vs H Q E → codeAny (model P w) A (.call (.ref f) args) (CR (L2.CX P w) outer P w H s Q E) s

section
variable {P : Program} {w : World} {K : PySem.W.Frag} {mg : Str → Option Value} {base : Heap} {f : Addr} {fd : FuncData} {ps : List Str} {sp : Sp} {j k : Nat}
theorem FnG.mono (F : FnG P w K mg base j f fd ps sp) (h : j ≤ k) : FnG P w K mg base k f fd ps sp :=
  ⟨F.len, fun A o s H a us vs Q E g r => F.go A o s H a us vs Q E g (r.mono h)⟩
theorem FnG.imp {sp' : Sp} (F : FnG P w K mg base k f fd ps sp) (h : ∀ vs H Q E, sp' vs H Q E → sp vs H Q E) : FnG P w K mg base k f fd ps sp' :=
  ⟨fun vs H Q E q => F.len vs H Q E (h _ _ _ _ q), fun A o s H a us vs Q E g r e b v q => F.go A o s H a us vs Q E g r e b v (h _ _ _ _ q)⟩

theorem FnG.of {name qual : Str} {params : Arguments} {body : List Stmt} {scope : Scope} {dV kV doc pm cdv ct oc : Value} {an od : Option Addr} {osl : Array (Option Value)} {N : List Str}
    (lk : K.lookup f = some ⟨oc, od, .func (PySem.W.fnOf name qual params body scope dV kV doc pm an cdv ct), osl⟩) (hc : PySem.W.codeIn K cdv qual = true) (S : FnScope N ps scope) (len : ∀ vs H Q E, sp vs H Q E → vs.length = ps.length)
    (hb : ∀ (A : Around) (outer : List Env) (s : Shared) (H : Hp) (vs : List V) (Q : VK) (E : XK), A.guards = some [] → Room k (A.deeper (envOfC qual scope s.heap.objs.size f cdv)) → sp vs H Q E →
      ∃ t, PSs (cxOf (L2.CX P w) P w K mg base N qual scope f cdv A outer s H E) body t ∧ t { nx := fun _ H' => Q .non H', rt := Q } (start N vs) H) :
    FnG P w K mg base (k + 1) f (PySem.W.fnOf name qual params body scope dV kV doc pm an cdv ct) ps sp := by
  constructor
  · exact len
  intro A outer s H args us vs Q E hg hr e0 hbd rv hsp
  have old : ∀ b o, base.get? b = some o → s.heap.get? b = some o := fun b o e => (e0.bs b o e).1
  have KX := e0.mod.kin.keeps old
  apply codeAny_call_function hr.depth (KX _ _ lk) rfl S.co S.gen rfl (PySem.W.codeRec_of KX hc)
  apply hbd
  refine wpAny_newFunctionEnv_cells S.kind (fun y hy => ?_) (fun env he s1 x => ?_)
  · rcases S.par y.1 (List.of_mem_zip (show (y.1, y.2) ∈ ps.zip us from hy)).1 with q | q
    · exact .inl q
    · exact .inr ⟨q, PySem.W.cellsFrom_some _ _ _ (.inl q)⟩
  · cases he
    refine ⟨(e0.mod.nolimit.keeps old).keeps x.toInCall.keep, codeAny_func ?_⟩
    obtain ⟨t, ht, hq⟩ := hb A outer s H vs Q E hg (hr.deeper _) hsp
    have I := inv_start (CX := L2.CX P w) (cd := cdv) (E := E) S hr.hd e0 (len _ _ _ _ hsp) rv x
    refine wpAny_mono (ht.run [] s1 _ H _ I hq) (fun fl s' hs => ?_) (fun e s' hs => hs)
    cases fl with
    | next => obtain ⟨σ', H', J, q⟩ := hs; exact ⟨V.non, H', J.os, J.bare, J.base, J.hok, rfl, q⟩
    | ret u => obtain ⟨v, σ', H', J, rv', q⟩ := hs; exact ⟨v, H', J.os, J.bare, J.base, J.hok, rv', q⟩
    | brk => obtain ⟨_, _, _, q⟩ := hs; exact q.elim
    | cont => obtain ⟨_, _, _, q⟩ := hs; exact q.elim
end

section
variable {X : Cx} {k : Nat} {f : Addr} {fd : FuncData} {ps : List Str} {sp : Sp} {W : WX} {x : Str} {p pos : Pos} {e : Expr} {es : List Expr} {t : TA}
theorem run_fnG {pins : List (Addr × Obj)} {σ : L2.St} {H : Hp} {s : Shared} {Q : VK} {us : List Value} {vs : List V} (F : FnG X.prog X.w X.K X.mg X.base k f fd ps sp) (hg : X.A.guards = some []) (hr : Room k X.A) (hb : Binds X.K fd ps []) (tk : Takes X W)
    (I : Inv X pins σ H s) (r : Vals vs us) (h : sp vs H Q (fun c d H' => W c d σ H')) : wpAny (model X.prog X.w) X.A (call (.ref f) us) (EP X pins σ Q) X.xe s := by
  have b := hb s us I.kIn (by rw [List.append_nil, ← r.length]; exact F.len _ _ _ _ h)
  rw [List.append_nil] at b
  apply wpAny_call
  refine codeAny_mono (F.go X.A X.stack s H ⟨us, []⟩ us vs Q _ hg hr I.env0 b r h) ?_
  intro res s' hq
  cases res with
  | error e => exact passAt tk σ pins H s e s' I hq
  | ok fl =>
    cases fl with
    | ret u => exact I.after hq
    | next => exact hq.elim
    | brk => exact hq.elim
    | cont => exact hq.elim
theorem pe_callG (F : FnG X.prog X.w X.K X.mg X.base k f fd ps sp) (hg : X.A.guards = some []) (hr : Room k X.A) (gl : Gl X x) (hm : X.mg x = some (.ref f)) (hk : PySem.W.keepIn X.K (.ref f) = true) (hb : Binds X.K fd ps []) (tk : Takes X W)
    (ha : PA X (e :: es) t) (hdb : (x == ("__debug__" : Str)) = false) (he : starEach (e :: es) X.env = (false, eval e X.env) :: starEach es X.env) (hpl : (backTo pos (starEach es X.env)).any (·.1) = false) :
    PE X (.Call (.Name x p) (e :: es) [] pos) (tCallS sp (fun σ c d H => W c d σ H) t) := by
  constructor
  intro pins s σ H Q I h
  apply wpAny_Call_Name_kw
  apply ld_glob I gl hm _ hdb
  refine PySem.W.callWith_K (h₀ := X.base) I.ok.mod.kin hk ?_ he hpl
  refine thn (ha.run pos pins s σ H _ I h) ?_
  intro us s1 hh
  obtain ⟨vs, H1, I1, r, q⟩ := hh
  exact ⟨I1.kIn, run_fnG F hg hr hb tk I1 r q⟩
theorem pe_callG0 (F : FnG X.prog X.w X.K X.mg X.base k f fd ps sp) (hg : X.A.guards = some []) (hr : Room k X.A) (gl : Gl X x) (hm : X.mg x = some (.ref f)) (hk : PySem.W.keepIn X.K (.ref f) = true) (hb : Binds X.K fd ps []) (tk : Takes X W)
    (hdb : (x == ("__debug__" : Str)) = false) : PE X (.Call (.Name x p) [] [] pos) (tCallS sp (fun σ c d H => W c d σ H) tNil) := by
  constructor
  intro pins s σ H Q I h
  apply wpAny_Call_Name_kw
  apply ld_glob I gl hm _ hdb
  exact PySem.W.callWith_K0 I.kIn hk (run_fnG (us := []) F hg hr hb tk I .nil h)
end
end Z

set_option Elab.async false
set_option linter.all false
set_option maxRecDepth 100000
set_option maxHeartbeats 4000000
namespace Z
open PySem PySem.Spec PyProof.Rows L2

/-! ## values, slots, results -/
abbrev D := PyData
inductive Sl where
  | un | fz (d : D) | ow (d : D) | pn (d : D) | er (c : Nat) (d : D)
abbrev En := List Sl
inductive R where
  | fr (d : D) | nw (d : D)
def R.d : R → D
  | .fr d => d
  | .nw d => d
def R.sl : R → Sl
  | .fr d => .fz d
  | .nw d => .ow d
inductive Ou (α : Type) where
  | ok (a : α) (n : En) | ex (c : Nat) (d : D) (n : En) | st
@[reducible] def Ou.bd {α β : Type} (m : Ou α) (k : α → En → Ou β) : Ou β := match m with
  | .ok a n => k a n
  | .ex c d n => .ex c d n
  | .st => .st
/-- what a def gives: its value, what its owned parameters hold behind it -/
inductive Rt where
  | ret (r : R) (ps : List D) | ex (c : Nat) (d : D) (ps : List D) | st
abbrev Fm := List Sl → Rt
abbrev Tb := Nat → Option (Nat × Fm)

inductive BOp where
  | add | sub | mul | fdiv | mod | pow
  deriving DecidableEq
inductive COp where
  | eq | ne | lt | le | gt | ge | is | isn | isin | nin
  deriving DecidableEq
inductive Ty where
  | int | bool | tuple | list | str | none | dict
  deriving DecidableEq
inductive Op where
  | bin (o : BOp) | neg | cmp (o : COp) | tup | lst | len | isi (t : Ty) | all | any | tupOf | lstOf | lstRng | abs | int1 | min2 | max2 | sum | sorted | repr | str1 | idx | slc (lo hi : Bool) | rev | minL | maxL
  deriving DecidableEq

def dbl (b : Bool) : R := .fr (.bool b)
def dint (i : Int) : R := .fr (.int i)
def smallI (i : Int) : Bool := decide (-(2 ^ 64) < i ∧ i < 2 ^ 64)
def rngOk (i : Int) : Bool := decide (-(2 ^ 62) ≤ i ∧ i < 2 ^ 62)
def fitL (n : Nat) : Bool := decide (n ≤ sizeLine)

def binD : BOp → D → D → Option R
  | .add, .int i, .int j => some (dint (i + j))
  | .add, .str x, .str y => if fitL (x.length + y.length) then some (.fr (.str (x ++ y))) else none
  | .add, .tuple xs, .tuple ys => if fitL (xs.length + ys.length) then some (.fr (.tuple (xs ++ ys))) else none
  | .add, .list xs, .list ys => if fitL (xs.length + ys.length) then some (.nw (.list (xs ++ ys))) else none
  | .sub, .int i, .int j => some (dint (i - j))
  | .mul, .int i, .int j => if smallI i || smallI j then some (dint (i * j)) else none
  | .mul, .list xs, .int j => if rngOk j && fitL (xs.length * j.toNat) then some (.nw (.list (List.replicate j.toNat xs).flatten)) else none
  | .mul, .tuple xs, .int j => if !xs.isEmpty && decide (2 ≤ j ∧ j ≤ 1000 ∧ xs.length ≤ 1000) then some (.fr (.tuple (List.replicate j.toNat xs).flatten)) else none
  | .fdiv, .int i, .int j => if decide (j ≠ 0 ∧ j.natAbs < 1073741824) then some (dint (i.fdiv j)) else none
  | .mod, .int i, .int j => if decide (j ≠ 0) then some (dint (i.fmod j)) else none
  | .pow, .int i, .int j => if decide (0 ≤ j ∧ j ≤ 1000000 ∧ i.natAbs < 2 ^ 64) then some (dint (i ^ j.toNat)) else none
  | _, _, _ => none

def isNone : D → Bool
  | .none => true
  | _ => false
def cmpD : COp → D → D → Option Bool
  | .eq, x, y => if SeqAt.shaped x && SeqAt.shaped y then some (PyData.eqv x y) else none
  | .ne, x, y => if SeqAt.shaped x && SeqAt.shaped y then some (!PyData.eqv x y) else none
  | .lt, .int i, .int j => some (decide (i < j))
  | .le, .int i, .int j => some (decide (i ≤ j))
  | .gt, .int i, .int j => some (decide (j < i))
  | .ge, .int i, .int j => some (decide (j ≤ i))
  | .is, x, .none => some (isNone x)
  | .isn, x, .none => some (!isNone x)
  | .isin, x, .list ys => if SeqAt.shaped x && SeqAt.shaped (.list ys) then some (ys.any fun z => PyData.eqv z x) else none
  | .nin, x, .list ys => if SeqAt.shaped x && SeqAt.shaped (.list ys) then some (!ys.any fun z => PyData.eqv z x) else none
  | .isin, x, .tuple ys => if SeqAt.shaped x && SeqAt.shaped (.tuple ys) then some (ys.any fun z => PyData.eqv z x) else none
  | .nin, x, .tuple ys => if SeqAt.shaped x && SeqAt.shaped (.tuple ys) then some (!ys.any fun z => PyData.eqv z x) else none
  | _, _, _ => none

def isTy : Ty → D → Bool
  | .int, .int _ => true
  | .int, .bool _ => true
  | .bool, .bool _ => true
  | .tuple, .tuple _ => true
  | .list, .list _ => true
  | .str, .str _ => true
  | .dict, .dict _ => true
  | _, _ => false
def truD : D → Option Bool
  | .none => some false
  | .bool b => some b
  | .int i => some (i != 0)
  | .str x => if fitL x.length then some ((x.length : Int) != 0) else none
  | .list xs => some (!xs.isEmpty)
  | .tuple xs => some (!xs.isEmpty)
  | _ => none
def boolsD : List D → Option (List Bool)
  | [] => some []
  | .bool b :: r => (boolsD r).map (b :: ·)
  | _ :: _ => none
def intsD : List D → Option (List Int)
  | [] => some []
  | .int b :: r => (intsD r).map (b :: ·)
  | _ :: _ => none
def cutD (xs : List D) (lo hi : Option Int) : List D := (xs.drop (HT.sIx xs.length 0 lo)).take (HT.sIx xs.length xs.length hi - HT.sIx xs.length 0 lo)
def slcD (x : D) (lo hi : Option Int) : Option R := match x with
  | .tuple xs => some (.fr (.tuple (cutD xs lo hi)))
  | .list xs => some (.nw (.list (cutD xs lo hi)))
  | _ => none
def insI (x : Int) : List Int → List Int
  | [] => [x]
  | y :: r => if x ≤ y then x :: y :: r else y :: insI x r
def sortI : List Int → List Int
  | [] => []
  | x :: r => insI x (sortI r)
def rangeD (lo hi : Int) : List D := (List.range (hi - lo).toNat).map fun (i : Nat) => .int (lo + (i : Int))

def opD : Op → List D → Option R
  | .bin o, [x, y] => binD o x y
  | .neg, [.int i] => some (dint (-i))
  | .cmp o, [x, y] => (cmpD o x y).map dbl
  | .tup, xs => if fitL xs.length then some (.fr (.tuple xs)) else none
  | .lst, xs => if fitL xs.length then some (.nw (.list xs)) else none
  | .len, [.tuple xs] => some (dint xs.length)
  | .len, [.list xs] => some (dint xs.length)
  | .len, [.str x] => if fitL x.length then some (dint x.length) else none
  | .isi t, [x] => some (dbl (isTy t x))
  | .all, [.list xs] => (boolsD xs).map fun bs => dbl (bs.all id)
  | .any, [.list xs] => (boolsD xs).map fun bs => dbl (bs.any id)
  | .tupOf, [.list xs] => some (.fr (.tuple xs))
  | .tupOf, [.tuple xs] => some (.fr (.tuple xs))
  | .lstOf, [.list xs] => some (.nw (.list xs))
  | .lstOf, [.tuple xs] => some (.nw (.list xs))
  | .abs, [.int i] => some (dint (if i < 0 then -i else i))
  | .int1, [.int i] => some (dint i)
  | .int1, [.bool k] => some (dint (if k then 1 else 0))
  | .min2, [.int i, .int j] => some (dint (if j < i then j else i))
  | .max2, [.int i, .int j] => some (dint (if j > i then j else i))
  | .sum, [.list xs] => (intsD xs).map fun ns => dint ns.sum
  | .minL, [.list xs] => (intsD xs).bind fun ns => ns.min?.map dint
  | .maxL, [.list xs] => (intsD xs).bind fun ns => ns.max?.map dint
  | .sorted, [.list xs] => (intsD xs).map fun ns => .nw (.list ((sortI ns).map .int))
  | .str1, [.int i] => if smallI i then some (.fr (.str (toString i))) else none
  | .repr, [x] => if SeqAt.shaped x && (PyData.showable x && fitL x.shown.length) then some (.fr (.str x.shown)) else none
  | .idx, [.tuple xs, .int i] => (atI xs i).map .fr
  | .idx, [.list xs, .int i] => (atI xs i).map .fr
  | .slc false false, [x] => slcD x none none
  | .slc true false, [x, .int i] => slcD x (some i) none
  | .slc false true, [x, .int i] => slcD x none (some i)
  | .rev, [.tuple xs] => some (.fr (.tuple xs.reverse))
  | .rev, [.list xs] => some (.nw (.list xs.reverse))
  | _, _ => none

/-! ## the code -/
inductive Tg where
  | nm (i : Nat) | tp (is : List Nat)
  deriving DecidableEq
inductive E where
  | var (i : Nat) | pk (i : Nat) | io (i : Nat) | cst (d : D) | glb (g : Nat)
  | op (o : Op) (as : E) | nil | cons (a r : E)
  | chn (o1 o2 : COp) (a b c : E)
  | slc (a lo hi : E)
  | and (a b : E) | or (a b : E) | not (a : E) | ife (t a b : E)
  | call (f : Nat) (as : E)
  | lc (elt : E) (tg : Tg) (it cond : E) (own : List Nat) | yes
  | rng1 (a : E) | rng2 (a b : E) | enm (a : E) | zip (a b : E)
  | eat (i : Nat) | eis (i : Nat) (c : Nat)
  | any | chn3 (o1 o2 o3 : COp) (a b c d : E) | lrg1 (a : E) | lrg2 (a b : E)

inductive P where
  | dd (d : D) | sl (i : Nat) | io (i : Nat)
def slD : Sl → Option D
  | .fz d => some d
  | .ow d => some d
  | .pn d => some d
  | _ => none
def rs (n : En) : P → Option D
  | .dd d => some d
  | .sl i => (n[i]?).bind slD
  | .io _ => none
def rsl (n : En) : List P → Option (List D)
  | [] => some []
  | p :: r => (rs n p).bind fun d => (rsl n r).map (d :: ·)
/-- frozen ones alone -/
def frl : List P → Option (List D)
  | [] => some []
  | .dd d :: r => (frl r).map (d :: ·)
  | _ :: _ => none
def retains : Op → Bool
  | .tup => true
  | .lst => true
  | _ => false
def opdl (o : Op) (n : En) (ps : List P) : Option (List D) := if retains o then frl ps else rsl n ps
/-- arguments of a call -/
def argS (n : En) : P → Option Sl
  | .dd d => some (.fz d)
  | .io i => match n[i]? with
    | some (.ow d) => some (.pn d)
    | some (.pn d) => some (.pn d)
    | _ => none
  | .sl _ => none
def argsS (n : En) : List P → Option (List Sl)
  | [] => some []
  | p :: r => (argS n p).bind fun s => (argsS n r).map (s :: ·)
def ioIx : List P → List Nat
  | [] => []
  | .io i :: r => i :: ioIx r
  | _ :: r => ioIx r
/-- owned arguments hold what the call left in them -/
def putBack (n : En) : List P → List D → Option En
  | [], _ => some n
  | .io i :: r, d :: ds => match n[i]? with
    | some (.ow _) => putBack (n.set i (.ow d)) r ds
    | some (.pn _) => putBack (n.set i (.pn d)) r ds
    | _ => none
  | .io _ :: _, [] => none
  | _ :: r, _ :: ds => putBack n r ds
  | _ :: r, [] => putBack n r []
def Ou.of {α : Type} (o : Option α) (n : En) : Ou α := match o with
  | some a => .ok a n
  | none => .st
/-- one operand -/
def opd (a : E) (f : En → Ou R) (n : En) : Ou P := match a with
  | .pk i => match n[i]? with
    | some (.fz _) => .ok (.sl i) n
    | some (.ow _) => .ok (.sl i) n
    | some (.pn _) => .ok (.sl i) n
    | _ => .st
  | .io i => match n[i]? with
    | some (.ow _) => .ok (.io i) n
    | some (.pn _) => .ok (.io i) n
    | _ => .st
  | _ => (f n).bd fun r n1 => .ok (.dd r.d) n1
def afterCall (n : En) (ps : List P) : Rt → Ou R
  | .ret r ds => match putBack n ps ds with
    | some n' => .ok r n'
    | none => .st
  | .ex c d ds => match putBack n ps ds with
    | some n' => .ex c d n'
    | none => .st
  | .st => .st
def setAll (n : En) : List Nat → List D → Option En
  | [], [] => some n
  | i :: is, d :: ds => match n[i]? with
    | some (.pn _) => none
    | some _ => setAll (n.set i (.fz d)) is ds
    | none => none
  | _, _ => none
def Tg.put (t : Tg) (d : D) (n : En) : Option En := match t with
  | .nm i => setAll n [i] [d]
  | .tp is => match d with
    | .tuple ds => setAll n is ds
    | _ => none
def wipeN (n : En) : List Nat → En
  | [] => n
  | v :: vs => (wipeN n vs).set v .un
def noPn (n : En) (vs : List Nat) : Bool := vs.all fun v => match n[v]? with
  | some (.pn _) => false
  | _ => true
/-- a comprehension's turns; elt, cond: over the block's slots -/
def lcGo (tg : Tg) (own : List Nat) (cond : En → Ou Bool) (elt : En → Ou R) : List D → List D → En → Ou (List D)
  | [], acc, n => .ok acc n
  | x :: xs, acc, n => match tg.put x (wipeN n own) with
    | none => .st
    | some n1 => (cond n1).bd fun b n2 => if b then (elt n2).bd fun r n3 => if decide (acc.length < sizeLine) then lcGo tg own cond elt xs (acc ++ [r.d]) n3 else .st
      else lcGo tg own cond elt xs acc n2
def seqD : D → Option (List D)
  | .tuple xs => some xs
  | .list xs => some xs
  | _ => none
def enumD : Nat → List D → List D
  | _, [] => []
  | k, x :: r => .tuple [.int k, x] :: enumD (k + 1) r
def zipD : List D → List D → List D
  | x :: xs, y :: ys => .tuple [x, y] :: zipD xs ys
  | _, _ => []

/-- what a node does: as a value, as a test, as a row of arguments, as what is walked -/
structure Ev where
  e : En → Ou R
  t : En → Ou Bool
  l : En → Ou (List P)
  i : En → Ou (List D)
def Ev.val (e : En → Ou R) : Ev := ⟨e, fun n => (e n).bd fun r n1 => .of (truD r.d) n1, fun _ => .st, fun n => (e n).bd fun r n1 => .of (seqD r.d) n1⟩
def Ev.no : Ev := ⟨fun _ => .st, fun _ => .st, fun _ => .st, fun _ => .st⟩
def Ev.itr (i : En → Ou (List D)) : Ev := ⟨fun _ => .st, fun _ => .st, fun _ => .st, i⟩

section
variable (T : Tb) (C : Nat → Option D)
def zVar (i : Nat) (n : En) : Ou R := match n[i]? with
  | some (.fz d) => .ok (.fr d) n
  | some (.ow d) => .ok (.fr d) (n.set i (.fz d))
  | _ => .st
def zPkT (i : Nat) (n : En) : Ou Bool := match (n[i]?).bind slD with
  | some d => .of (truD d) n
  | none => .st
def zOp (o : Op) (l : En → Ou (List P)) (n : En) : Ou R := (l n).bd fun ps n1 => match opdl o n1 ps with
  | some ds => .of (opD o ds) n1
  | none => .st
def zChn (o1 o2 : COp) (a b c : En → Ou P) (n : En) : Ou R := (a n).bd fun pa n1 => (b n1).bd fun pb n2 => match rs n2 pa, rs n2 pb with
  | some x, some y => match cmpD o1 x y with
    | some true => (c n2).bd fun pc n3 => match rs n3 pb, rs n3 pc with
      | some y, some z => .of ((cmpD o2 y z).map dbl) n3
      | _, _ => .st
    | some false => .ok (dbl false) n2
    | none => .st
  | _, _ => .st
def zChn3 (o1 o2 o3 : COp) (a b c d : En → Ou P) (n : En) : Ou R := (a n).bd fun pa n1 => (b n1).bd fun pb n2 => match rs n2 pa, rs n2 pb with
  | some x, some y => match cmpD o1 x y with
    | some true => (c n2).bd fun pc n3 => match rs n3 pb, rs n3 pc with
      | some y, some z => match cmpD o2 y z with
        | some true => (d n3).bd fun pd n4 => match rs n4 pc, rs n4 pd with
          | some z, some u => .of ((cmpD o3 z u).map dbl) n4
          | _, _ => .st
        | some false => .ok (dbl false) n3
        | none => .st
      | _, _ => .st
    | some false => .ok (dbl false) n2
    | none => .st
  | _, _ => .st
def zLrg1 (a : En → Ou P) (n : En) : Ou R := (a n).bd fun p n1 => match rs n1 p with
  | some (.int i) => if rngOk i && decide (i.toNat ≤ 16777216) then .ok (.nw (.list (rangeD 0 i))) n1 else .st
  | _ => .st
def zLrg2 (a b : En → Ou P) (n : En) : Ou R := (a n).bd fun p n1 => (b n1).bd fun q n2 => match rs n2 p, rs n2 q with
  | some (.int i), some (.int j) => if rngOk i && (rngOk j && decide ((j - i).toNat ≤ 16777216)) then .ok (.nw (.list (rangeD i j))) n2 else .st
  | _, _ => .st
def zEnm (a : En → Ou R) (n : En) : Ou (List D) := (a n).bd fun r n1 => match r.d with
  | .list xs => .ok (enumD 0 xs) n1
  | _ => .st
def zZip (a b : En → Ou R) (n : En) : Ou (List D) := (a n).bd fun r n1 => (b n1).bd fun q n2 => match r.d, q.d with
  | .list xs, .list ys => .ok (zipD xs ys) n2
  | .tuple xs, .tuple ys => .ok (zipD xs ys) n2
  | _, _ => .st
def zSlc (a b c : En → Ou P) (n : En) : Ou R := (a n).bd fun pa n1 => (b n1).bd fun pb n2 => match rs n2 pb with
  | some (.int i) => (c n2).bd fun pc n3 => match rs n3 pa, rs n3 pc with
    | some x, some (.int j) => .of (slcD x (some i) (some j)) n3
    | _, _ => .st
  | _ => .st
def zAnd (a b : En → Ou R) (n : En) : Ou R := (a n).bd fun r n1 => match r with
  | .fr (.bool true) => b n1
  | .fr (.bool false) => .ok (dbl false) n1
  | _ => .st
def zOr (a b : En → Ou R) (n : En) : Ou R := (a n).bd fun r n1 => match r with
  | .fr (.bool false) => b n1
  | .fr (.bool true) => .ok (dbl true) n1
  | _ => .st
def zNot (a : En → Ou R) (n : En) : Ou R := (a n).bd fun r n1 => match r with
  | .fr (.bool b) => .ok (dbl (!b)) n1
  | _ => .st
def zCall (m : Option (Nat × Fm)) (l : En → Ou (List P)) (n : En) : Ou R := match m with
  | none => .st
  | some m => (l n).bd fun ps n1 => if ps.length = m.1 then match argsS n1 ps with
    | some ss => if (ioIx ps).Nodup then afterCall n1 ps (m.2 ss) else .st
    | none => .st
    else .st
def zLc (tg : Tg) (own : List Nat) (i : En → Ou (List D)) (cond : En → Ou Bool) (elt : En → Ou R) (n : En) : Ou R := (i n).bd fun xs n1 => if noPn n1 own then match lcGo tg own cond elt xs [] (wipeN n1 own) with
    | .ok ds n2 => .ok (.nw (.list ds)) (wipeN n2 own)
    | _ => .st
  else .st
def zRng1 (a : En → Ou P) (n : En) : Ou (List D) := (a n).bd fun p n1 => match rs n1 p with
  | some (.int i) => if rngOk i then .ok (rangeD 0 i) n1 else .st
  | _ => .st
def zRng2 (a b : En → Ou P) (n : En) : Ou (List D) := (a n).bd fun p n1 => (b n1).bd fun q n2 => match rs n2 p, rs n2 q with
  | some (.int i), some (.int j) => if rngOk i && rngOk j then .ok (rangeD i j) n2 else .st
  | _, _ => .st
def zEat (i : Nat) (n : En) : Ou R := match n[i]? with
  | some (.er _ d) => .ok (.fr d) n
  | _ => .st
def ev : E → Ev
  | .var i => .val (zVar i)
  | .pk i => { Ev.no with t := zPkT i }
  | .io _ => .no
  | .cst d => .val fun n => .ok (.fr d) n
  | .glb g => .val fun n => match C g with
    | some d => .ok (.fr d) n
    | none => .st
  | .op o as => .val (zOp o (ev as).l)
  | .nil => { Ev.no with l := fun n => .ok [] n }
  | .cons a r => { Ev.no with l := fun n => (opd a (ev a).e n).bd fun p n1 => ((ev r).l n1).bd fun ps n2 => .ok (p :: ps) n2 }
  | .chn o1 o2 a b c => .val (zChn o1 o2 (opd a (ev a).e) (opd b (ev b).e) (opd c (ev c).e))
  | .slc a b c => .val (zSlc (opd a (ev a).e) (opd b (ev b).e) (opd c (ev c).e))
  | .and a b => { Ev.val (zAnd (ev a).e (ev b).e) with t := fun n => ((ev a).t n).bd fun k n1 => if k then (ev b).t n1 else .ok false n1 }
  | .or a b => { Ev.val (zOr (ev a).e (ev b).e) with t := fun n => ((ev a).t n).bd fun k n1 => if k then .ok true n1 else (ev b).t n1 }
  | .not a => { Ev.val (zNot (ev a).e) with t := fun n => ((ev a).t n).bd fun k n1 => .ok (!k) n1 }
  | .ife t a b => .val fun n => ((ev t).t n).bd fun k n1 => if k then (ev a).e n1 else (ev b).e n1
  | .call f as => .val (zCall (T f) (ev as).l)
  | .lc elt tg it cond own => .val (zLc tg own (ev it).i (ev cond).t (ev elt).e)
  | .yes => { Ev.no with t := fun n => .ok true n }
  | .rng1 a => .itr (zRng1 (opd a (ev a).e))
  | .rng2 a b => .itr (zRng2 (opd a (ev a).e) (opd b (ev b).e))
  | .enm a => .itr (zEnm (ev a).e)
  | .zip a b => .itr (zZip (ev a).e (ev b).e)
  | .eat i => .val (zEat i)
  | .eis _ _ => .no
  | .any => .no
  | .chn3 o1 o2 o3 a b c d => .val (zChn3 o1 o2 o3 (opd a (ev a).e) (opd b (ev b).e) (opd c (ev c).e) (opd d (ev d).e))
  | .lrg1 a => .val (zLrg1 (opd a (ev a).e))
  | .lrg2 a b => .val (zLrg2 (opd a (ev a).e) (opd b (ev b).e))
end
end Z

set_option Elab.async false
set_option linter.all false
set_option maxRecDepth 100000
set_option maxHeartbeats 4000000
namespace Z
open PySem PySem.Spec PyProof.Rows L2

/-! ## what holds of the heap -/
mutual
/-- a value's data: lists are tracked or locked, tuples may also stand in the written part -/
inductive Dz (K : PySem.W.Frag) (H : Hp) : V → D → Prop
  | non : Dz K H .non .none
  | bl (b : Bool) : Dz K H (.bl b) (.bool b)
  | int (i : Int) : Dz K H (.int i) (.int i)
  | str (x : Str) : Dz K H (.str x) (.str x)
  | lst {a : Addr} {xs : List V} {ds : List D} : Rd H a (.lst xs) → DzAll K H xs ds → Dz K H (.ref a) (.list ds)
  | tup {a : Addr} {xs : List V} {ds : List D} : SqT K H a xs → DzAll K H xs ds → Dz K H (.ref a) (.tuple ds)
inductive DzAll (K : PySem.W.Frag) (H : Hp) : List V → List D → Prop
  | nil : DzAll K H [] []
  | cons {v : V} {vs : List V} {d : D} {ds : List D} : Dz K H v d → DzAll K H vs ds → DzAll K H (v :: vs) (d :: ds)
end
mutual
theorem Dz.toDp {K : PySem.W.Frag} {H : Hp} : ∀ {d : D} {v : V}, Dz K H v d → Dp K H v d
  | .none, _, h => by cases h; exact .non
  | .bool _, _, h => by cases h; exact .bl _
  | .int _, _, h => by cases h; exact .int _
  | .str _, _, h => by cases h; exact .str _
  | .list ds, _, h => by cases h with | lst a b => exact .lst (.inl a) (DzAll.toDp b)
  | .tuple ds, _, h => by cases h with | tup a b => exact .tup a (DzAll.toDp b)
  | .dict _, _, h => by cases h
theorem DzAll.toDp {K : PySem.W.Frag} {H : Hp} : ∀ {ds : List D} {vs : List V}, DzAll K H vs ds → DpAll K H vs ds
  | [], _, h => by cases h; exact .nil
  | d :: ds, _, h => by cases h with | cons a b => exact .cons a.toDp (DzAll.toDp b)
end
section mono
variable {K : PySem.W.Frag} {F F' : Hp}
theorem rd_mono (s : Same F F') {a : Addr} {u : HO} (h : Rd F a u) : Rd F' a u := by
  rcases h with h | ⟨o, h⟩
  · exact .inl (s _ _ h)
  · exact .inr ⟨o, s _ _ h⟩
theorem sqL_mono (s : Same F F') {a : Addr} {xs : List V} (h : SqL K F a xs) : SqL K F' a xs := h.imp (rd_mono s) id
theorem sqT_mono (s : Same F F') {a : Addr} {xs : List V} (h : SqT K F a xs) : SqT K F' a xs := h.imp (rd_mono s) id
mutual
theorem dp_mono (s : Same F F') : ∀ {d : D} {v : V}, Dz K F v d → Dz K F' v d
  | .none, _, h => by cases h; exact .non
  | .bool _, _, h => by cases h; exact .bl _
  | .int _, _, h => by cases h; exact .int _
  | .str _, _, h => by cases h; exact .str _
  | .list ds, _, h => by cases h with | lst a b => exact .lst (rd_mono s a) (dpAll_mono s b)
  | .tuple ds, _, h => by cases h with | tup a b => exact .tup (sqT_mono s a) (dpAll_mono s b)
  | .dict _, _, h => by cases h
theorem dpAll_mono (s : Same F F') : ∀ {ds : List D} {vs : List V}, DzAll K F vs ds → DzAll K F' vs ds
  | [], _, h => by cases h; exact .nil
  | d :: ds, _, h => by cases h with | cons a b => exact .cons (dp_mono s a) (dpAll_mono s b)
end
end mono

/-- an owned list -/
def Mo (K : PySem.W.Frag) (F H : Hp) (a : Addr) (d : D) : Prop := F a = none ∧ ∃ ds xs, d = .list ds ∧ H a = some (.lst xs) ∧ DzAll K F xs ds
/-- an operand: frozen, or an owned list that is read -/
def Dq (K : PySem.W.Frag) (F H : Hp) (v : V) (d : D) : Prop := Dz K F v d ∨ ∃ a, v = .ref a ∧ Mo K F H a d
/-- a caught exception's slot -/
def ErOk (o : Option (Option V)) : Prop := ∃ v, o = some (some v)
def SlOk (K : PySem.W.Frag) (F H : Hp) (o : Option (Option V)) : Sl → Prop
  | .un => True
  | .fz d => ∃ v, o = some (some v) ∧ Dz K F v d
  | .ow d => ∃ a, o = some (some (.ref a)) ∧ Mo K F H a d
  | .pn d => ∃ a, o = some (some (.ref a)) ∧ Mo K F H a d
  | .er _ _ => ErOk o
def isOwn : Sl → Prop
  | .ow _ => True
  | .pn _ => True
  | _ => False
def own (σ : L2.St) (n : En) (a : Addr) : Prop := ∃ (i : Nat) (s : Sl), n[i]? = some s ∧ isOwn s ∧ σ[i]? = some (some (V.ref a))
structure SO (K : PySem.W.Frag) (F H : Hp) (σ : L2.St) (n : En) : Prop where
  sub : Same F H
  len : n.length = σ.length
  sl : ∀ (i : Nat) (s : Sl), n[i]? = some s → SlOk K F H σ[i]? s
  ap : ∀ (i j : Nat) (s t : Sl), i ≠ j → n[i]? = some s → n[j]? = some t → isOwn s → isOwn t → σ[i]? ≠ σ[j]?
structure Step (σ : L2.St) (F H : Hp) (n : En) (F' H' : Hp) (n' : En) : Prop where
  f : Same F F'
  h : ∀ a o, H a = some o → ¬ own σ n a → H' a = some o
  nf : ∀ a o, F' a = some o → F a = some o ∨ H a = none ∨ own σ n a
  ow : ∀ a, own σ n' a → own σ n a
  dom : ∀ a, H' a = none → H a = none
theorem Step.refl {σ : L2.St} {F H : Hp} {n : En} : Step σ F H n F H n := ⟨.refl _, fun _ _ h _ => h, fun _ _ h => .inl h, fun _ h => h, fun _ h => h⟩
theorem Step.trans {σ : L2.St} {F H F1 H1 F2 H2 : Hp} {n n1 n2 : En} (a : Step σ F H n F1 H1 n1) (b : Step σ F1 H1 n1 F2 H2 n2) : Step σ F H n F2 H2 n2 where
  f := a.f.trans b.f
  h := fun x o h no => b.h x o (a.h x o h no) fun w => no (a.ow x w)
  nf := fun x o h => by
    rcases b.nf x o h with q | q | q
    · exact a.nf x o q
    · exact .inr (.inl (a.dom x q))
    · exact .inr (.inr (a.ow x q))
  ow := fun x h => a.ow x (b.ow x h)
  dom := fun x h => a.dom x (b.dom x h)
theorem own_lst {K : PySem.W.Frag} {F H : Hp} {σ : L2.St} {n : En} (s : SO K F H σ n) {a : Addr} (o : own σ n a) : F a = none ∧ ∃ xs, H a = some (.lst xs) := by
  obtain ⟨i, t, e, io, ev⟩ := o
  have q := s.sl i t e
  cases t with
  | ow d => obtain ⟨b, eb, h0, ds, xs, _, h1, _⟩ := q; rw [ev] at eb; cases eb; exact ⟨h0, xs, h1⟩
  | pn d => obtain ⟨b, eb, h0, ds, xs, _, h1, _⟩ := q; rw [ev] at eb; cases eb; exact ⟨h0, xs, h1⟩
  | un => exact io.elim
  | fz d => exact io.elim
  | er c d => exact io.elim

/-- the heap grows -/
structure Ext (F H F' H' : Hp) : Prop where
  f : Same F F'
  h : Same H H'
  nf : ∀ a o, F' a = some o → F a = some o ∨ H a = none
  sub : Same F' H'
theorem Ext.refl {F H : Hp} (s : Same F H) : Ext F H F H := ⟨.refl _, .refl _, fun _ _ h => .inl h, s⟩
section
variable {K : PySem.W.Frag} {F H F' H' : Hp} {σ : L2.St} {n : En}
theorem mo_ext (e : Ext F H F' H') {a : Addr} {d : D} (m : Mo K F H a d) : Mo K F' H' a d := by
  obtain ⟨h0, ds, xs, e1, h1, h2⟩ := m
  refine ⟨?_, ds, xs, e1, e.h _ _ h1, dpAll_mono e.f h2⟩
  cases q : F' a with
  | none => rfl
  | some o =>
    rcases e.nf a o q with z | z
    · rw [h0] at z; cases z
    · rw [h1] at z; cases z
theorem slOk_ext (e : Ext F H F' H') {o : Option (Option V)} {s : Sl} (m : SlOk K F H o s) : SlOk K F' H' o s := by
  cases s with
  | un => trivial
  | fz d => obtain ⟨v, h, q⟩ := m; exact ⟨v, h, dp_mono e.f q⟩
  | ow d => obtain ⟨a, h, q⟩ := m; exact ⟨a, h, mo_ext e q⟩
  | pn d => obtain ⟨a, h, q⟩ := m; exact ⟨a, h, mo_ext e q⟩
  | er c d => exact m
theorem SO.ext (s : SO K F H σ n) (e : Ext F H F' H') : SO K F' H' σ n := ⟨e.sub, s.len, fun i t h => slOk_ext e (s.sl i t h), s.ap⟩
theorem Step.ext (e : Ext F H F' H') : Step σ F H n F' H' n := ⟨e.f, fun _ _ h _ => e.h _ _ h, fun a o h => (e.nf a o h).elim .inl fun z => .inr (.inl z), fun _ h => h, fun a h => by
  cases q : H a with
  | none => rfl
  | some o => rw [e.h _ _ q] at h; cases h⟩
end

/-! ## results -/
def ExOk (K : PySem.W.Frag) (X9 : Nat → Addr × Str) (F H : Hp) (c : Nat) (d : D) (cls : Value) (dd : Option Addr) : Prop :=
  cls = .ref (X9 c).1 ∧ ∃ a v, dd = some a ∧ H a = some (.xd [((X9 c).2, v)]) ∧ Dz K F v d ∧ (X9 c).2 ≠ ⟨#[]⟩
/-- the static part -/
structure Ck where
  K : PySem.W.Frag
  X9 : Nat → Addr × Str
  W : WX
/-- what ties a result to its value: the heap at the start, F, H, slots, code's slots, the value, the result -/
structure Rho (α β : Type) where
  r : Hp → Hp → Hp → L2.St → En → β → α → Prop
  an : ∀ {H H1 F' H' : Hp} {σ : L2.St} {n : En} {b : β} {a : α}, (∀ x, H1 x = none → H x = none) → r H1 F' H' σ n b a → r H F' H' σ n b a
def Po {α β : Type} (ρ : Rho α β) (k : Ck) (o : Ou α) (σ : L2.St) (F H : Hp) (n : En) (Q : β → Hp → Prop) : Prop := match o with
  | .ok a n' => ∀ b F' H', SO k.K F' H' σ n' → Step σ F H n F' H' n' → ρ.r H F' H' σ n' b a → Q b H'
  | .ex c d n' => ∀ cls dd F' H', SO k.K F' H' σ n' → Step σ F H n F' H' n' → ExOk k.K k.X9 F' H' c d cls dd → k.W cls dd σ H'
  | .st => False
def tz {α β : Type} (ρ : Rho α β) (k : Ck) (f : En → Ou α) : L2.St → Hp → (β → Hp → Prop) → Prop := fun σ H Q => ∃ F n, SO k.K F H σ n ∧ Po ρ k (f n) σ F H n Q
/-- values -/
def rvOk (K : PySem.W.Frag) (H0 F H : Hp) (v : V) : R → Prop
  | .fr d => Dz K F v d
  | .nw d => ∃ a, v = .ref a ∧ Mo K F H a d ∧ H0 a = none
def rV (K : PySem.W.Frag) : Rho R V where
  r := fun H0 F H _ _ v r => rvOk K H0 F H v r
  an := fun {H H1 F' H' σ n b a} h x => by
    cases a with
    | fr d => exact x
    | nw d => obtain ⟨a, e, m, z⟩ := x; exact ⟨a, e, m, h a z⟩
/-- frozen values -/
def rD (K : PySem.W.Frag) : Rho D V := ⟨fun _ F _ _ _ v d => Dz K F v d, fun _ x => x⟩
def pv1 (K : PySem.W.Frag) (F : Hp) (σ : L2.St) (v : V) : P → Prop
  | .dd d => Dz K F v d
  | .sl i => σ[i]? = some (some v)
  | .io i => σ[i]? = some (some v)
def rP (K : PySem.W.Frag) : Rho P V := ⟨fun _ F _ σ _ v p => pv1 K F σ v p, fun _ x => x⟩
inductive PsOk (K : PySem.W.Frag) (F : Hp) (σ : L2.St) : List V → List P → Prop where
  | nil : PsOk K F σ [] []
  | cons {v : V} {vs : List V} {p : P} {ps : List P} : pv1 K F σ v p → PsOk K F σ vs ps → PsOk K F σ (v :: vs) (p :: ps)
def rL (K : PySem.W.Frag) : Rho (List P) (List V) := ⟨fun _ F _ σ _ vs ps => PsOk K F σ vs ps, fun _ x => x⟩
def rB : Rho Bool Bool := ⟨fun _ _ _ _ _ b a => b = a, fun _ x => x⟩
/-- what is walked -/
structure ItOk (K : PySem.W.Frag) (F0 : Hp) (J : It) (ds : List D) : Prop where
  go : ∀ (i : Nat) (H F : Hp), Same F0 F → Same F H → i < ds.length → J.go i H
  stop : ∀ (H F : Hp), Same F0 F → Same F H → J.stop ds.length H
  yld : ∀ (i : Nat) (H F : Hp) (x : V) (H' : Hp), Same F0 F → Same F H → i < ds.length → J.yld i H x H' → ∃ F' d, Ext F H F' H' ∧ ds[i]? = some d ∧ Dz K F' x d
def rI (K : PySem.W.Frag) : Rho (List D) It := ⟨fun _ F _ _ _ J ds => ItOk K F J ds, fun _ x => x⟩
theorem pv1_mono {K : PySem.W.Frag} {F F' : Hp} {σ : L2.St} (s : Same F F') {v : V} {p : P} (h : pv1 K F σ v p) : pv1 K F' σ v p := by
  cases p with
  | dd d => exact dp_mono s h
  | sl i => exact h
  | io i => exact h
theorem psOk_mono {K : PySem.W.Frag} {F F' : Hp} {σ : L2.St} (s : Same F F') {vs : List V} {ps : List P} (h : PsOk K F σ vs ps) : PsOk K F' σ vs ps := by
  induction h with
  | nil => exact .nil
  | cons a _ ih => exact .cons (pv1_mono s a) ih

section
variable {α β γ δ : Type} {ρ : Rho α β} {ρ' : Rho γ δ} {k : Ck} {σ : L2.St} {F H : Hp} {n : En}
theorem Po.mono {o : Ou α} {Q Q' : β → Hp → Prop} (h : Po ρ k o σ F H n Q) (i : ∀ b H', Q b H' → Q' b H') : Po ρ k o σ F H n Q' := by
  cases o with
  | ok a n' => exact fun b F' H' s t r => i _ _ (h b F' H' s t r)
  | ex c d n' => exact h
  | st => exact h
theorem Po.shift {o : Ou α} {Q : β → Hp → Prop} {F1 H1 : Hp} {n1 : En} (h : Po ρ k o σ F H n Q) (t : Step σ F H n F1 H1 n1) : Po ρ k o σ F1 H1 n1 Q := by
  cases o with
  | ok a n' => exact fun b F' H' s u r => h b F' H' s (t.trans u) (ρ.an t.dom r)
  | ex c d n' => exact fun cl dd F' H' s u r => h cl dd F' H' s (t.trans u) r
  | st => exact h
/-- one thing after another -/
theorem Po.bd {m : Ou γ} {f : γ → En → Ou α} {Q : β → Hp → Prop} (h : Po ρ k (m.bd f) σ F H n Q) :
    Po ρ' k m σ F H n fun b H1 => ∃ F1 n1 a, SO k.K F1 H1 σ n1 ∧ Step σ F H n F1 H1 n1 ∧ ρ'.r H F1 H1 σ n1 b a ∧ Po ρ k (f a n1) σ F1 H1 n1 Q := by
  cases m with
  | ok a n1 => exact fun b F1 H1 s t r => ⟨F1, n1, a, s, t, r, Po.shift (show Po ρ k (f a n1) σ F H n Q from h) t⟩
  | ex c d n' => exact h
  | st => exact h
theorem Po.of {o : Option α} {m : En} {Q : β → Hp → Prop} (h : Po ρ k (Ou.of o m) σ F H n Q) : ∃ a, o = some a ∧ Po ρ k (.ok a m) σ F H n Q := by
  cases o with
  | none => exact h.elim
  | some a => exact ⟨a, rfl, h⟩
/-- a fresh list is frozen -/
theorem frz_so {d : D} {a : Addr} {F' H' : Hp} {n' : En} (s0 : SO k.K F H σ n) (s : SO k.K F' H' σ n') (t : Step σ F H n F' H' n') (m : Mo k.K F' H' a d) (z : H a = none) :
    ∃ F2, SO k.K F2 H' σ n' ∧ Step σ F H n F2 H' n' ∧ Dz k.K F2 (.ref a) d ∧ Same F' F2 := by
  obtain ⟨h0, ds, xs, rfl, h1, h2⟩ := m
  have no : ¬ own σ n' a := fun o => by
    obtain ⟨_, xs, q⟩ := own_lst s0 (t.ow a o)
    rw [z] at q; cases q
  have sm : Same F' (upd F' a (.lst xs)) := fun b o e => by
    rw [upd_ne (ne_of_none e h0)]; exact e
  refine ⟨upd F' a (.lst xs), ⟨fun b o e => ?_, s.len, fun i x e => ?_, s.ap⟩, ⟨t.f.trans sm, t.h, fun b o e => ?_, t.ow, t.dom⟩, .lst (.inl upd_same) (dpAll_mono sm h2), sm⟩
  · by_cases q : b = a
    · subst q; rw [upd_same] at e; cases e; exact h1
    · rw [upd_ne q] at e; exact s.sub b o e
  · have y := s.sl i x e
    have mo : ∀ b d, own σ n' b → Mo k.K F' H' b d → Mo k.K (upd F' a (.lst xs)) H' b d := by
      rintro b d ob ⟨m0, es, ys, rfl, m1, m2⟩
      refine ⟨?_, es, ys, rfl, m1, dpAll_mono sm m2⟩
      rw [upd_ne (show b ≠ a from fun q => no (by rw [← q]; exact ob))]; exact m0
    cases x with
    | un => trivial
    | fz d => obtain ⟨v, e1, e2⟩ := y; exact ⟨v, e1, dp_mono sm e2⟩
    | ow d => obtain ⟨b, e1, e2⟩ := y; exact ⟨b, e1, mo b d ⟨i, _, e, trivial, e1⟩ e2⟩
    | pn d => obtain ⟨b, e1, e2⟩ := y; exact ⟨b, e1, mo b d ⟨i, _, e, trivial, e1⟩ e2⟩
    | er c d => exact y
  · by_cases q : b = a
    · subst q; exact .inr (.inl z)
    · rw [upd_ne q] at e; exact t.nf b o e
theorem Po.frz {m : Ou R} {Q : V → Hp → Prop} (s0 : SO k.K F H σ n) (h : Po (rD k.K) k (m.bd fun r n1 => .ok r.d n1) σ F H n Q) : Po (rV k.K) k m σ F H n Q := by
  cases m with
  | st => exact h
  | ex c d n' => exact h
  | ok r n' =>
    intro v F' H' s t x
    cases r with
    | fr d => exact h v F' H' s t x
    | nw d =>
      obtain ⟨a, rfl, m, z⟩ := x
      obtain ⟨F2, s2, t2, d2, _⟩ := frz_so s0 s t m z
      exact h _ F2 H' s2 t2 d2
end

/-- a result that leaves the slots alone -/
def rX (K : PySem.W.Frag) (F' H' H : Hp) (v : V) : R → Prop
  | .fr d => Dz K F' v d
  | .nw d => ∃ a, v = .ref a ∧ Mo K F' H' a d ∧ H a = none
def Res (K : PySem.W.Frag) (F H : Hp) (r : R) (Q : VK) : Prop := ∀ v F' H', Ext F H F' H' → rX K F' H' H v r → Q v H'
section
variable {k : Ck} {K : PySem.W.Frag} {σ : L2.St} {F H : Hp} {n : En} {Q : VK}
theorem Po.res {r : R} (s : SO k.K F H σ n) (h : Po (rV k.K) k (.ok r n) σ F H n Q) : Res k.K F H r Q := by
  intro v F' H' e x
  refine h v F' H' (s.ext e) (Step.ext e) ?_
  cases r with
  | fr d => exact x
  | nw d => exact x
theorem Res.now {d : D} {v : V} (s : Same F H) (h : Res K F H (.fr d) Q) (x : Dz K F v d) : Q v H := h v F H (Ext.refl s) x
theorem Res.int {i : Int} (s : Same F H) (h : Res K F H (dint i) Q) : Q (.int i) H := h.now s (.int i)
theorem Res.bl {i : Bool} (s : Same F H) (h : Res K F H (dbl i) Q) : Q (.bl i) H := h.now s (.bl i)
theorem same_upd {p : Addr} {o : HO} (h : H p = none) : Same H (upd H p o) := fun b u e => by
  rw [upd_ne (ne_of_none e h)]; exact e
theorem upd_cases {p a : Addr} {o u : HO} (h : upd H p o a = some u) : (a = p ∧ u = o) ∨ (a ≠ p ∧ H a = some u) := by
  by_cases e : a = p
  · subst e; rw [upd_same] at h; cases h; exact .inl ⟨rfl, rfl⟩
  · rw [upd_ne e] at h; exact .inr ⟨e, h⟩
theorem Res.tup {ds : List D} {xs : List V} {p : Addr} (s : Same F H) (h : Res K F H (.fr (.tuple ds)) Q) (x : DzAll K F xs ds) (hp : H p = none) : Q (.ref p) (upd H p (.tup xs)) := by
  have fp : F p = none := s.free hp
  refine h _ (upd F p (.tup xs)) _ ⟨same_upd fp, same_upd hp, fun a o e => ?_, fun a o e => ?_⟩ (.tup (SqT.of upd_same) (dpAll_mono (same_upd fp) x))
  · rcases upd_cases e with ⟨rfl, _⟩ | ⟨_, q⟩
    · exact .inr hp
    · exact .inl q
  · rcases upd_cases e with ⟨rfl, rfl⟩ | ⟨q, q2⟩
    · exact upd_same
    · rw [upd_ne q]; exact s _ _ q2
theorem Res.lst {ds : List D} {xs : List V} {p : Addr} (s : Same F H) (h : Res K F H (.nw (.list ds)) Q) (x : DzAll K F xs ds) (hp : H p = none) : Q (.ref p) (upd H p (.lst xs)) := by
  have fp : F p = none := s.free hp
  exact h _ F _ ⟨.refl _, same_upd hp, fun a o e => .inl e, s.trans (same_upd hp)⟩ ⟨p, rfl, ⟨fp, ds, xs, rfl, upd_same, x⟩, hp⟩
/-- an operand's value -/
theorem rs_ok {p : P} {v : V} {d : D} (s : SO K F H σ n) (h : pv1 K F σ v p) (e : rs n p = some d) : Dq K F H v d := by
  cases p with
  | dd x => cases e; exact .inl h
  | io i => cases e
  | sl i =>
    have e : (n[i]?).bind slD = some d := e
    cases q : n[i]? with
    | none => rw [q] at e; cases e
    | some t =>
      rw [q] at e
      have z := s.sl i t q
      have h : σ[i]? = some (some v) := h
      cases t with
      | un => cases e
      | er c x => cases e
      | fz x => cases e; obtain ⟨w, e1, e2⟩ := z; rw [h] at e1; cases e1; exact .inl e2
      | ow x => cases e; obtain ⟨w, e1, e2⟩ := z; rw [h] at e1; cases e1; exact .inr ⟨w, rfl, e2⟩
      | pn x => cases e; obtain ⟨w, e1, e2⟩ := z; rw [h] at e1; cases e1; exact .inr ⟨w, rfl, e2⟩
inductive DqAll (K : PySem.W.Frag) (F H : Hp) : List V → List D → Prop where
  | nil : DqAll K F H [] []
  | cons {v : V} {vs : List V} {d : D} {ds : List D} : Dq K F H v d → DqAll K F H vs ds → DqAll K F H (v :: vs) (d :: ds)
theorem rsl_ok {vs : List V} {ps : List P} (s : SO K F H σ n) (h : PsOk K F σ vs ps) : ∀ {ds : List D}, rsl n ps = some ds → DqAll K F H vs ds := by
  induction h with
  | nil => intro ds e; cases e; exact .nil
  | cons a _ ih =>
    rename_i v vs p ps _
    intro ds e
    have e : ((rs n p).bind fun d => (rsl n ps).map (d :: ·)) = some ds := e
    cases q : rs n p with
    | none => rw [q] at e; cases e
    | some d =>
      rw [q] at e
      cases q2 : rsl n ps with
      | none => rw [q2] at e; cases e
      | some r => rw [q2] at e; cases e; exact .cons (rs_ok s a q) (ih q2)
theorem frl_ok {vs : List V} {ps : List P} (h : PsOk K F σ vs ps) : ∀ {ds : List D}, frl ps = some ds → DzAll K F vs ds := by
  induction h with
  | nil => intro ds e; cases e; exact .nil
  | cons a _ ih =>
    rename_i v vs p ps _
    intro ds e
    cases p with
    | sl i => cases e
    | io i => cases e
    | dd x =>
      have e : (frl ps).map (x :: ·) = some ds := e
      cases q2 : frl ps with
      | none => rw [q2] at e; cases e
      | some r => rw [q2] at e; cases e; exact .cons a (ih q2)
theorem Dq.dp {v : V} {d : D} (s : Same F H) (h : Dq K F H v d) : Dz K H v d := by
  rcases h with h | ⟨a, rfl, _, ds, xs, rfl, h1, h2⟩
  · exact dp_mono s h
  · exact .lst (.inl h1) (dpAll_mono s h2)
theorem Dq.int {v : V} {i : Int} (h : Dq K F H v (.int i)) : v = .int i := by
  rcases h with h | ⟨a, rfl, _, ds, xs, e, _⟩
  · cases h; rfl
  · cases e
theorem Dq.bool {v : V} {i : Bool} (h : Dq K F H v (.bool i)) : v = .bl i := by
  rcases h with h | ⟨a, rfl, _, ds, xs, e, _⟩
  · cases h; rfl
  · cases e
theorem Dq.none {v : V} (h : Dq K F H v .none) : v = .non := by
  rcases h with h | ⟨a, rfl, _, ds, xs, e, _⟩
  · cases h; rfl
  · cases e
theorem Dq.str {v : V} {x : Str} (h : Dq K F H v (.str x)) : v = .str x := by
  rcases h with h | ⟨a, rfl, _, ds, xs, e, _⟩
  · cases h; rfl
  · cases e
theorem Dq.tup {v : V} {ds : List D} (h : Dq K F H v (.tuple ds)) : ∃ a xs, v = .ref a ∧ SqT K F a xs ∧ DzAll K F xs ds := by
  rcases h with h | ⟨a, rfl, _, ds, xs, e, _⟩
  · cases h with | tup h1 h2 => exact ⟨_, _, rfl, h1, h2⟩
  · cases e
theorem Dq.lst {v : V} {ds : List D} (s : Same F H) (h : Dq K F H v (.list ds)) : ∃ a xs, v = .ref a ∧ Rd H a (.lst xs) ∧ DzAll K F xs ds := by
  rcases h with h | ⟨a, rfl, _, ds, xs, e, h1, h2⟩
  · cases h with | lst h1 h2 => exact ⟨_, _, rfl, rd_mono s h1, h2⟩
  · cases e; exact ⟨_, _, rfl, .inl h1, h2⟩
theorem dpAll_len {vs : List V} {ds : List D} (h : DzAll K F vs ds) : vs.length = ds.length := by
  induction ds generalizing vs with
  | nil => cases h; rfl
  | cons d ds ih => cases h with | cons a b => simp only [List.length_cons, ih b]
theorem dpAll_get {vs : List V} {ds : List D} (h : DzAll K F vs ds) : ∀ {i : Nat} {d : D}, ds[i]? = some d → ∃ v, vs[i]? = some v ∧ Dz K F v d := by
  induction ds generalizing vs with
  | nil => intro i d e; simp at e
  | cons x ds ih =>
    cases h with
    | cons a b =>
      intro i d e
      cases i with
      | zero => simp at e; subst e; exact ⟨_, by simp, a⟩
      | succ i => simp at e; obtain ⟨v, h1, h2⟩ := ih b e; exact ⟨v, by simpa using h1, h2⟩
theorem dpAll_app {vs ws : List V} {ds es : List D} (h : DzAll K F vs ds) (g : DzAll K F ws es) : DzAll K F (vs ++ ws) (ds ++ es) := by
  induction ds generalizing vs with
  | nil => cases h; exact g
  | cons x ds ih => cases h with | cons a b => exact .cons a (ih b)
theorem dpAll_take {vs : List V} {ds : List D} (h : DzAll K F vs ds) : ∀ (m : Nat), DzAll K F (vs.take m) (ds.take m) := by
  induction ds generalizing vs with
  | nil => cases h; intro m; simp; exact .nil
  | cons x ds ih => cases h with | cons a b => intro m; cases m with
    | zero => exact .nil
    | succ m => exact .cons a (ih b m)
theorem dpAll_drop {vs : List V} {ds : List D} (h : DzAll K F vs ds) : ∀ (m : Nat), DzAll K F (vs.drop m) (ds.drop m) := by
  induction ds generalizing vs with
  | nil => cases h; intro m; simp; exact .nil
  | cons x ds ih => cases h with | cons a b => intro m; cases m with
    | zero => exact .cons a b
    | succ m => exact ih b m
theorem dpAll_rev {vs : List V} {ds : List D} (h : DzAll K F vs ds) : DzAll K F vs.reverse ds.reverse := by
  induction ds generalizing vs with
  | nil => cases h; exact .nil
  | cons x ds ih => cases h with | cons a b => rw [List.reverse_cons, List.reverse_cons]; exact dpAll_app (ih b) (.cons a .nil)
theorem dpAll_nil {vs : List V} (h : DzAll K F vs []) : vs = [] := by cases h; rfl
end
end Z

set_option Elab.async false
set_option linter.all false
set_option maxRecDepth 100000
set_option maxHeartbeats 4000000
namespace Z
open PySem PySem.Spec PyProof.Rows L2

def BOp.py : BOp → Operator
  | .add => .Add
  | .sub => .Sub
  | .mul => .Mult
  | .fdiv => .FloorDiv
  | .mod => .Mod
  | .pow => .Pow
def COp.py : COp → CmpOp
  | .eq => .Eq
  | .ne => .NotEq
  | .lt => .Lt
  | .le => .LtE
  | .gt => .Gt
  | .ge => .GtE
  | .is => .Is
  | .isn => .IsNot
  | .isin => .In
  | .nin => .NotIn

theorem fitL_ok {n : Nat} (h : fitL n = true) : n ≤ sizeLine := of_decide_eq_true h
theorem ite_some {c : Bool} {α : Type} {a b : α} (h : (if c then some a else none) = some b) : c = true ∧ a = b := by
  cases c with
  | true => exact ⟨rfl, Option.some.inj h⟩
  | false => cases h

def rBin (K : PySem.W.Frag) (o : BOp) : R2 := fun v w H Q => ∃ F x y res, Same F H ∧ Dq K F H v x ∧ Dq K F H w y ∧ binD o x y = some res ∧ Res K F H res Q
def rCmp (K : PySem.W.Frag) (o : COp) : R2 := fun v w H Q => ∃ F x y b, Same F H ∧ Dq K F H v x ∧ Dq K F H w y ∧ cmpD o x y = some b ∧ Q (.bl b) H
def rOp (K : PySem.W.Frag) (o : Op) : List V → Hp → VK → Prop := fun vs H Q => ∃ F ds res, Same F H ∧ DqAll K F H vs ds ∧ opD o ds = some res ∧ Res K F H res Q

section
variable {X : Cx}
/-- list + list, tracked or locked -/
theorem op_catR : OpR X (binaryOp .Add) fun x y H Q => ∃ l b xs zs, x = .ref l ∧ y = .ref b ∧ Rd H l (.lst xs) ∧ Rd H b (.lst zs) ∧ xs.length + zs.length ≤ sizeLine ∧ ∀ p, H p = none → Q (.ref p) (upd H p (.lst (xs ++ zs))) := by
  intro pins s σ H x y v u Q I rx ry h
  obtain ⟨l, b, xs, zs, rfl, rfl, hl, hb, hz, q⟩ := h
  cases rx
  cases ry
  obtain ⟨_, i1, n1, r1, e1⟩ := hl.ok I.hok
  obtain ⟨_, i2, n2, r2, e2⟩ := hb.ok I.hok
  have l1 := r1.length
  have l2 := r2.length
  refine PySem.P.add_list e1 e2 ?_ (by rw [List.size_toArray, List.size_toArray]; omega)
  rw [show i1.toArray ++ i2.toArray = (i1 ++ i2).toArray by simp]
  exact ⟨.ref _, _, I.lnew (t' := s.toks) (r1.append r2) (by rw [List.length_append]; exact hz), rfl, q _ I.fresh⟩
/-- list * int, tracked or locked -/
theorem op_repR : OpR X (binaryOp .Mult) fun x y H Q => ∃ l k xs, x = .ref l ∧ y = .int k ∧ Rd H l (.lst xs) ∧ rngOk k = true ∧ xs.length * k.toNat ≤ sizeLine ∧ ∀ p, H p = none → Q (.ref p) (upd H p (.lst (List.replicate k.toNat xs).flatten)) := by
  intro pins s σ H x y v u Q I rx ry h
  obtain ⟨l, k, xs, rfl, rfl, hl, hk, hz, q⟩ := h
  obtain ⟨k1, k2⟩ := of_decide_eq_true hk
  rcases hl with hl | ⟨o, hl⟩
  · exact op_rep pins s σ H _ _ v u Q I rx ry ⟨l, k, xs, rfl, rfl, hl, by omega, by omega, hz, q⟩
  · cases rx
    obtain ⟨t, rfl⟩ := ry
    have hl2 : Rd H l (.lst xs) := .inr ⟨o, hl⟩
    obtain ⟨_, i1, n1, r1, e1⟩ := hl2.ok I.hok
    have l1 := r1.length
    have a1 : i1.toArray.size * k.toNat ≤ sizeLine := by rw [List.size_toArray, ← l1]; exact hz
    have a2 : ¬ i1.toArray.size * k.toNat > (2 ^ 63 - 1) / 8 := by
      have : (sizeLine : Nat) ≤ (2 ^ 63 - 1) / 8 := by decide
      omega
    have a3 : ¬ (!Builtin.List.listFitsIndex k) = true := by
      rw [fitsIndex_both (by omega) (by omega)]; decide
    have a4 : ¬ Builtin.List.listTooLong (i1.toArray.size * k.toNat) = true := by rw [notLongL a1]; decide
    have a5 : List.foldl (fun x1 x2 => x1 ++ x2) #[] (List.replicate (if i1.toArray.isEmpty = true then 0 else k.toNat) i1.toArray) = (List.replicate k.toNat i1).flatten.toArray := by
      rw [size_rep]
      cases i1 with
      | nil => simp
      | cons _ _ => rw [if_neg (by simp)]
    refine wpAny_binaryOp_repeat_ref (T := "list") (U := "int") (by decide) ⟨_, e1, rfl⟩ (fun s' => typeIs_int s' k t) noFill_list_mul F.fills_int_mul F.slot_int_rmul repeat_list F.slot_int_index.lookup ?_
    refine call_meets F.slot_int_rmul (typeIs_int s k t) F.entry_int_rmul (F.args_int_rmul_2 _ _) (int___rmul___int_list k t l i1.toArray n1) ⟨e1, rfl, ⟨_, e1, rfl⟩, ?_⟩
    refine call_meets F.slot_list_mul ⟨_, e1, rfl⟩ F.entry_list_mul (F.args_list_mul_2 _ _) (AutoListH.list___mul___list_int_3 l i1.toArray n1 k t a3 a2 a4) ⟨e1, ?_⟩
    rw [a5]
    exact ⟨.ref _, _, I.lnew (t' := s.toks) (r1.rep k.toNat) (by rw [PyProof.Rows.lm_len_rep_flat, Nat.mul_comm]; exact hz), rfl, q _ I.fresh⟩
theorem dpAll_rep {K : PySem.W.Frag} {F : Hp} {vs : List V} {ds : List D} (h : DzAll K F vs ds) : ∀ m : Nat, DzAll K F (List.replicate m vs).flatten (List.replicate m ds).flatten
  | 0 => .nil
  | m + 1 => by rw [List.replicate_succ, List.replicate_succ, List.flatten_cons, List.flatten_cons]; exact dpAll_app h (dpAll_rep h m)
theorem op_inT (hu : X.A.units + 65 < cLine) : OpR X (compareOp .In) (fun x y H Q => ∃ d ds, Dp X.K H x d ∧ Dp X.K H y (.tuple ds) ∧ SeqAt.shaped d = true ∧ SeqAt.shaped (.tuple ds) = true ∧ Q (.bl (ds.any fun z => PyData.eqv z d)) H) := by
  intro pins s σ H x y v u Q I rx ry h
  obtain ⟨d, ds, hx, hy, s1, s2, q⟩ := h
  obtain ⟨_, r1⟩ := Dp.reads I d x v hx rx
  obtain ⟨_, r2⟩ := Dp.reads I (.tuple ds) y u hy ry
  exact SeqAt.in_tuple_reads r2 r1 (SeqAt.canLay_of_shaped s2) (SeqAt.canLay_of_shaped s1) (room_in_shaped s1 hu) ⟨.bl _, H, I, rfl, q⟩
theorem op_ninT (hu : X.A.units + 65 < cLine) : OpR X (compareOp .NotIn) (fun x y H Q => ∃ d ds, Dp X.K H x d ∧ Dp X.K H y (.tuple ds) ∧ SeqAt.shaped d = true ∧ SeqAt.shaped (.tuple ds) = true ∧ Q (.bl (!ds.any fun z => PyData.eqv z d)) H) := by
  intro pins s σ H x y v u Q I rx ry h
  obtain ⟨d, ds, hx, hy, s1, s2, q⟩ := h
  obtain ⟨_, r1⟩ := Dp.reads I d x v hx rx
  obtain ⟨_, r2⟩ := Dp.reads I (.tuple ds) y u hy ry
  exact SeqAt.notIn_tuple_reads r2 r1 (SeqAt.canLay_of_shaped s2) (SeqAt.canLay_of_shaped s1) (room_in_shaped s1 hu) ⟨.bl _, H, I, rfl, q⟩
theorem op_bin (o : BOp) : OpR X (binaryOp o.py) (rBin X.K o) := by
  intro pins s σ H v w u1 u2 Q I rv rw' h
  obtain ⟨F, x, y, res, sub, dx, dy, e, q⟩ := h
  cases o with
  | add =>
    cases x <;> cases y <;> try (cases e; done)
    · cases e; rw [dx.int] at rv; rw [dy.int] at rw'
      exact op_add pins s σ H _ _ u1 u2 Q I rv rw' ⟨_, _, rfl, rfl, q.int sub⟩
    · obtain ⟨h1, h2⟩ := ite_some e; cases h2
      rw [dx.str] at rv; rw [dy.str] at rw'
      exact op_add_str pins s σ H _ _ u1 u2 Q I rv rw' ⟨_, _, rfl, rfl, fitL_ok h1, q.now sub (.str _)⟩
    · obtain ⟨h1, h2⟩ := ite_some e; cases h2
      obtain ⟨a, xs, rfl, ha, dxs⟩ := dx.lst sub
      obtain ⟨b, ys, rfl, hb, dys⟩ := dy.lst sub
      exact op_catR pins s σ H _ _ u1 u2 Q I rv rw' ⟨a, b, xs, ys, rfl, rfl, ha, hb, by rw [dpAll_len dxs, dpAll_len dys]; exact fitL_ok h1, fun p hp => q.lst sub (dpAll_app dxs dys) hp⟩
    · obtain ⟨h1, h2⟩ := ite_some e; cases h2
      obtain ⟨a, xs, rfl, ha, dxs⟩ := dx.tup
      obtain ⟨b, ys, rfl, hb, dys⟩ := dy.tup
      refine op_catA pins s σ H _ _ u1 u2 Q I rv rw' ⟨a, b, xs, ys, rfl, rfl, sqT_mono sub ha, sqT_mono sub hb, by rw [dpAll_len dxs, dpAll_len dys]; exact fitL_ok h1, fun z => ?_, fun _ z => ?_, fun _ _ p hp => q.tup sub (dpAll_app dxs dys) hp⟩
      · subst z
        have z2 : _ = [] := List.eq_nil_of_length_eq_zero (dpAll_len dxs).symm
        refine q.now sub ?_
        rw [z2, List.nil_append]
        exact .tup hb dys
      · subst z
        have z2 : _ = [] := List.eq_nil_of_length_eq_zero (dpAll_len dys).symm
        refine q.now sub ?_
        rw [z2, List.append_nil]
        exact .tup ha dxs
  | sub =>
    cases x <;> cases y <;> try (cases e; done)
    cases e; rw [dx.int] at rv; rw [dy.int] at rw'
    exact op_sub pins s σ H _ _ u1 u2 Q I rv rw' ⟨_, _, rfl, rfl, q.int sub⟩
  | mul =>
    cases x <;> cases y <;> try (cases e; done)
    · obtain ⟨h1, h2⟩ := ite_some e; cases h2
      rw [dx.int] at rv; rw [dy.int] at rw'
      refine op_mul pins s σ H _ _ u1 u2 Q I rv rw' ⟨_, _, rfl, rfl, ?_, q.int sub⟩
      rcases Bool.or_eq_true_iff.mp h1 with z | z
      · exact .inl (of_decide_eq_true z)
      · exact .inr (of_decide_eq_true z)
    · obtain ⟨h1, h2⟩ := ite_some e; cases h2
      obtain ⟨h3, h4⟩ := Bool.and_eq_true_iff.mp h1
      obtain ⟨a, xs, rfl, ha, dxs⟩ := dx.lst sub
      rw [dy.int] at rw'
      exact op_repR pins s σ H _ _ u1 u2 Q I rv rw' ⟨a, _, xs, rfl, rfl, ha, h3, by rw [dpAll_len dxs]; exact fitL_ok h4, fun p hp => by rw [dy.int] at *; exact q.lst sub (dpAll_rep dxs _) hp⟩
    · obtain ⟨h1, h2⟩ := ite_some e; cases h2
      obtain ⟨h3, h4⟩ := Bool.and_eq_true_iff.mp h1
      obtain ⟨h5, h6, h7⟩ := of_decide_eq_true h4
      obtain ⟨a, xs, rfl, ha, dxs⟩ := dx.tup
      rw [dy.int] at rw'
      have hl := dpAll_len dxs
      refine op_repT pins s σ H _ _ u1 u2 Q I rv rw' ⟨a, _, xs, rfl, rfl, sqT_mono sub ha, fun z => ?_, h5, h6, by omega, fun p hp => q.tup sub (dpAll_rep dxs _) hp⟩
      subst z
      have := List.eq_nil_of_length_eq_zero hl.symm
      subst this
      cases h3
  | fdiv =>
    cases x <;> cases y <;> try (cases e; done)
    obtain ⟨h1, h2⟩ := ite_some e; cases h2
    have h3 := of_decide_eq_true h1
    rw [dx.int] at rv; rw [dy.int] at rw'
    exact op_fdivN pins s σ H _ _ u1 u2 Q I rv rw' ⟨_, _, rfl, rfl, h3, q.int sub⟩
  | mod =>
    cases x <;> cases y <;> try (cases e; done)
    obtain ⟨h1, h2⟩ := ite_some e; cases h2
    have h3 := of_decide_eq_true h1
    rw [dx.int] at rv; rw [dy.int] at rw'
    exact op_modN pins s σ H _ _ u1 u2 Q I rv rw' ⟨_, _, rfl, rfl, h3, q.int sub⟩
  | pow =>
    cases x <;> cases y <;> try (cases e; done)
    obtain ⟨h1, h2⟩ := ite_some e; cases h2
    have h3 := of_decide_eq_true h1
    rw [dx.int] at rv; rw [dy.int] at rw'
    exact op_pow pins s σ H _ _ u1 u2 Q I rv rw' ⟨_, _, rfl, rfl, h3, q.int sub⟩
theorem isNone_dec {K : PySem.W.Frag} {F H : Hp} {v : V} {x : D} (h : Dq K F H v x) : decide (v = V.non) = isNone x := by
  rcases h with h | ⟨a, rfl, _, ds, xs, rfl, _⟩
  · cases h <;> rfl
  · rfl
theorem op_cmp (hu : X.A.units + 65 < cLine) (o : COp) : OpR X (compareOp o.py) (rCmp X.K o) := by
  intro pins s σ H v w u1 u2 Q I rv rw' h
  obtain ⟨F, x, y, b, sub, dx, dy, e, q⟩ := h
  cases o with
  | eq =>
    obtain ⟨h1, h2⟩ := ite_some (show (if SeqAt.shaped x && SeqAt.shaped y then some (PyData.eqv x y) else none) = some b from e)
    obtain ⟨h3, h4⟩ := Bool.and_eq_true_iff.mp h1
    subst h2
    exact op_eqD (by omega) pins s σ H _ _ u1 u2 Q I rv rw' ⟨x, y, (dx.dp sub).toDp, (dy.dp sub).toDp, h3, h4, q⟩
  | ne =>
    obtain ⟨h1, h2⟩ := ite_some (show (if SeqAt.shaped x && SeqAt.shaped y then some (!PyData.eqv x y) else none) = some b from e)
    obtain ⟨h3, h4⟩ := Bool.and_eq_true_iff.mp h1
    subst h2
    exact op_neD (by omega) pins s σ H _ _ u1 u2 Q I rv rw' ⟨x, y, (dx.dp sub).toDp, (dy.dp sub).toDp, h3, h4, q⟩
  | lt =>
    cases x <;> cases y <;> try (cases e; done)
    cases e; rw [dx.int] at rv; rw [dy.int] at rw'
    exact op_lt pins s σ H _ _ u1 u2 Q I rv rw' ⟨_, _, rfl, rfl, q⟩
  | le =>
    cases x <;> cases y <;> try (cases e; done)
    cases e; rw [dx.int] at rv; rw [dy.int] at rw'
    exact op_le pins s σ H _ _ u1 u2 Q I rv rw' ⟨_, _, rfl, rfl, q⟩
  | gt =>
    cases x <;> cases y <;> try (cases e; done)
    cases e; rw [dx.int] at rv; rw [dy.int] at rw'
    exact op_gt pins s σ H _ _ u1 u2 Q I rv rw' ⟨_, _, rfl, rfl, q⟩
  | ge =>
    cases x <;> cases y <;> try (cases e; done)
    cases e; rw [dx.int] at rv; rw [dy.int] at rw'
    exact op_ge pins s σ H _ _ u1 u2 Q I rv rw' ⟨_, _, rfl, rfl, q⟩
  | is =>
    cases y <;> try (cases x <;> (cases e; done))
    have e : isNone x = b := Option.some.inj (show some (isNone x) = some b by rw [← e] <;> cases x <;> rfl)
    subst e
    rw [dy.none] at rw'
    refine op_isN pins s σ H _ _ u1 u2 Q I rv rw' ⟨rfl, ?_⟩
    rw [isNone_dec dx]; exact q
  | isn =>
    cases y <;> try (cases x <;> (cases e; done))
    have e : (!isNone x) = b := Option.some.inj (show some (!isNone x) = some b by rw [← e] <;> cases x <;> rfl)
    subst e
    rw [dy.none] at rw'
    refine op_notN pins s σ H _ _ u1 u2 Q I rv rw' ⟨rfl, ?_⟩
    rw [isNone_dec dx]; exact q
  | isin =>
    cases y <;> try (cases x <;> (cases e; done))
    · rename_i ys
      obtain ⟨h1, h2⟩ := ite_some (show (if SeqAt.shaped x && SeqAt.shaped (.list ys) then some (ys.any fun z => PyData.eqv z x) else none) = some b by rw [← e] <;> cases x <;> rfl)
      obtain ⟨h3, h4⟩ := Bool.and_eq_true_iff.mp h1
      subst h2
      exact op_inD hu pins s σ H _ _ u1 u2 Q I rv rw' ⟨x, ys, (dx.dp sub).toDp, (dy.dp sub).toDp, h3, h4, q⟩
    · rename_i ys
      obtain ⟨h1, h2⟩ := ite_some (show (if SeqAt.shaped x && SeqAt.shaped (.tuple ys) then some (ys.any fun z => PyData.eqv z x) else none) = some b by rw [← e] <;> cases x <;> rfl)
      obtain ⟨h3, h4⟩ := Bool.and_eq_true_iff.mp h1
      subst h2
      exact op_inT hu pins s σ H _ _ u1 u2 Q I rv rw' ⟨x, ys, (dx.dp sub).toDp, (dy.dp sub).toDp, h3, h4, q⟩
  | nin =>
    cases y <;> try (cases x <;> (cases e; done))
    · rename_i ys
      obtain ⟨h1, h2⟩ := ite_some (show (if SeqAt.shaped x && SeqAt.shaped (.list ys) then some (!ys.any fun z => PyData.eqv z x) else none) = some b by rw [← e] <;> cases x <;> rfl)
      obtain ⟨h3, h4⟩ := Bool.and_eq_true_iff.mp h1
      subst h2
      exact op_notInD hu pins s σ H _ _ u1 u2 Q I rv rw' ⟨x, ys, (dx.dp sub).toDp, (dy.dp sub).toDp, h3, h4, q⟩
    · rename_i ys
      obtain ⟨h1, h2⟩ := ite_some (show (if SeqAt.shaped x && SeqAt.shaped (.tuple ys) then some (!ys.any fun z => PyData.eqv z x) else none) = some b by rw [← e] <;> cases x <;> rfl)
      obtain ⟨h3, h4⟩ := Bool.and_eq_true_iff.mp h1
      subst h2
      exact op_ninT hu pins s σ H _ _ u1 u2 Q I rv rw' ⟨x, ys, (dx.dp sub).toDp, (dy.dp sub).toDp, h3, h4, q⟩

def rNeg (K : PySem.W.Frag) : V → Hp → VK → Prop := fun v H Q => ∃ F x res, Same F H ∧ Dq K F H v x ∧ opD .neg [x] = some res ∧ Res K F H res Q
theorem un_negZ : UnR X (unaryOp .USub) (rNeg X.K) := by
  intro pins s σ H v u Q I rv h
  obtain ⟨F, x, res, sub, dx, e, q⟩ := h
  cases x <;> try (cases e; done)
  cases e; rw [dx.int] at rv
  exact un_neg pins s σ H _ u Q I rv ⟨_, rfl, q.int sub⟩
theorem dqAll1 {K : PySem.W.Frag} {F H : Hp} {vs : List V} {d : D} (h : DqAll K F H vs [d]) : ∃ v, vs = [v] ∧ Dq K F H v d := by
  cases h with
  | cons a b => cases b; exact ⟨_, rfl, a⟩
theorem dqAll2 {K : PySem.W.Frag} {F H : Hp} {vs : List V} {d e : D} (h : DqAll K F H vs [d, e]) : ∃ v w, vs = [v, w] ∧ Dq K F H v d ∧ Dq K F H w e := by
  cases h with
  | cons a b => obtain ⟨w, rfl, c⟩ := dqAll1 b; exact ⟨_, _, rfl, a, c⟩
theorem boolsD_ok {K : PySem.W.Frag} {F : Hp} : ∀ {ds : List D} {vs : List V} {bs : List Bool}, DzAll K F vs ds → boolsD ds = some bs → vs = bs.map V.bl
  | [], _, _, h, e => by cases h; cases e; rfl
  | d :: ds, _, _, h, e => by
    cases h with
    | cons a b =>
      cases d <;> try (cases e; done)
      rename_i k
      have e : (boolsD ds).map (k :: ·) = some _ := e
      cases q : boolsD ds with
      | none => rw [q] at e; cases e
      | some r => rw [q] at e; cases e; cases a; rw [boolsD_ok b q]; rfl
theorem intsD_ok {K : PySem.W.Frag} {F : Hp} : ∀ {ds : List D} {vs : List V} {bs : List Int}, DzAll K F vs ds → intsD ds = some bs → vs = bs.map V.int
  | [], _, _, h, e => by cases h; cases e; rfl
  | d :: ds, _, _, h, e => by
    cases h with
    | cons a b =>
      cases d <;> try (cases e; done)
      rename_i k
      have e : (intsD ds).map (k :: ·) = some _ := e
      cases q : intsD ds with
      | none => rw [q] at e; cases e
      | some r => rw [q] at e; cases e; cases a; rw [intsD_ok b q]; rfl
theorem opD1 {o : Op} {ds : List D} {res : R} (h : ∀ x, opD o [x] ≠ none → True) (e : opD o ds = some res) : True := trivial
section
variable {K : PySem.W.Frag}
theorem cl_len : CallR X (.builtin "len") (rOp X.K .len) := by
  intro pins s σ H vs us Q I rv h
  obtain ⟨F, ds, res, sub, dx, e, q⟩ := h
  cases ds with
  | nil => cases e
  | cons d r =>
    cases r with
    | cons _ _ => cases d <;> cases e
    | nil =>
      obtain ⟨v, rfl, dv⟩ := dqAll1 dx
      cases d <;> try (cases e; done)
      · obtain ⟨h1, h2⟩ := ite_some e; cases h2
        rw [dv.str] at rv
        exact call_len_str pins s σ H _ us Q I rv ⟨_, rfl, fitL_ok h1, q.int sub⟩
      · cases e
        obtain ⟨a, xs, rfl, ha, dxs⟩ := dv.lst sub
        refine call_len_seq pins s σ H _ us Q I rv ⟨a, xs, rfl, .inl (.inl ha), ?_⟩
        rw [dpAll_len dxs]; exact q.int sub
      · cases e
        obtain ⟨a, xs, rfl, ha, dxs⟩ := dv.tup
        refine call_len_seq pins s σ H _ us Q I rv ⟨a, xs, rfl, .inr (sqT_mono sub ha), ?_⟩
        rw [dpAll_len dxs]; exact q.int sub
theorem cl_all (hc : X.calm = true) : CallR X (.builtin "all") (rOp X.K .all) := by
  intro pins s σ H vs us Q I rv h
  obtain ⟨F, ds, res, sub, dx, e, q⟩ := h
  cases ds with
  | nil => cases e
  | cons d r =>
    cases r with
    | cons _ _ => cases d <;> cases e
    | nil =>
      obtain ⟨v, rfl, dv⟩ := dqAll1 dx
      cases d <;> try (cases e; done)
      rename_i xs
      have e : (boolsD xs).map (fun bs => dbl (bs.all id)) = some res := e
      cases z : boolsD xs with
      | none => rw [z] at e; cases e
      | some bs =>
        rw [z] at e; cases e
        obtain ⟨a, vs, rfl, ha, dxs⟩ := dv.lst sub
        rw [boolsD_ok dxs z] at ha
        exact cr_all hc pins s σ H _ us Q I rv ⟨a, bs, rfl, .inl ha, q.bl sub⟩
theorem cl_any (hc : X.calm = true) : CallR X (.builtin "any") (rOp X.K .any) := by
  intro pins s σ H vs us Q I rv h
  obtain ⟨F, ds, res, sub, dx, e, q⟩ := h
  cases ds with
  | nil => cases e
  | cons d r =>
    cases r with
    | cons _ _ => cases d <;> cases e
    | nil =>
      obtain ⟨v, rfl, dv⟩ := dqAll1 dx
      cases d <;> try (cases e; done)
      rename_i xs
      have e : (boolsD xs).map (fun bs => dbl (bs.any id)) = some res := e
      cases z : boolsD xs with
      | none => rw [z] at e; cases e
      | some bs =>
        rw [z] at e; cases e
        obtain ⟨a, vs, rfl, ha, dxs⟩ := dv.lst sub
        rw [boolsD_ok dxs z] at ha
        exact cr_any hc pins s σ H _ us Q I rv ⟨a, bs, rfl, .inl ha, q.bl sub⟩
theorem cl_sum (hc : X.calm = true) : CallR X (.builtin "sum") (rOp X.K .sum) := by
  intro pins s σ H vs us Q I rv h
  obtain ⟨F, ds, res, sub, dx, e, q⟩ := h
  cases ds with
  | nil => cases e
  | cons d r =>
    cases r with
    | cons _ _ => cases d <;> cases e
    | nil =>
      obtain ⟨v, rfl, dv⟩ := dqAll1 dx
      cases d <;> try (cases e; done)
      rename_i xs
      have e : (intsD xs).map (fun ns => dint ns.sum) = some res := e
      cases z : intsD xs with
      | none => rw [z] at e; cases e
      | some bs =>
        rw [z] at e; cases e
        obtain ⟨a, vs, rfl, ha, dxs⟩ := dv.lst sub
        rw [intsD_ok dxs z] at ha
        exact cr_sum hc pins s σ H _ us Q I rv ⟨a, bs, rfl, .inl ha, q.int sub⟩
theorem cl_abs : CallR X (.builtin "abs") (rOp X.K .abs) := by
  intro pins s σ H vs us Q I rv h
  obtain ⟨F, ds, res, sub, dx, e, q⟩ := h
  cases ds with
  | nil => cases e
  | cons d r =>
    cases r with
    | cons _ _ => cases d <;> cases e
    | nil =>
      obtain ⟨v, rfl, dv⟩ := dqAll1 dx
      cases d <;> try (cases e; done)
      cases e
      rw [dv.int] at rv
      exact call_abs pins s σ H _ us Q I rv ⟨_, rfl, q.int sub⟩
theorem cl_int1 : CallR X (.type "int") (rOp X.K .int1) := by
  intro pins s σ H vs us Q I rv h
  obtain ⟨F, ds, res, sub, dx, e, q⟩ := h
  cases ds with
  | nil => cases e
  | cons d r =>
    cases r with
    | cons _ _ => cases d <;> cases e
    | nil =>
      obtain ⟨v, rfl, dv⟩ := dqAll1 dx
      cases d <;> try (cases e; done)
      · cases e
        rw [dv.bool] at rv
        exact call_int1 pins s σ H _ us Q I rv (.inr ⟨_, rfl, q.int sub⟩)
      · cases e
        rw [dv.int] at rv
        exact call_int1 pins s σ H _ us Q I rv (.inl ⟨_, rfl, q.int sub⟩)
theorem cl_min2 (hc : X.calm = true) : CallR X (.builtin "min") (rOp X.K .min2) := by
  intro pins s σ H vs us Q I rv h
  obtain ⟨F, ds, res, sub, dx, e, q⟩ := h
  cases ds with
  | nil => cases e
  | cons d r =>
    cases r with
    | nil => cases d <;> cases e
    | cons d2 r =>
      cases r with
      | cons _ _ => cases d <;> cases d2 <;> cases e
      | nil =>
        obtain ⟨v, w', rfl, dv, dw⟩ := dqAll2 dx
        cases d <;> cases d2 <;> try (cases e; done)
        cases e
        rw [dv.int, dw.int] at rv
        exact call_min2 hc pins s σ H _ us Q I rv ⟨_, _, rfl, q.int sub⟩
theorem cl_max2 (hc : X.calm = true) : CallR X (.builtin "max") (rOp X.K .max2) := by
  intro pins s σ H vs us Q I rv h
  obtain ⟨F, ds, res, sub, dx, e, q⟩ := h
  cases ds with
  | nil => cases e
  | cons d r =>
    cases r with
    | nil => cases d <;> cases e
    | cons d2 r =>
      cases r with
      | cons _ _ => cases d <;> cases d2 <;> cases e
      | nil =>
        obtain ⟨v, w', rfl, dv, dw⟩ := dqAll2 dx
        cases d <;> cases d2 <;> try (cases e; done)
        cases e
        rw [dv.int, dw.int] at rv
        exact call_max2 hc pins s σ H _ us Q I rv ⟨_, _, rfl, q.int sub⟩
theorem cl_tup : CallR X (.type "tuple") (rOp X.K .tupOf) := by
  intro pins s σ H vs us Q I rv h
  obtain ⟨F, ds, res, sub, dx, e, q⟩ := h
  cases ds with
  | nil => cases e
  | cons d r =>
    cases r with
    | cons _ _ => cases d <;> cases e
    | nil =>
      obtain ⟨v, rfl, dv⟩ := dqAll1 dx
      cases d <;> try (cases e; done)
      · cases e
        obtain ⟨a, xs, rfl, ha, dxs⟩ := dv.lst sub
        exact call_tuple_of pins s σ H _ us Q I rv ⟨a, xs, rfl, .inl ⟨.inl ha, fun p hp => q.tup sub dxs hp⟩⟩
      · cases e
        obtain ⟨a, xs, rfl, ha, dxs⟩ := dv.tup
        exact call_tuple_of pins s σ H _ us Q I rv ⟨a, xs, rfl, .inr ⟨sqT_mono sub ha, q.now sub (.tup ha dxs)⟩⟩
theorem cl_lst : CallR X (.type "list") (rOp X.K .lstOf) := by
  intro pins s σ H vs us Q I rv h
  obtain ⟨F, ds, res, sub, dx, e, q⟩ := h
  cases ds with
  | nil => cases e
  | cons d r =>
    cases r with
    | cons _ _ => cases d <;> cases e
    | nil =>
      obtain ⟨v, rfl, dv⟩ := dqAll1 dx
      cases d <;> try (cases e; done)
      · cases e
        obtain ⟨a, xs, rfl, ha, dxs⟩ := dv.lst sub
        exact call_list_of pins s σ H _ us Q I rv ⟨a, xs, rfl, .inl (.inl ha), fun p hp => q.lst sub dxs hp⟩
      · cases e
        obtain ⟨a, xs, rfl, ha, dxs⟩ := dv.tup
        exact call_list_of pins s σ H _ us Q I rv ⟨a, xs, rfl, .inr (sqT_mono sub ha), fun p hp => q.lst sub dxs hp⟩
end

theorem srt_uniq : ∀ {a b : List Int}, a.Perm b → a.Pairwise (· ≤ ·) → b.Pairwise (· ≤ ·) → a = b
  | [], b, p, _, _ => (List.nil_perm.mp p).symm
  | x :: a, [], p, _, _ => (nomatch List.perm_nil.mp p)
  | x :: a, y :: b, p, h1, h2 => by
    obtain ⟨h3, h4⟩ := List.pairwise_cons.mp h1
    obtain ⟨h5, h6⟩ := List.pairwise_cons.mp h2
    have e : x = y := by
      rcases List.mem_cons.mp (p.mem_iff.mp List.mem_cons_self) with z | z
      · exact z
      · rcases List.mem_cons.mp (p.mem_iff.mpr (List.mem_cons_self (a := y) (l := b))) with w | w
        · exact w.symm
        · exact Int.le_antisymm (h3 _ w) (h5 _ z)
    subst e
    rw [srt_uniq ((List.perm_cons x).mp p) h4 h6]
theorem insI_perm (x : Int) : ∀ l : List Int, (insI x l).Perm (x :: l)
  | [] => .refl _
  | y :: r => by
    unfold insI
    by_cases h : x ≤ y
    · rw [if_pos h]
    · rw [if_neg h]; exact ((insI_perm x r).cons y).trans (.swap x y r)
theorem sortI_perm : ∀ l : List Int, (sortI l).Perm l
  | [] => .refl _
  | x :: r => (insI_perm x _).trans ((sortI_perm r).cons x)
theorem insI_srt (x : Int) : ∀ {l : List Int}, l.Pairwise (· ≤ ·) → (insI x l).Pairwise (· ≤ ·)
  | [], _ => List.pairwise_cons.mpr ⟨fun _ h => (nomatch h), .nil⟩
  | y :: r, h => by
    obtain ⟨h1, h2⟩ := List.pairwise_cons.mp h
    unfold insI
    by_cases hx : x ≤ y
    · rw [if_pos hx]
      exact List.pairwise_cons.mpr ⟨fun z hz => by
        rcases List.mem_cons.mp hz with e | e
        · subst e; exact hx
        · exact Int.le_trans hx (h1 z e), h⟩
    · rw [if_neg hx]
      refine List.pairwise_cons.mpr ⟨fun z hz => ?_, insI_srt x h2⟩
      rcases List.mem_cons.mp ((insI_perm x r).mem_iff.mp hz) with e | e
      · subst e; omega
      · exact h1 z e
theorem sortI_srt : ∀ l : List Int, (sortI l).Pairwise (· ≤ ·)
  | [] => .nil
  | x :: r => insI_srt x (sortI_srt r)
theorem dzAll_ints {K : PySem.W.Frag} {F : Hp} : ∀ ns : List Int, DzAll K F (ns.map V.int) (ns.map PyData.int)
  | [] => .nil
  | n :: r => .cons (.int n) (dzAll_ints r)
theorem min_uniq {ns : List Int} {k m : Int} (h : ns.min? = some k) (hm : m ∈ ns) (hl : ∀ y, y ∈ ns → m ≤ y) : m = k := by
  have h1 := List.min?_mem h
  have h2 := (List.le_min?_iff h (x := k)).mp (Int.le_refl _) m hm
  exact Int.le_antisymm (hl k h1) h2
theorem max_uniq {ns : List Int} {k m : Int} (h : ns.max? = some k) (hm : m ∈ ns) (hl : ∀ y, y ∈ ns → y ≤ m) : m = k := by
  have h1 := List.max?_mem h
  have h2 := (List.max?_le_iff h (x := k)).mp (Int.le_refl _) m hm
  exact Int.le_antisymm h2 (hl k h1)
section
variable {K : PySem.W.Frag}
theorem one_list {f : List Int → Option R} {o : Op} {vs : List V} {ds : List D} {F H : Hp} {res : R} (ho : ∀ xs, opD o [.list xs] = (intsD xs).bind f) (hn : ∀ ds, (∀ xs, ds ≠ [.list xs]) → opD o ds = none) (sub : Same F H) (dx : DqAll K F H vs ds) (e : opD o ds = some res) :
    ∃ a ns, vs = [V.ref a] ∧ Rd H a (.lst (ns.map V.int)) ∧ f ns = some res := by
  rcases Classical.em (∃ xs, ds = [.list xs]) with ⟨xs, rfl⟩ | no
  · obtain ⟨v, rfl, dv⟩ := dqAll1 dx
    rw [ho] at e
    cases z : intsD xs with
    | none => rw [z] at e; cases e
    | some ns =>
      rw [z] at e
      obtain ⟨a, ws, rfl, ha, dws⟩ := dv.lst sub
      rw [intsD_ok dws z] at ha
      exact ⟨a, ns, rfl, ha, e⟩
  · rw [hn ds fun xs q => no ⟨xs, q⟩] at e; cases e
theorem cl_minL (hc : X.calm = true) : CallR X (.builtin "min") (rOp X.K .minL) := by
  intro pins s σ H vs us Q I rv h
  obtain ⟨F, ds, res, sub, dx, e, q⟩ := h
  obtain ⟨a, ns, rfl, ha, e⟩ := one_list (o := .minL) (f := fun ns => ns.min?.map dint) (fun _ => rfl) (fun ds no => by
    rcases ds with _ | ⟨d, _ | ⟨_, _⟩⟩
    · rfl
    · cases d <;> first | rfl | exact absurd rfl (no _)
    · cases d <;> rfl) sub dx e
  cases z : ns.min? with
  | none => rw [z] at e; cases e
  | some k =>
    rw [z] at e; cases e
    refine cr_min hc pins s σ H _ us Q I rv ⟨a, ns, rfl, .inl ha, List.length_pos_of_mem (List.min?_mem z), fun m hm hl => ?_⟩
    rw [min_uniq z hm hl]; exact q.int sub
theorem cl_maxL (hc : X.calm = true) : CallR X (.builtin "max") (rOp X.K .maxL) := by
  intro pins s σ H vs us Q I rv h
  obtain ⟨F, ds, res, sub, dx, e, q⟩ := h
  obtain ⟨a, ns, rfl, ha, e⟩ := one_list (o := .maxL) (f := fun ns => ns.max?.map dint) (fun _ => rfl) (fun ds no => by
    rcases ds with _ | ⟨d, _ | ⟨_, _⟩⟩
    · rfl
    · cases d <;> first | rfl | exact absurd rfl (no _)
    · cases d <;> rfl) sub dx e
  cases z : ns.max? with
  | none => rw [z] at e; cases e
  | some k =>
    rw [z] at e; cases e
    refine cr_max hc pins s σ H _ us Q I rv ⟨a, ns, rfl, .inl ha, List.length_pos_of_mem (List.max?_mem z), fun m hm hl => ?_⟩
    rw [max_uniq z hm hl]; exact q.int sub
theorem cl_sorted : CallR X (.builtin "sorted") (rOp X.K .sorted) := by
  intro pins s σ H vs us Q I rv h
  obtain ⟨F, ds, res, sub, dx, e, q⟩ := h
  obtain ⟨a, ns, rfl, ha, e⟩ := one_list (o := .sorted) (f := fun ns => some (.nw (.list ((sortI ns).map .int)))) (fun xs => by
    show (intsD xs).map _ = _
    cases intsD xs <;> rfl) (fun ds no => by
    rcases ds with _ | ⟨d, _ | ⟨_, _⟩⟩
    · rfl
    · cases d <;> first | rfl | exact absurd rfl (no _)
    · cases d <;> rfl) sub dx e
  cases e
  refine cr_sortedI pins s σ H _ us Q I rv ⟨a, ns, rfl, .inl ha, fun ns' p h1 h2 h3 => ?_⟩
  rw [srt_uniq (h1.trans (sortI_perm ns).symm) h2 (sortI_srt ns)]
  exact q.lst sub (dzAll_ints _) h3
theorem cl_str1 : CallR X (.type "str") (rOp X.K .str1) := by
  intro pins s σ H vs us Q I rv h
  obtain ⟨F, ds, res, sub, dx, e, q⟩ := h
  rcases ds with _ | ⟨d, _ | ⟨_, _⟩⟩
  · cases e
  · obtain ⟨v, rfl, dv⟩ := dqAll1 dx
    cases d <;> try (cases e; done)
    rename_i i
    obtain ⟨h1, h2⟩ := ite_some (show (if smallI i then some (R.fr (.str (toString i))) else none) = some res from e)
    subst h2
    obtain ⟨h3, h4⟩ := of_decide_eq_true h1
    rw [dv.int] at rv
    refine call_str_int pins s σ H _ us Q I rv ⟨i, rfl, ?_, q.now sub (.str _)⟩
    by_cases z : i.natAbs = 0
    · rw [z]; decide
    · have : i.natAbs.log2 < 64 := (Nat.log2_lt z).mpr (by omega)
      omega
  · cases d <;> cases e
end
end
end Z

set_option Elab.async false
set_option linter.all false
set_option maxRecDepth 100000
set_option maxHeartbeats 4000000
namespace Z
open PySem PySem.Spec PyProof.Rows L2

/-! ## a tuple backwards -/
theorem fm_some {α β : Type} {f : α → Option β} {g : α → β} : ∀ {l : List α}, (∀ k, k ∈ l → f k = some (g k)) → l.filterMap f = l.map g
  | [], _ => rfl
  | x :: l, h => by
    rw [List.filterMap_cons, h x List.mem_cons_self, List.map_cons, fm_some fun k hk => h k (List.mem_cons_of_mem _ hk)]
theorem rev_pick (xs : List Value) : ((List.range xs.length).filterMap fun (k : Nat) => xs.toArray[((xs.length : Int) - 1 + (k : Int) * (-1)).toNat]?) = xs.reverse := by
  have h : ∀ k, k ∈ List.range xs.length → (xs.toArray[((xs.length : Int) - 1 + (k : Int) * (-1)).toNat]?) = some (xs.reverse.getD k .none) := by
    intro k hk
    have hk := List.mem_range.mp hk
    have e : ((xs.length : Int) - 1 + (k : Int) * (-1)).toNat = xs.length - 1 - k := by omega
    rw [e]
    have h2 : k < xs.reverse.length := by simpa using hk
    simp only [List.getElem?_toArray, List.getD_eq_getElem?_getD, List.getElem?_eq_getElem h2, List.getElem?_eq_getElem (show xs.length - 1 - k < xs.length by omega), Option.getD_some, List.getElem_reverse]
  rw [fm_some h]
  refine List.ext_getElem? fun i => ?_
  rw [List.getElem?_map]
  by_cases hi : i < xs.length
  · rw [List.getElem?_range hi]
    have h2 : i < xs.reverse.length := by simpa using hi
    simp [List.getElem?_eq_getElem h2, List.getD_eq_getElem?_getD]
  · rw [List.getElem?_eq_none (by simpa using hi), List.getElem?_eq_none (by simpa using hi)]
    rfl
section
variable {prog : Program} {w : World} {A : Around} {E : Value → Shared → Prop} {s : Shared}
theorem getItem_tuple_rev {t sl : Addr} {xs : List Value} {vs : Value} {Q : Value → Shared → Prop} (ht : IsTup s.heap t xs.toArray) (hs : s.heap.IsSliceOf sl .none .none vs) (ps : IsPart vs (some (-1)))
    (h : Q (.ref s.heap.objs.size) { s with heap := s.heap.push { cls := .type "tuple", data := .seq xs.reverse.toArray } }) (hz : xs.length ≤ sizeLine) : wpAny (model prog w) A (getItem (.ref t) (.ref sl)) Q E s := by
  obtain ⟨os, hos, hcs, hds⟩ := id hs
  have hTs : s.TypeIs (.ref sl) "slice" := ⟨os, hos, hcs⟩
  have fin : sizeOk (.seq xs.reverse.toArray) := by
    show xs.reverse.toArray.size ≤ sizeLine
    simpa using hz
  unfold getItem
  try with_reducible apply wpAny_holding
  first | refine wpAny_bind (wpAny_pure ?_) | skip
  apply wpAny_bind
  apply wpAny_sequenceKey ht.typeIs (by decide)
  apply wpAny_bind
  refine wpAny_callSpecial?_slot (name := Str.ofString "__getitem__") ht.typeIs PyProof.Rows.slot_tuple_getitem (wpAny_call_entry PyProof.Rows.slot_tuple_getitem ht.typeIs entry_tuple_getitem ?_ (args_tuple_getitem _ _))
  show wpAny _ _ (Builtin.Tuple.tupleItemsOf (.ref t) >>= _) _ _ s
  apply wpAny_bind
  apply tupleItemsOf_ ht
  apply wpAny_bind
  apply wpAny_typeOf hTs
  rw [if_pos (by decide)]
  apply wpAny_bind
  unfold Builtin.Slice.sliceApplied Builtin.Slice.sliceFields
  refine wpAny_bind (wpAny_bind (wpAny_field hos hds (x := .none) rfl (wpAny_bind (wpAny_field hos hds (x := .none) rfl (wpAny_bind (wpAny_field hos hds (x := vs) rfl (wpAny_pure ?_)))))))
  refine wpAny_bind (HT.slicePart_ ps ?_)
  show wpAny _ _ (if ((-1 : Int) == 0) = true then _ else _) _ _ s
  rw [if_neg (by decide)]
  refine wpAny_bind (HT.slicePart_ .none (wpAny_bind (HT.slicePart_ .none (wpAny_bind (wpAny_pure ?_)))))
  show wpAny _ _ (match Builtin.Slice.sliceAdjust none none (-1) (xs.toArray.size : Int) with | (lo, hi) => pure (lo, (-1 : Int), Builtin.Slice.slicePlaces lo hi (-1))) _ _ s
  have ea : Builtin.Slice.sliceAdjust none none (-1) (xs.toArray.size : Int) = ((xs.length : Int) - 1, -1) := by
    simp [Builtin.Slice.sliceAdjust]
  have ep : Builtin.Slice.slicePlaces ((xs.length : Int) - 1) (-1) (-1) = xs.length := by
    unfold Builtin.Slice.slicePlaces
    rw [if_neg (by decide)]
    by_cases h0 : xs.length = 0
    · rw [h0]; rfl
    · rw [if_pos (by omega)]
      have : ((xs.length : Int) - 1 - -1 - 1) / - -1 = (xs.length : Int) - 1 := by
        rw [show (- -1 : Int) = 1 by decide, Int.ediv_one]; omega
      rw [this]; omega
  rw [ea]
  show wpAny _ _ (pure ((xs.length : Int) - 1, (-1 : Int), Builtin.Slice.slicePlaces ((xs.length : Int) - 1) (-1) (-1))) _ _ s
  rw [ep]
  apply wpAny_pure
  have no : ¬ (((xs.length : Int) - 1 == 0 && (-1 : Int) == 1 && xs.length == xs.toArray.size) = true) := by
    rw [show ((-1 : Int) == 1) = false by decide]; simp
  show wpAny _ _ (if ((xs.length : Int) - 1 == 0 && (-1 : Int) == 1 && xs.length == xs.toArray.size) = true then _ else _) _ _ s
  rw [if_neg no, rev_pick xs]
  first
    | exact wpAny_bind (m := Builtin.Tuple.tupleExact _) (wpAny_newObj_type (wpAny_pure ⟨_, rfl, wpAny_pure h⟩) fin)
    | exact wpAny_bind (m := Builtin.Tuple.tupleExact _) (wpAny_newObj_type (wpAny_bind (wpAny_pure (wpAny_pure ⟨_, rfl, wpAny_pure h⟩))) fin)
    | exact wpAny_bind (wpAny_bind (m := Builtin.Tuple.tupleExact _) (wpAny_newObj_type (wpAny_pure (wpAny_pure ⟨_, rfl, wpAny_pure h⟩)) fin))
    | exact wpAny_bind (wpAny_bind (m := Builtin.Tuple.tupleExact _) (wpAny_newObj_type (wpAny_pure ⟨_, rfl, wpAny_pure h⟩) fin))
end
section
variable {X : Cx}
def rRev (K : PySem.W.Frag) : V → Hp → VK → Prop := fun v H Q => ∃ F x res, Same F H ∧ Dq K F H v x ∧ opD .rev [x] = some res ∧ Res K F H res Q
theorem pe_revZ {e : Expr} {te : TE} {k : Nat} {p1 p2 p3 pos : Pos} (he : PE X e te) : PE X (.Subscript e (.Slice none none (some (.UnaryOp .USub (.Constant (.int 1) k p1) p2)) p3) pos) (tUn (rRev X.K) te) := by
  constructor
  intro pins s σ H Q I h
  apply Subscript_
  refine thn (he.run pins s σ H _ I h) ?_
  rintro v s1 ⟨x, H1, I1, r1, F, d, res, sub, dx, e, q⟩
  have st : PO X (some (.UnaryOp .USub (.Constant (.int 1) k p1) p2)) (tPart (tUn (rU fun i => .int (-i)) (tC (.int 1)))) := po_some (pe_un un_neg pe_int)
  apply wpAny_Slice
  refine thn (po_none.run pins s1 σ H1 (fun o H2 => o = none ∧ H2 = H1) I1 ⟨rfl, rfl⟩) ?_
  rintro vl s2 ⟨l, H2, I2, pl, rfl, rfl⟩
  refine thn (po_none.run pins s2 σ H2 (fun o H3 => o = none ∧ H3 = H2) I2 ⟨rfl, rfl⟩) ?_
  rintro vu s3 ⟨u, H3, I3, pu, rfl, rfl⟩
  refine thn (st.run pins s3 σ H3 (fun o H4 => o = some (-1) ∧ H4 = H3) I3 ⟨1, rfl, -1, rfl, rfl, rfl⟩) ?_
  rintro vs s4 ⟨o, H4, I4, ps, rfl, rfl⟩
  have I5 : Inv X pins σ H4 { s4 with heap := s4.heap.push { cls := .type "slice", data := .fields #[vl, vu, vs] } } := I4.kept (t' := s4.toks) fun b ob q => Heap.get?_push_of_some _ q
  cases pl
  cases pu
  cases d <;> try (cases e; done)
  · rename_i ds
    cases e
    obtain ⟨a, xs, rfl, ha, dxs⟩ := dx.lst sub
    cases r1
    obtain ⟨hz, its, n, r, eo⟩ := ha.ok I5.hok
    obtain ⟨its', r', pl', hz'⟩ := I5.list (.inl ha : SqL X.K H4 a xs)
    have hlen := r'.length
    show wpAny (model X.prog X.w) X.A (subscriptTail _ (.Slice none none (some (.UnaryOp .USub (.Constant (.int 1) k p1) p2)) p3) (.ref a) (.ref s4.heap.objs.size)) (EP X pins σ Q) X.xe { s4 with heap := s4.heap.push { cls := .type "slice", data := .fields #[.none, .none, vs] } }
    refine tail_any (ops := [.ref a, .ref s4.heap.objs.size]) pl'.isList.typeIs (PySem.slot_list_getitem.lookup) ?_ (by with_unfolding_all rfl)
    refine wpAny_getItem_list_slice pl'.isList (Heap.IsSliceOf.new _ .none .none vs) .none .none ps (by decide) ?_ (by rw [List.size_toArray]; omega)
    rw [PySem.W.krv_pick]
    refine ⟨.ref _, _, I5.laid (t' := s4.toks) (o := .lst xs.reverse) (fun b ob q => Heap.get?_push_of_some _ q) (Nat.le_refl _) ?_, rfl, q.lst sub (dpAll_rev dxs) (I5.hok.fresh (Nat.le_refl _))⟩
    exact ⟨by rw [List.length_reverse]; exact hz', _, 0, r'.reverse, Heap.get?_push_size _ rfl⟩
  · rename_i ds
    cases e
    obtain ⟨a, xs, rfl, ha, dxs⟩ := dx.tup
    cases r1
    obtain ⟨its, r, ht, hz⟩ := I5.tuple (sqT_mono sub ha)
    have hlen := r.length
    show wpAny (model X.prog X.w) X.A (subscriptTail _ (.Slice none none (some (.UnaryOp .USub (.Constant (.int 1) k p1) p2)) p3) (.ref a) (.ref s4.heap.objs.size)) (EP X pins σ Q) X.xe { s4 with heap := s4.heap.push { cls := .type "slice", data := .fields #[.none, .none, vs] } }
    refine tail_any (ops := [.ref a, .ref s4.heap.objs.size]) ht.typeIs (PyProof.Rows.slot_tuple_getitem.lookup) ?_ (by with_unfolding_all rfl)
    refine getItem_tuple_rev ht (Heap.IsSliceOf.new _ .none .none vs) ps ?_ (by omega)
    refine ⟨.ref _, _, I5.laid (t' := s4.toks) (o := .tup xs.reverse) (fun b ob q => Heap.get?_push_of_some _ q) (Nat.le_refl _) ?_, rfl, q.tup sub (dpAll_rev dxs) (I5.hok.fresh (Nat.le_refl _))⟩
    exact ⟨by rw [List.length_reverse]; exact hz, _, r.reverse, IsTup.new _ _⟩

/-! ## items, slices -/
theorem atI_dz {K : PySem.W.Frag} {F : Hp} {vs : List V} {ds : List D} {i : Int} {d : D} (h : DzAll K F vs ds) (e : atI ds i = some d) : ∃ v, atI vs i = some v ∧ Dz K F v d := by
  unfold atI at e ⊢
  rw [dpAll_len h]
  cases q : ixN ds.length i with
  | none => rw [q] at e; cases e
  | some j => rw [q] at e; exact dpAll_get h e
def rIdx (K : PySem.W.Frag) : R2 := fun v w H Q => ∃ F x y res, Same F H ∧ Dq K F H v x ∧ Dq K F H w y ∧ opD .idx [x, y] = some res ∧ Res K F H res Q
theorem ix_Z : IxR X (rIdx X.K) := by
  intro value slice pins s σ H v w u1 u2 Q I rv rw' h hs
  obtain ⟨F, x, y, res, sub, dx, dy, e, q⟩ := h
  cases x <;> cases y <;> try (cases e; done)
  · rename_i ds i
    have e : (atI ds i).map R.fr = some res := e
    cases z : atI ds i with
    | none => rw [z] at e; cases e
    | some d =>
      rw [z] at e; cases e
      obtain ⟨a, xs, rfl, ha, dxs⟩ := dx.lst sub
      obtain ⟨v, ev, dv⟩ := atI_dz dxs z
      rw [dy.int] at rw'
      exact ix_list value slice pins s σ H _ _ u1 u2 Q I rv rw' ⟨a, xs, i, v, rfl, rfl, .inl ha, ev, q.now sub dv⟩ hs
  · rename_i ds i
    have e : (atI ds i).map R.fr = some res := e
    cases z : atI ds i with
    | none => rw [z] at e; cases e
    | some d =>
      rw [z] at e; cases e
      obtain ⟨a, xs, rfl, ha, dxs⟩ := dx.tup
      obtain ⟨v, ev, dv⟩ := atI_dz dxs z
      rw [dy.int] at rw'
      exact ix_tup value slice pins s σ H _ _ u1 u2 Q I rv rw' ⟨a, xs, i, v, rfl, rfl, sqT_mono sub ha, ev, q.now sub dv⟩ hs
theorem cut_dz {K : PySem.W.Frag} {F : Hp} {vs : List V} {ds : List D} (h : DzAll K F vs ds) (lo hi : Option Int) : DzAll K F (cutV vs lo hi) (cutD ds lo hi) := by
  unfold cutV cutD
  rw [dpAll_len h]
  exact dpAll_take (dpAll_drop h _) _
def rSlc (K : PySem.W.Frag) : V → Option Int → Option Int → Hp → VK → Prop := fun v lo hi H Q => ∃ F x res, Same F H ∧ Dq K F H v x ∧ slcD x lo hi = some res ∧ Res K F H res Q
theorem sl_Z : SlR X (rSlc X.K) := by
  intro pins s σ H x v vl vu lo hi sl Q I rx hs pl pu h
  obtain ⟨F, d, res, sub, dx, e, q⟩ := h
  cases d <;> try (cases e; done)
  · cases e
    obtain ⟨a, xs, rfl, ha, dxs⟩ := dx.lst sub
    exact sl_list pins s σ H _ v vl vu lo hi sl Q I rx hs pl pu ⟨a, xs, rfl, .inl ha, fun p hp => q.lst sub (cut_dz dxs lo hi) hp⟩
  · rename_i ds
    cases e
    obtain ⟨a, xs, rfl, ha, dxs⟩ := dx.tup
    refine sl_tupA pins s σ H _ v vl vu lo hi sl Q I rx hs pl pu ⟨a, xs, rfl, sqT_mono sub ha, fun z => ?_, fun _ p hp => q.tup sub (cut_dz dxs lo hi) hp⟩
    refine q.now sub ?_
    have e2 : cutD ds lo hi = ds := by
      unfold cutD
      rw [dpAll_len dxs] at z
      rw [z.1, z.2]
      simp
    rw [e2]
    exact .tup ha dxs

/-! ## kinds -/
def Ty.nm : Ty → String
  | .int => "int"
  | .bool => "bool"
  | .tuple => "tuple"
  | .list => "list"
  | .str => "str"
  | .none => "NoneType"
  | .dict => "dict"
def tyN : D → String
  | .none => "NoneType"
  | .bool _ => "bool"
  | .int _ => "int"
  | .str _ => "str"
  | .list _ => "list"
  | .tuple _ => "tuple"
  | .dict _ => "dict"
theorem dq_ty {K : PySem.W.Frag} {F H : Hp} {v : V} {d : D} (sub : Same F H) (h : Dq K F H v d) : TyX K H v (.type (tyN d)) := by
  rcases h with h | ⟨a, rfl, _, ds, xs, rfl, h1, _⟩
  · cases h with
    | non => exact .base .non
    | bl b => exact .base (.bl b)
    | int b => exact .base (.int b)
    | str b => exact .base (.str b)
    | lst a b =>
      rcases rd_mono sub a with z | ⟨o, z⟩
      · exact .base (.lst z)
      · exact .base (.frz z)
    | tup a b =>
      rcases sqT_mono sub a with (z | ⟨o, z⟩) | ⟨o, its, n, z, c, _⟩
      · exact .base (.tup z)
      · exact .fTuple z
      · exact .kTuple z c
  · exact .base (.lst h1)
theorem kit_D (t : Ty) (ht : t ≠ .none) (d : D) (hd : ∀ kvs, d ≠ .dict kvs) : kitB (tyN d) t.nm = some (isTy t d) := by
  cases t <;> cases d <;> first | exact absurd rfl ht | exact absurd rfl (hd _) | (simp only [tyN, Ty.nm, isTy]; decide +kernel)
theorem cl_isi (t : Ty) (ht : t ≠ .none) : CallR X (.builtin "isinstance") fun xs H Q => ∃ v, xs = [v, .ty t.nm] ∧ rOp X.K (.isi t) [v] H Q := by
  intro pins s σ H vs us Q I rv h
  obtain ⟨v, rfl, F, ds, res, sub, dx, e, q⟩ := h
  cases dx with
  | cons dv b =>
    cases b
    cases e
    rename_i d
    refine call_isi pins s σ H _ us Q I rv ⟨v, .ty t.nm, .type (tyN d), .type t.nm, isTy t d, rfl, .ty _, dq_ty sub dv, kit_ty (kit_D t ht d ?_), q.bl sub⟩
    rintro kvs rfl
    rcases dv with z | ⟨_, _, _, _, _, z, _⟩
    · cases z
    · cases z

/-! ## repr -/
mutual
theorem nodict {K : PySem.W.Frag} {F : Hp} : ∀ {d : D} {v : V}, Dz K F v d → d.hasDict = false
  | .none, _, _ => rfl
  | .bool _, _, _ => rfl
  | .int _, _, _ => rfl
  | .str _, _, _ => rfl
  | .list ds, _, h => by cases h with | lst a b => exact nodictAll b
  | .tuple ds, _, h => by cases h with | tup a b => exact nodictAll b
  | .dict _, _, h => by cases h
theorem nodictAll {K : PySem.W.Frag} {F : Hp} : ∀ {ds : List D} {vs : List V}, DzAll K F vs ds → PyData.hasDictAll ds = false
  | [], _, _ => rfl
  | d :: ds, _, h => by
    cases h with
    | cons a b =>
      show (d.hasDict || PyData.hasDictAll ds) = false
      rw [nodict a, nodictAll b]; rfl
end
theorem cl_repr (hg : X.A.guards = some []) (hu : X.A.units + 66 < cLine) : CallR X (.builtin "repr") (rOp X.K .repr) := by
  intro pins s σ H vs us Q I rv h
  obtain ⟨F, ds, res, sub, dx, e, q⟩ := h
  cases ds with
  | nil => cases e
  | cons d r =>
    cases r with
    | cons _ _ => cases d <;> cases e
    | nil =>
      obtain ⟨v, rfl, dv⟩ := dqAll1 dx
      have e : (if SeqAt.shaped d && (PyData.showable d && fitL d.shown.length) then some (R.fr (.str d.shown)) else none) = some res := by rw [← e] <;> cases d <;> rfl
      obtain ⟨h1, h2⟩ := ite_some e
      subst h2
      obtain ⟨h3, h4⟩ := Bool.and_eq_true_iff.mp h1
      obtain ⟨h5, h6⟩ := Bool.and_eq_true_iff.mp h4
      have h7 := fitL_ok h6
      have q' : Q (.str d.shown) H := q.now sub (.str _)
      have hd := SeqAt.depth_of_shaped h3
      have dz := dv.dp sub
      have big : ∀ a, v = .ref a → wpAny (model X.prog X.w) X.A (call (.builtin "repr") us) (EP X pins σ Q) X.xe s := by
        intro a ea
        subst ea
        obtain ⟨u, rfl, ru⟩ := vals1 rv
        cases ru
        obtain ⟨as, rd⟩ := Dp.reads I d (.ref a) (.ref a) dz.toDp rfl
        refine repr_of_reads' rd h5 (fun z => ?_) hg (by omega) (fun b o z => z) (fun h' u tk k => ?_) h7
        · rw [nodict dz] at z; cases z
        · exact ⟨.str d.shown, H, I.kept (t' := tk) k, ⟨u, rfl⟩, q'⟩
      cases d with
      | list xs => obtain ⟨a, xs, ea, _⟩ := dv.lst sub; exact big a ea
      | tuple xs => obtain ⟨a, xs, ea, _⟩ := dv.tup; exact big a ea
      | dict kvs => cases dz
      | none =>
        rw [dv.none] at rv
        obtain ⟨u, rfl, ru⟩ := vals1 rv
        cases ru
        exact PySem.P.repr_of_none ⟨.str PyData.none.shown, H, I.tok _, ⟨_, rfl⟩, q'⟩
      | bool b =>
        rw [dv.bool] at rv
        obtain ⟨u, rfl, ru⟩ := vals1 rv
        cases ru
        exact PySem.P.repr_of_bool ⟨.str (PyData.bool b).shown, H, I.tok _, ⟨_, rfl⟩, q'⟩
      | int i =>
        rw [dv.int] at rv
        obtain ⟨u, rfl, t, rfl⟩ := vals1 rv
        exact PySem.P.repr_of_int (of_decide_eq_true h5) ⟨.str (PyData.int i).shown, H, I.tok _, ⟨_, rfl⟩, q'⟩
      | str x =>
        rw [dv.str] at rv
        obtain ⟨u, rfl, t, rfl⟩ := vals1 rv
        exact PySem.P.repr_of_str ⟨.str (PyData.str x).shown, H, I.tok _, ⟨_, rfl⟩, q'⟩ h7
end
end Z

set_option Elab.async false
set_option linter.all false
set_option maxRecDepth 100000
set_option maxHeartbeats 4000000
namespace Z
open PySem PySem.Spec PyProof.Rows L2

/-! ## what is walked -/
section
variable {X : Cx} {tg : Expr}
/-- a list or a tuple -/
theorem pi_seqZ {l : Expr} {tl : TE} (hl : PE X l tl) : PI X tg l fun σ H R => tl σ H fun x H1 => ∃ a, x = .ref a ∧ (((∃ xs, SqL X.K H1 a xs) ∧ R (Itl X.K a) H1) ∨ ((∃ xs, SqT X.K H1 a xs) ∧ R (Itt X.K a) H1)) := by
  constructor
  intro pins s σ H R I h
  refine thn (hl.run pins s σ H _ I h) ?_
  rintro v s1 ⟨x, H1, I1, r1, a, rfl, q⟩
  cases r1
  have lift : ∀ {o : Obj}, Inv X pins σ H1 { s1 with heap := s1.heap.push o } := fun {o} => I1.kept (t' := s1.toks) fun b u e => Heap.get?_push_of_some _ e
  have fp : ∀ b ∈ [s1.heap.objs.size], FpOk X pins H1 b := fun b hb => by
    rw [List.mem_singleton.mp hb]
    exact I1.fpOk (Nat.le_refl _) (I1.hok.fresh (Nat.le_refl _))
  rcases q with ⟨⟨xs, hq⟩, q⟩ | ⟨⟨xs, hq⟩, q⟩
  · obtain ⟨its, rv, p, _⟩ := I1.list hq
    exact wpAny_pyIter_list p.isList ⟨s1.heap.objs.size, [s1.heap.objs.size], _, _, H1, rfl, lift, turn_list a _, ⟨_, Heap.get?_push_size _ rfl, rfl, rfl⟩, fp, q⟩
  · obtain ⟨its, rv, p, _⟩ := I1.tuple hq
    exact wpAny_pyIter_tuple (show s1.heap.IsTuple a its.toArray from p) ⟨s1.heap.objs.size, [s1.heap.objs.size], _, _, H1, rfl, lift, turn_tuple a _, ⟨_, Heap.get?_push_size _ rfl, rfl, rfl⟩, fp, q⟩
end
section
variable {K : PySem.W.Frag} {F : Hp} {a : Addr} {xs : List V} {ds : List D}
theorem walk_it {J : It} {G : Hp → Prop} (hl : xs.length = ds.length) (w : Walk J xs.length G (YAt xs)) (hG : ∀ H F', Same F F' → Same F' H → G H) (hd : DzAll K F xs ds) : ItOk K F J ds where
  go := fun i H F' s1 s2 hi => w.goes i H (by omega) (hG H F' s1 s2)
  stop := fun H F' s1 s2 => by rw [← hl]; exact w.stops H (hG H F' s1 s2)
  yld := fun i H F' x H' s1 s2 hi y => by
    obtain ⟨rfl, e⟩ := w.yields i H x H' (by omega) (hG H F' s1 s2) y
    have e2 : ds[i]? = some ds[i] := by simp [hi]
    obtain ⟨v, e3, dv⟩ := dpAll_get hd e2
    rw [e] at e3; cases e3
    exact ⟨F', ds[i], Ext.refl s2, e2, dp_mono s1 dv⟩
theorem it_list (h : Rd F a (.lst xs)) (hd : DzAll K F xs ds) : ItOk K F (Itl K a) ds :=
  walk_it (dpAll_len hd) walk_list (fun H F' s1 s2 => .inl (rd_mono s2 (rd_mono s1 h))) hd
theorem it_tup (h : SqT K F a xs) (hd : DzAll K F xs ds) : ItOk K F (Itt K a) ds :=
  walk_it (dpAll_len hd) walk_tup (fun H F' s1 s2 => sqT_mono s2 (sqT_mono s1 h)) hd
theorem it_range {lo : Int} {n : Nat} : ItOk K F (Itr lo n) ((List.range n).map fun (i : Nat) => .int (lo + (i : Int))) where
  go := fun i H F' _ _ hi => walk_range.goes i H (by simpa using hi) trivial
  stop := fun H F' _ _ => by
    rw [List.length_map, List.length_range]
    exact walk_range.stops H trivial
  yld := fun i H F' x H' s1 s2 hi y => by
    obtain ⟨rfl, rfl⟩ := walk_range.yields i H x H' (by simpa using hi) trivial y
    have hi' : i < n := by simpa using hi
    exact ⟨F', .int (lo + i), Ext.refl s2, by simp [hi'], .int _⟩
end

/-! ## rows of arguments -/
section
variable {K : PySem.W.Frag} {F H F' H' : Hp} {σ : L2.St} {n n' : En}
theorem psOk_len {vs : List V} {ps : List P} (h : PsOk K F σ vs ps) : vs.length = ps.length := by
  induction h with
  | nil => rfl
  | cons _ _ ih => simp [ih]
theorem psOk_get {vs : List V} {ps : List P} (h : PsOk K F σ vs ps) : ∀ {i : Nat} {p : P}, ps[i]? = some p → ∃ v, vs[i]? = some v ∧ pv1 K F σ v p := by
  induction h with
  | nil => intro i p e; simp at e
  | cons a _ ih =>
    intro i p e
    cases i with
    | zero => simp at e; subst e; exact ⟨_, by simp, a⟩
    | succ i => simp at e; obtain ⟨v, h1, h2⟩ := ih e; exact ⟨v, by simpa using h1, h2⟩
theorem argsS_len : ∀ {ps : List P} {ss : List Sl}, argsS n ps = some ss → ss.length = ps.length
  | [], _, e => by cases e; rfl
  | p :: r, ss, e => by
    have e : ((argS n p).bind fun s => (argsS n r).map (s :: ·)) = some ss := e
    cases q : argS n p with
    | none => rw [q] at e; cases e
    | some s =>
      rw [q] at e
      cases q2 : argsS n r with
      | none => rw [q2] at e; cases e
      | some t => rw [q2] at e; cases e; simp [argsS_len q2]
theorem argsS_get : ∀ {ps : List P} {ss : List Sl}, argsS n ps = some ss → ∀ {i : Nat} {s : Sl}, ss[i]? = some s → ∃ p, ps[i]? = some p ∧ argS n p = some s
  | [], _, e, i, s, h => by cases e; simp at h
  | p :: r, ss, e, i, s, h => by
    have e : ((argS n p).bind fun s => (argsS n r).map (s :: ·)) = some ss := e
    cases q : argS n p with
    | none => rw [q] at e; cases e
    | some s1 =>
      rw [q] at e
      cases q2 : argsS n r with
      | none => rw [q2] at e; cases e
      | some t =>
        rw [q2] at e; cases e
        cases i with
        | zero => simp at h; subst h; exact ⟨p, by simp, q⟩
        | succ i => simp at h; obtain ⟨p', h1, h2⟩ := argsS_get q2 h; exact ⟨p', by simpa using h1, h2⟩
theorem argS_pn {p : P} {d : D} (h : argS n p = some (.pn d)) : ∃ i, p = .io i ∧ (n[i]? = some (.ow d) ∨ n[i]? = some (.pn d)) := by
  cases p with
  | dd x => cases h
  | sl i => cases h
  | io i =>
    have h : (match n[i]? with
      | some (.ow d) => some (Sl.pn d)
      | some (.pn d) => some (.pn d)
      | _ => none) = some (.pn d) := h
    refine ⟨i, rfl, ?_⟩
    split at h
    · cases h; left; assumption
    · cases h; right; assumption
    · cases h
theorem argS_ok {p : P} {s : Sl} (h : argS n p = some s) : (∃ d, p = .dd d ∧ s = .fz d) ∨ ∃ d, s = .pn d := by
  cases p with
  | dd x => cases h; exact .inl ⟨x, rfl, rfl⟩
  | sl i => cases h
  | io i =>
    have h : (match n[i]? with
      | some (.ow d) => some (Sl.pn d)
      | some (.pn d) => some (.pn d)
      | _ => none) = some s := h
    split at h
    · cases h; exact .inr ⟨_, rfl⟩
    · cases h; exact .inr ⟨_, rfl⟩
    · cases h
theorem mem_ioIx : ∀ {ps : List P} {q j : Nat}, ps[q]? = some (.io j) → j ∈ ioIx ps
  | [], q, j, h => by simp at h
  | p :: r, 0, j, h => by simp at h; subst h; exact List.mem_cons_self
  | p :: r, q + 1, j, h => by
    have := mem_ioIx (ps := r) (q := q) (j := j) (by simpa using h)
    cases p with
    | dd x => exact this
    | sl i => exact this
    | io i => exact List.mem_cons_of_mem _ this
theorem ioIx_mem : ∀ {ps : List P} {j : Nat}, j ∈ ioIx ps → ∃ q : Nat, ps[q]? = some (P.io j)
  | [], _, h => by cases h
  | .dd x :: r, j, h => by obtain ⟨q, e⟩ := ioIx_mem (ps := r) h; exact ⟨q + 1, by simpa using e⟩
  | .sl x :: r, j, h => by obtain ⟨q, e⟩ := ioIx_mem (ps := r) h; exact ⟨q + 1, by simpa using e⟩
  | .io x :: r, j, h => by
    rcases List.mem_cons.mp h with rfl | h
    · exact ⟨0, by simp⟩
    · obtain ⟨q, e⟩ := ioIx_mem (ps := r) h; exact ⟨q + 1, by simpa using e⟩
theorem io_inj : ∀ {ps : List P}, (ioIx ps).Nodup → ∀ {q r j : Nat}, ps[q]? = some (.io j) → ps[r]? = some (.io j) → q = r
  | [], _, q, r, j, h, _ => by simp at h
  | p :: t, nd, q, r, j, h1, h2 => by
    have tl : (ioIx t).Nodup := by
      cases p with
      | dd x => exact nd
      | sl i => exact nd
      | io i => exact (List.nodup_cons.mp nd).2
    cases q with
    | zero =>
      simp at h1; subst h1
      cases r with
      | zero => rfl
      | succ r => exact absurd (mem_ioIx (show t[r]? = some (.io j) by simpa using h2)) (List.nodup_cons.mp nd).1
    | succ q =>
      cases r with
      | zero => simp at h2; subst h2; exact absurd (mem_ioIx (show t[q]? = some (.io j) by simpa using h1)) (List.nodup_cons.mp nd).1
      | succ r => rw [io_inj tl (show t[q]? = some (.io j) by simpa using h1) (show t[r]? = some (.io j) by simpa using h2)]
/-- what putBack makes -/
theorem putBack_spec : ∀ {ps : List P} {ds : List D} {n n' : En}, putBack n ps ds = some n' → (ioIx ps).Nodup → n'.length = n.length ∧ (∀ j : Nat, j ∉ ioIx ps → n'[j]? = n[j]?) ∧
    ∀ q j : Nat, ps[q]? = some (.io j) → ∃ d, ds[q]? = some d ∧ ((∃ e, n[j]? = some (.ow e) ∧ n'[j]? = some (.ow d)) ∨ (∃ e, n[j]? = some (.pn e) ∧ n'[j]? = some (.pn d)))
  | [], ds, n, n', e, _ => by cases e; exact ⟨rfl, fun _ _ => rfl, fun q j h => by simp at h⟩
  | p :: r, ds, n, n', e, nd => by
    have skip : ∀ {ds' : List D}, putBack n r ds' = some n' → (ioIx r).Nodup → (∀ i, p ≠ .io i) → (∀ q : Nat, ds[q + 1]? = ds'[q]?) → ioIx (p :: r) = ioIx r → n'.length = n.length ∧ (∀ j : Nat, j ∉ ioIx (p :: r) → n'[j]? = n[j]?) ∧
        ∀ q j : Nat, (p :: r)[q]? = some (.io j) → ∃ d, ds[q]? = some d ∧ ((∃ e, n[j]? = some (.ow e) ∧ n'[j]? = some (.ow d)) ∨ (∃ e, n[j]? = some (.pn e) ∧ n'[j]? = some (.pn d))) := by
      intro ds' e nd np hq hx
      obtain ⟨a, b, c⟩ := putBack_spec e nd
      refine ⟨a, by rw [hx]; exact b, fun q j h => ?_⟩
      cases q with
      | zero => simp at h; exact absurd h (np j)
      | succ q => rw [hq]; exact c q j (by simpa using h)
    cases p with
    | dd x =>
      cases ds with
      | nil => exact skip (ds' := []) e nd (fun i z => by cases z) (fun q => rfl) rfl
      | cons d ds => exact skip (ds' := ds) e nd (fun i z => by cases z) (fun q => by simp) rfl
    | sl x =>
      cases ds with
      | nil => exact skip (ds' := []) e nd (fun i z => by cases z) (fun q => rfl) rfl
      | cons d ds => exact skip (ds' := ds) e nd (fun i z => by cases z) (fun q => by simp) rfl
    | io i =>
      cases ds with
      | nil => cases e
      | cons d ds =>
        have e : (match n[i]? with
          | some (.ow _) => putBack (n.set i (.ow d)) r ds
          | some (.pn _) => putBack (n.set i (.pn d)) r ds
          | _ => none) = some n' := e
        obtain ⟨ni, nr⟩ := List.nodup_cons.mp (show (i :: ioIx r).Nodup from nd)
        have main : ∀ s s0 : Sl, n[i]? = some s0 → putBack (n.set i s) r ds = some n' → (∃ e, s0 = .ow e ∧ s = .ow d) ∨ (∃ e, s0 = .pn e ∧ s = .pn d) → n'.length = n.length ∧ (∀ j : Nat, j ∉ ioIx (.io i :: r) → n'[j]? = n[j]?) ∧
            ∀ q j : Nat, (P.io i :: r)[q]? = some (.io j) → ∃ d', (d :: ds)[q]? = some d' ∧ ((∃ e, n[j]? = some (.ow e) ∧ n'[j]? = some (.ow d')) ∨ (∃ e, n[j]? = some (.pn e) ∧ n'[j]? = some (.pn d'))) := by
          intro s s0 h0 e hs
          obtain ⟨a, b, c⟩ := putBack_spec e nr
          have li : i < n.length := (List.getElem?_eq_some_iff.mp h0).1
          refine ⟨by rw [a, List.length_set], fun j hj => ?_, fun q j h => ?_⟩
          · have hj' : j ≠ i ∧ j ∉ ioIx r := by
              have : j ∉ i :: ioIx r := hj
              simpa using this
            rw [b j hj'.2, List.getElem?_set_ne (Ne.symm hj'.1)]
          · cases q with
            | zero =>
              simp at h; subst h
              refine ⟨d, by simp, ?_⟩
              rw [b _ ni, List.getElem?_set_self li]
              rcases hs with ⟨x, rfl, rfl⟩ | ⟨x, rfl, rfl⟩
              · exact .inl ⟨x, h0, rfl⟩
              · exact .inr ⟨x, h0, rfl⟩
            | succ q =>
              have h : r[q]? = some (.io j) := by simpa using h
              have ji : i ≠ j := fun z => ni (z ▸ mem_ioIx h)
              obtain ⟨d', h1, h2⟩ := c q j h
              refine ⟨d', by simpa using h1, ?_⟩
              rw [List.getElem?_set_ne ji] at h2
              exact h2
        cases q : n[i]? with
        | none => rw [q] at e; cases e
        | some t =>
          rw [q] at e
          cases t with
          | ow x => exact main (.ow d) (.ow x) q e (Or.inl ⟨x, rfl, rfl⟩)
          | pn x => exact main (.pn d) (.pn x) q e (Or.inr ⟨x, rfl, rfl⟩)
          | un => cases e
          | fz x => cases e
          | er c x => cases e

/-! ## a call by values -/
/-- what stands behind a call -/
structure After (K : PySem.W.Frag) (F H : Hp) (vs : List V) (ss : List Sl) (F' H' : Hp) (ds : List D) : Prop where
  sub : Same F' H'
  f : Same F F'
  h : ∀ a o, H a = some o → (∀ (i : Nat) (d : D), ss[i]? = some (.pn d) → vs[i]? ≠ some (.ref a)) → H' a = some o
  nf : ∀ a o, F' a = some o → F a = some o ∨ H a = none
  dom : ∀ a, H' a = none → H a = none
  ds : ∀ (i : Nat) (d : D), ss[i]? = some (.pn d) → ∃ a d', vs[i]? = some (.ref a) ∧ ds[i]? = some d' ∧ Mo K F' H' a d'
def argOk : Sl → Prop
  | .fz _ => True
  | .pn _ => True
  | _ => False
def spOf (K : PySem.W.Frag) (X9 : Nat → Addr × Str) (m : Nat) (fm : Fm) : Sp := fun vs H Q E => vs.length = m ∧ ∃ F ss, SO K F H (vs.map some) ss ∧ (∀ s ∈ ss, argOk s) ∧ match fm ss with
  | .ret r ds => ∀ v F' H', After K F H vs ss F' H' ds → rvOk K H F' H' v r → Q v H'
  | .ex c d ds => ∀ cls dd F' H', After K F H vs ss F' H' ds → ExOk K X9 F' H' c d cls dd → E cls dd H'
  | .st => False
theorem args_so {vs : List V} {ps : List P} {ss : List Sl} (s : SO K F H σ n) (r : PsOk K F σ vs ps) (e : argsS n ps = some ss) (nd : (ioIx ps).Nodup) : SO K F H (vs.map some) ss ∧ ∀ t ∈ ss, argOk t := by
  have hl : ss.length = vs.length := by rw [argsS_len e, psOk_len r]
  have io : ∀ {i : Nat} {d : D}, ss[i]? = some (.pn d) → ∃ j a, ps[i]? = some (.io j) ∧ vs[i]? = some (.ref a) ∧ σ[j]? = some (some (.ref a)) ∧ Mo K F H a d ∧ ∃ t, n[j]? = some t ∧ isOwn t := by
    intro i d hi
    obtain ⟨p, hp, ha⟩ := argsS_get e hi
    obtain ⟨j, rfl, hj⟩ := argS_pn ha
    obtain ⟨v, hv, pv⟩ := psOk_get r hp
    have pv : σ[j]? = some (some v) := pv
    rcases hj with hj | hj
    · obtain ⟨a, ea, m⟩ := s.sl j _ hj
      rw [pv] at ea; cases ea
      exact ⟨j, a, hp, hv, pv, m, _, hj, trivial⟩
    · obtain ⟨a, ea, m⟩ := s.sl j _ hj
      rw [pv] at ea; cases ea
      exact ⟨j, a, hp, hv, pv, m, _, hj, trivial⟩
  refine ⟨⟨s.sub, by rw [hl, List.length_map], fun i t hi => ?_, fun i j t u hij hi hj ht hu => ?_⟩, fun t ht => ?_⟩
  · obtain ⟨p, hp, ha⟩ := argsS_get e hi
    obtain ⟨v, hv, pv⟩ := psOk_get r hp
    rcases argS_ok ha with ⟨d, rfl, rfl⟩ | ⟨d, rfl⟩
    · exact ⟨v, by simp [hv], pv⟩
    · obtain ⟨j, a, _, hva, _, m, _⟩ := io hi
      exact ⟨a, by simp [hva], m⟩
  · obtain ⟨p, hp, ha⟩ := argsS_get e hi
    obtain ⟨p', hp', ha'⟩ := argsS_get e hj
    rcases argS_ok ha with ⟨d, rfl, rfl⟩ | ⟨d, rfl⟩
    · exact ht.elim
    · rcases argS_ok ha' with ⟨d', rfl, rfl⟩ | ⟨d', rfl⟩
      · exact hu.elim
      · obtain ⟨x, a, hx, hva, hsa, _, w, hw, ow⟩ := io hi
        obtain ⟨y, b, hy, hvb, hsb, _, w', hw', ow'⟩ := io hj
        intro z
        simp [hva, hvb] at z
        subst z
        by_cases q : x = y
        · subst q; exact hij (io_inj nd hx hy)
        · exact s.ap x y w w' q hw hw' ow ow' (hsa.trans hsb.symm)
  · obtain ⟨i, hi⟩ := List.mem_iff_getElem?.mp ht
    obtain ⟨p, hp, ha⟩ := argsS_get e hi
    rcases argS_ok ha with ⟨d, rfl, rfl⟩ | ⟨d, rfl⟩
    · trivial
    · trivial
theorem io_pn {ps : List P} {ss : List Sl} (e : argsS n ps = some ss) {i j : Nat} (hi : ps[i]? = some (.io j)) : ∃ d, ss[i]? = some (.pn d) := by
  have li : i < ss.length := by rw [argsS_len e]; exact (List.getElem?_eq_some_iff.mp hi).1
  obtain ⟨p, hp, ha⟩ := argsS_get e (List.getElem?_eq_getElem li)
  rw [hi] at hp; cases hp
  rcases argS_ok ha with ⟨d, z, _⟩ | ⟨d, z⟩
  · cases z
  · exact ⟨d, by rw [List.getElem?_eq_getElem li, z]⟩
theorem after_so {vs : List V} {ps : List P} {ss : List Sl} {ds : List D} (s : SO K F H σ n) (r : PsOk K F σ vs ps) (e : argsS n ps = some ss) (nd : (ioIx ps).Nodup) (A : After K F H vs ss F' H' ds) (pb : putBack n ps ds = some n') :
    SO K F' H' σ n' ∧ Step σ F H n F' H' n' := by
  obtain ⟨p1, p2, p3⟩ := putBack_spec pb nd
  -- an owned address of ours that was not handed on
  have keepM : ∀ {j : Nat} {t : Sl} {a : Addr} {d : D}, j ∉ ioIx ps → n[j]? = some t → isOwn t → σ[j]? = some (some (.ref a)) → Mo K F H a d → Mo K F' H' a d := by
    rintro j t a d hj ht ow hσ ⟨m0, es, xs, rfl, m1, m2⟩
    refine ⟨?_, es, xs, rfl, A.h a _ m1 fun i d' hi hv => ?_, dpAll_mono A.f m2⟩
    · cases q : F' a with
      | none => rfl
      | some o =>
        rcases A.nf a o q with z | z
        · rw [m0] at z; cases z
        · rw [m1] at z; cases z
    · obtain ⟨p, hp, ha⟩ := argsS_get e hi
      obtain ⟨x, rfl, hx⟩ := argS_pn ha
      obtain ⟨v, hv', pv⟩ := psOk_get r hp
      rw [hv] at hv'; cases hv'
      have pv : σ[x]? = some (some (.ref a)) := pv
      have xj : j ≠ x := fun z => hj (z ▸ mem_ioIx hp)
      rcases hx with hx | hx
      · exact s.ap j x t _ xj ht hx ow trivial (hσ.trans pv.symm)
      · exact s.ap j x t _ xj ht hx ow trivial (hσ.trans pv.symm)
  -- a slot behind the call: as it was, or one that was handed on
  have cases' : ∀ {j : Nat} {t : Sl}, n'[j]? = some t → (j ∉ ioIx ps ∧ n[j]? = some t) ∨ ∃ (q : Nat) (d : D) (a : Addr), ps[q]? = some (P.io j) ∧ σ[j]? = some (some (V.ref a)) ∧ Mo K F' H' a d ∧ ((∃ e, n[j]? = some (Sl.ow e) ∧ t = .ow d) ∨ (∃ e, n[j]? = some (Sl.pn e) ∧ t = .pn d)) := by
    intro j t ht
    by_cases hj : j ∈ ioIx ps
    · obtain ⟨q, hq⟩ := ioIx_mem hj
      obtain ⟨d, hd, alt⟩ := p3 q j hq
      obtain ⟨d0, hpn⟩ := io_pn e hq
      obtain ⟨a, d', hva, hd', m⟩ := A.ds q d0 hpn
      rw [hd] at hd'; cases hd'
      obtain ⟨v, hv', pv⟩ := psOk_get r hq
      rw [hva] at hv'; cases hv'
      refine .inr ⟨q, d, a, hq, pv, m, ?_⟩
      rcases alt with ⟨e1, h1, h2⟩ | ⟨e1, h1, h2⟩
      · rw [ht] at h2; cases h2; exact .inl ⟨e1, h1, rfl⟩
      · rw [ht] at h2; cases h2; exact .inr ⟨e1, h1, rfl⟩
    · exact .inl ⟨hj, by rw [← p2 j hj]; exact ht⟩
  have ownIn : ∀ {j : Nat} {t : Sl}, n'[j]? = some t → isOwn t → ∃ u, n[j]? = some u ∧ isOwn u := by
    intro j t ht ow
    rcases cases' ht with ⟨_, h⟩ | ⟨q, d, a, _, _, _, ⟨e1, h, _⟩ | ⟨e1, h, _⟩⟩
    · exact ⟨t, h, ow⟩
    · exact ⟨_, h, trivial⟩
    · exact ⟨_, h, trivial⟩
  refine ⟨⟨A.sub, by rw [p1, s.len], fun j t ht => ?_, fun i j t u hij hi hj ht hu => ?_⟩, ⟨A.f, fun a o ho no => ?_, fun a o ho => ?_, ?_, A.dom⟩⟩
  · rcases cases' ht with ⟨hj, h⟩ | ⟨q, d, a, _, hs, m, ⟨e1, h, rfl⟩ | ⟨e1, h, rfl⟩⟩
    · have y := s.sl j t h
      cases t with
      | un => trivial
      | fz d => obtain ⟨v, e1, e2⟩ := y; exact ⟨v, e1, dp_mono A.f e2⟩
      | ow d => obtain ⟨a, e1, e2⟩ := y; exact ⟨a, e1, keepM hj h trivial e1 e2⟩
      | pn d => obtain ⟨a, e1, e2⟩ := y; exact ⟨a, e1, keepM hj h trivial e1 e2⟩
      | er c d => exact y
    · exact ⟨a, hs, m⟩
    · exact ⟨a, hs, m⟩
  · obtain ⟨u1, h1, o1⟩ := ownIn hi ht
    obtain ⟨u2, h2, o2⟩ := ownIn hj hu
    exact s.ap i j u1 u2 hij h1 h2 o1 o2
  · refine A.h a o ho fun i d hi hv => ?_
    obtain ⟨p, hp, ha⟩ := argsS_get e hi
    obtain ⟨x, rfl, hx⟩ := argS_pn ha
    obtain ⟨v, hv', pv⟩ := psOk_get r hp
    rw [hv] at hv'; cases hv'
    rcases hx with hx | hx
    · exact no ⟨x, _, hx, trivial, pv⟩
    · exact no ⟨x, _, hx, trivial, pv⟩
  · rcases A.nf a o ho with z | z
    · exact .inl z
    · exact .inr (.inl z)
  · rintro a ⟨i, t, hi, ot, ev⟩
    obtain ⟨u, h1, o1⟩ := ownIn hi ot
    exact ⟨i, u, h1, o1, ev⟩
/-- the promise of the callee, from what is wanted behind the call -/
theorem call_po {k : Ck} {vs : List V} {ps : List P} {fm : Fm} {ss : List Sl} {Q : V → Hp → Prop} (hm : vs.length = m) (s : SO k.K F H σ n) (r : PsOk k.K F σ vs ps) (e : argsS n ps = some ss) (nd : (ioIx ps).Nodup)
    (h : Po (rV k.K) k (afterCall n ps (fm ss)) σ F H n Q) : spOf k.K k.X9 m fm vs H Q fun c d H' => k.W c d σ H' := by
  obtain ⟨s1, s2⟩ := args_so s r e nd
  refine ⟨hm, F, ss, s1, s2, ?_⟩
  cases q : fm ss with
  | st => rw [q] at h; exact h
  | ret rr ds =>
    rw [q] at h
    intro v F' H' A x
    have h : Po (rV k.K) k (match putBack n ps ds with
      | some n' => .ok rr n'
      | none => .st) σ F H n Q := h
    cases pb : putBack n ps ds with
    | none => rw [pb] at h; exact h.elim
    | some n' =>
      rw [pb] at h
      obtain ⟨a, b⟩ := after_so s r e nd A pb
      exact h v F' H' a b x
  | ex c d ds =>
    rw [q] at h
    intro cls dd F' H' A x
    have h : Po (rV k.K) k (match putBack n ps ds with
      | some n' => .ex c d n'
      | none => .st) σ F H n Q := h
    cases pb : putBack n ps ds with
    | none => rw [pb] at h; exact h.elim
    | some n' =>
      rw [pb] at h
      obtain ⟨a, b⟩ := after_so s r e nd A pb
      exact h cls dd F' H' a b x
end
end Z

set_option Elab.async false
set_option linter.all false
set_option maxRecDepth 100000
set_option maxHeartbeats 4000000
namespace Z
open PySem PySem.Spec PyProof.Rows L2

/-! ## slots set and forgotten -/
theorem wipeN_len (n : En) : ∀ vs : List Nat, (wipeN n vs).length = n.length
  | [] => rfl
  | v :: vs => by unfold wipeN; rw [List.length_set, wipeN_len n vs]
theorem wipeN_out {n : En} {j : Nat} : ∀ {vs : List Nat}, j ∉ vs → (wipeN n vs)[j]? = n[j]?
  | [], _ => rfl
  | v :: vs, h => by
    have h : j ≠ v ∧ j ∉ vs := by simpa using h
    unfold wipeN
    rw [List.getElem?_set_ne (Ne.symm h.1), wipeN_out h.2]
theorem wipeN_in {n : En} {j : Nat} {s : Sl} : ∀ {vs : List Nat}, j ∈ vs → (wipeN n vs)[j]? = some s → s = .un
  | [], h, _ => by cases h
  | v :: vs, h, e => by
    unfold wipeN at e
    by_cases hv : v = j
    · subst hv
      by_cases l : v < (wipeN n vs).length
      · rw [List.getElem?_set_self l] at e; exact (Option.some.inj e).symm
      · rw [List.getElem?_eq_none (by simpa using l)] at e; cases e
    · rw [List.getElem?_set_ne hv] at e
      rcases List.mem_cons.mp h with z | z
      · exact absurd z.symm hv
      · exact wipeN_in z e
theorem wipe_in {σ : L2.St} {j : Nat} : ∀ {vs : List Nat}, j ∈ vs → j < σ.length → (wipe σ vs)[j]? = some none
  | [], h, _ => by cases h
  | v :: vs, h, l => by
    unfold wipe
    by_cases hv : v = j
    · subst hv; rw [List.getElem?_set_self (by rw [wipe_length]; exact l)]
    · rw [List.getElem?_set_ne hv]
      rcases List.mem_cons.mp h with z | z
      · exact absurd z.symm hv
      · exact wipe_in z l
theorem wipe_out' {σ : L2.St} {j : Nat} : ∀ {vs : List Nat}, j ∉ vs → (wipe σ vs)[j]? = σ[j]?
  | [], _ => rfl
  | v :: vs, h => by
    have h : j ≠ v ∧ j ∉ vs := by simpa using h
    unfold wipe
    rw [List.getElem?_set_ne (Ne.symm h.1), wipe_out' h.2]
theorem wipe_eq {σ τ : L2.St} {vs : List Nat} (hl : σ.length = τ.length) (h : ∀ j : Nat, j ∉ vs → σ[j]? = τ[j]?) : wipe σ vs = wipe τ vs := by
  apply List.ext_getElem?
  intro j
  by_cases hj : j ∈ vs
  · by_cases l : j < σ.length
    · rw [wipe_in hj l, wipe_in hj (hl ▸ l)]
    · rw [List.getElem?_eq_none (by rw [wipe_length]; omega), List.getElem?_eq_none (by rw [wipe_length]; omega)]
  · rw [wipe_out' hj, wipe_out' hj, h j hj]
section
variable {K : PySem.W.Frag} {F H F' H' : Hp} {σ τ : L2.St} {n m : En} {vs : List Nat}
/-- fewer owned slots, the others alike -/
theorem so_of (s : SO K F H σ n) (hl : m.length = n.length) (hs : τ.length = σ.length) (h : ∀ (j : Nat) (t : Sl), m[j]? = some t → t = .un ∨ (n[j]? = some t ∧ τ[j]? = σ[j]?)) : SO K F H τ m := by
  refine ⟨s.sub, by rw [hl, hs, s.len], fun j t e => ?_, fun i j t u hij hi hj ot ou => ?_⟩
  · rcases h j t e with rfl | ⟨q, r⟩
    · trivial
    · rw [r]; exact s.sl j t q
  · rcases h i t hi with rfl | ⟨q, r⟩
    · exact ot.elim
    · rcases h j u hj with rfl | ⟨q', r'⟩
      · exact ou.elim
      · rw [r, r']; exact s.ap i j t u hij q q' ot ou
theorem own_of (h : ∀ (j : Nat) (t : Sl), m[j]? = some t → t = .un ∨ (n[j]? = some t ∧ τ[j]? = σ[j]?)) {a : Addr} (o : own τ m a) : own σ n a := by
  obtain ⟨i, t, e, ot, ev⟩ := o
  rcases h i t e with rfl | ⟨q, r⟩
  · exact ot.elim
  · exact ⟨i, t, q, ot, by rw [← r]; exact ev⟩
theorem wipe_alike (σ : L2.St) (n : En) (vs : List Nat) (j : Nat) (t : Sl) (e : (wipeN n vs)[j]? = some t) : t = .un ∨ (n[j]? = some t ∧ (wipe σ vs)[j]? = σ[j]?) := by
  by_cases hj : j ∈ vs
  · exact .inl (wipeN_in hj e)
  · exact .inr ⟨by rw [← wipeN_out hj]; exact e, wipe_out' hj⟩
theorem wipe_alike2 (σ : L2.St) (n : En) (vs : List Nat) (j : Nat) (t : Sl) (e : (wipeN n vs)[j]? = some t) : t = .un ∨ ((wipeN n vs)[j]? = some t ∧ σ[j]? = (wipe σ vs)[j]?) := by
  by_cases hj : j ∈ vs
  · exact .inl (wipeN_in hj e)
  · exact .inr ⟨e, (wipe_out' hj).symm⟩
theorem wipe_alike3 (σ : L2.St) (n : En) (vs : List Nat) (j : Nat) (t : Sl) (e : (wipeN n vs)[j]? = some t) : t = .un ∨ (n[j]? = some t ∧ σ[j]? = σ[j]?) := by
  by_cases hj : j ∈ vs
  · exact .inl (wipeN_in hj e)
  · exact .inr ⟨by rw [← wipeN_out hj]; exact e, rfl⟩
theorem Step.change (s : Step σ F H n F' H' m) {σ' : L2.St} {n' m' : En} (h1 : ∀ a, own σ n a → own σ' n' a) (h2 : ∀ a, own σ' m' a → own σ' n' a) : Step σ' F H n' F' H' m' :=
  ⟨s.f, fun a o h no => s.h a o h fun w => no (h1 a w), fun a o h => (s.nf a o h).imp_right fun z => z.imp_right (h1 a), h2, s.dom⟩
/-- one slot set -/
theorem so_set {i : Nat} {v : V} {d : D} (s : SO K F H σ n) (hi : i < n.length) (x : Dz K F v d) : SO K F H (σ.set i (some v)) (n.set i (.fz d)) ∧ ∀ a, own (σ.set i (some v)) (n.set i (.fz d)) a → own σ n a := by
  have hs : i < σ.length := by rw [← s.len]; exact hi
  have key : ∀ (j : Nat) (t : Sl), (n.set i (.fz d))[j]? = some t → (j = i ∧ t = .fz d) ∨ (j ≠ i ∧ n[j]? = some t ∧ (σ.set i (some v))[j]? = σ[j]?) := fun j t e => by
    by_cases q : j = i
    · subst q; rw [List.getElem?_set_self hi] at e; exact .inl ⟨rfl, (Option.some.inj e).symm⟩
    · rw [List.getElem?_set_ne (Ne.symm q)] at e
      exact .inr ⟨q, e, List.getElem?_set_ne (Ne.symm q)⟩
  refine ⟨⟨s.sub, by simp [s.len], fun j t e => ?_, fun j l t u hjl hj hl' ot ou => ?_⟩, ?_⟩
  · rcases key j t e with ⟨rfl, rfl⟩ | ⟨_, q, r⟩
    · exact ⟨v, List.getElem?_set_self hs, x⟩
    · rw [r]; exact s.sl j t q
  · rcases key j t hj with ⟨rfl, rfl⟩ | ⟨_, q, r⟩
    · exact ot.elim
    · rcases key l u hl' with ⟨rfl, rfl⟩ | ⟨_, q', r'⟩
      · exact ou.elim
      · rw [r, r']; exact s.ap j l t u hjl q q' ot ou
  · rintro a ⟨j, t, e, ot, ev⟩
    rcases key j t e with ⟨rfl, rfl⟩ | ⟨_, q, r⟩
    · exact ot.elim
    · exact ⟨j, t, q, ot, by rw [← r]; exact ev⟩
end

/-! ## targets -/
def gsOf : List Nat → TGs
  | [] => gNil
  | i :: is => gCons (gName i) (gsOf is)
def gTg (K : PySem.W.Frag) : Tg → TG
  | .nm i => gName i
  | .tp is => gTup K is.length (gsOf is)
def Tg.slots : Tg → List Nat
  | .nm i => [i]
  | .tp is => is
section
variable {K : PySem.W.Frag} {F H : Hp}
theorem gs_ok : ∀ {is : List Nat} {ds : List D} {vs : List V} {σ : L2.St} {n n' : En} {Q : L2.St → Hp → Prop}, SO K F H σ n → setAll n is ds = some n' → DzAll K F vs ds →
    (∀ σ', SO K F H σ' n' → (∀ a, own σ' n' a → own σ n a) → σ'.length = σ.length → (∀ j : Nat, j ∉ is → σ'[j]? = σ[j]? ∧ n'[j]? = n[j]?) → (∀ j : Nat, j ∈ is → ∃ d, n'[j]? = some (.fz d)) → Q σ' H) → gsOf is vs σ H Q
  | [], [], vs, σ, n, n', Q, s, e, hd, h => by
    cases hd; cases e
    exact ⟨rfl, h σ s (fun _ o => o) rfl (fun _ _ => ⟨rfl, rfl⟩) (fun j hj => by cases hj)⟩
  | [], d :: ds, vs, σ, n, n', Q, s, e, hd, h => by cases e
  | i :: is, [], vs, σ, n, n', Q, s, e, hd, h => by cases e
  | i :: is, d :: ds, vs, σ, n, n', Q, s, e, hd, h => by
    cases hd with
    | cons a b =>
      have go : ∀ t, n[i]? = some t → setAll (n.set i (.fz d)) is ds = some n' → gsOf (i :: is) (_ :: _) σ H Q := fun t ht e => by
        obtain ⟨s1, o1⟩ := so_set s (List.getElem?_eq_some_iff.mp ht).1 a
        refine ⟨_, _, rfl, gs_ok s1 e b fun σ' s2 o2 l2 k2 f2 => h σ' s2 (fun x z => o1 x (o2 x z)) (by rw [l2, List.length_set]) (fun j hj => ?_) (fun j hj => ?_)⟩
        · have hj : j ≠ i ∧ j ∉ is := by simpa using hj
          obtain ⟨k3, k4⟩ := k2 j hj.2
          rw [List.getElem?_set_ne (Ne.symm hj.1)] at k3 k4
          exact ⟨k3, k4⟩
        · by_cases q : j ∈ is
          · exact f2 j q
          · rcases List.mem_cons.mp hj with z | z
            · subst z
              refine ⟨d, ?_⟩
              rw [(k2 j q).2, List.getElem?_set_self (List.getElem?_eq_some_iff.mp ht).1]
            · exact absurd z q
      have e : (match n[i]? with
        | some (.pn _) => none
        | some _ => setAll (n.set i (.fz d)) is ds
        | none => none) = some n' := e
      cases q : n[i]? with
      | none => rw [q] at e; cases e
      | some t =>
        rw [q] at e
        cases t with
        | pn x => cases e
        | un => exact go _ q e
        | fz x => exact go _ q e
        | ow x => exact go _ q e
        | er c x => exact go _ q e
theorem setAll_nopn : ∀ {is : List Nat} {ds : List D} {n n' : En}, setAll n is ds = some n' → ∀ j : Nat, j ∈ is → ∀ d, n[j]? ≠ some (.pn d)
  | [], _, _, _, _, j, h, _ => by cases h
  | i :: is, [], n, n', e, j, h, d => by cases e
  | i :: is, x :: ds, n, n', e, j, h, d => by
    have e : (match n[i]? with
      | some (.pn _) => none
      | some _ => setAll (n.set i (.fz x)) is ds
      | none => none) = some n' := e
    have go : ∀ t, n[i]? = some t → (∀ y, t ≠ .pn y) → setAll (n.set i (.fz x)) is ds = some n' → n[j]? ≠ some (.pn d) := fun t ht np e => by
      by_cases q : j = i
      · subst q; rw [ht]; intro z; cases z; exact np _ rfl
      · rcases List.mem_cons.mp h with z | z
        · exact absurd z q
        · have := setAll_nopn e j z d
          rw [List.getElem?_set_ne (Ne.symm q)] at this
          exact this
    cases q : n[i]? with
    | none => rw [q] at e; cases e
    | some t =>
      rw [q] at e
      cases t with
      | pn y => cases e
      | un => exact go _ q (fun y z => by cases z) e
      | fz y => exact go _ q (fun y z => by cases z) e
      | ow y => exact go _ q (fun y z => by cases z) e
      | er c y => exact go _ q (fun y z => by cases z) e
theorem tg_ok {t : Tg} {d : D} {v : V} {σ : L2.St} {n n' : En} {Q : L2.St → Hp → Prop} (s : SO K F H σ n) (e : t.put d n = some n') (hd : Dz K F v d)
    (h : ∀ σ', SO K F H σ' n' → (∀ a, own σ' n' a → own σ n a) → σ'.length = σ.length → (∀ j : Nat, j ∉ t.slots → σ'[j]? = σ[j]? ∧ n'[j]? = n[j]?) → (∀ j : Nat, j ∈ t.slots → ∃ d, n'[j]? = some (.fz d)) → Q σ' H) : gTg K t v σ H Q := by
  cases t with
  | nm i =>
    have g := gs_ok (is := [i]) (Q := Q) s e (.cons hd .nil) h
    obtain ⟨x, r, ev, g2⟩ := g
    cases ev
    exact g2.2
  | tp is =>
    cases d with
    | tuple ds =>
      cases hd with
      | tup a b =>
        have hl : ∀ {is : List Nat} {ds : List D} {n n' : En}, setAll n is ds = some n' → ds.length = is.length := by
          intro is
          induction is with
          | nil => intro ds n n' e; cases ds with
            | nil => rfl
            | cons _ _ => cases e
          | cons i is ih =>
            intro ds n n' e
            cases ds with
            | nil => cases e
            | cons d ds =>
              have e : (match n[i]? with
                | some (.pn _) => none
                | some _ => setAll (n.set i (.fz d)) is ds
                | none => none) = some n' := e
              split at e
              · cases e
              · simp [ih e]
              · cases e
        refine ⟨_, _, rfl, sqT_mono s.sub a, ?_, gs_ok s e b h⟩
        rw [dpAll_len b]; exact hl e
    | none => cases e
    | bool _ => cases e
    | int _ => cases e
    | str _ => cases e
    | list _ => cases e
    | dict _ => cases e
end

/-! ## a comprehension -/
section
variable {K : PySem.W.Frag} {X9 : Nat → Addr × Str} {W : WX}
theorem bd_ok {α β : Type} {m : Ou α} {f : α → En → Ou β} {b : β} {n : En} (h : m.bd f = .ok b n) : ∃ a n1, m = .ok a n1 ∧ f a n1 = .ok b n := by
  cases m with
  | ok a n1 => exact ⟨a, n1, rfl, h⟩
  | ex c d n1 => cases h
  | st => cases h
theorem lc_tz {tg : Tg} {vs : List Nat} {fi : En → Ou (List D)} {fc : En → Ou Bool} {fe : En → Ou R} (hsub : ∀ i ∈ tg.slots, i ∈ vs) {σ : L2.St} {H : Hp} {Q : V → Hp → Prop}
    (h : tz (rV K) ⟨K, X9, W⟩ (zLc tg vs fi fc fe) σ H Q) : tLc (tz (rI K) ⟨K, X9, W⟩ fi) (gTg K tg) (tz rB ⟨K, X9, fun _ _ _ _ => False⟩ fc) (tz (rV K) ⟨K, X9, fun _ _ _ _ => False⟩ fe) vs σ H Q := by
  obtain ⟨F, n, s, h⟩ := h
  refine ⟨F, n, s, Po.mono (Po.bd h) ?_⟩
  rintro J H1 ⟨F1, n1, ds, s1, t1, it, h⟩ D hD
  have h : Po (rV K) ⟨K, X9, W⟩ (if noPn n1 vs then match lcGo tg vs fc fe ds [] (wipeN n1 vs) with
    | .ok ds n2 => .ok (.nw (.list ds)) (wipeN n2 vs)
    | _ => .st else .st) σ F1 H1 n1 Q := h
  have hp : noPn n1 vs = true := Classical.byContradiction fun q => by rw [if_neg q] at h; exact h
  rw [if_pos hp] at h
  cases hgo : lcGo tg vs fc fe ds [] (wipeN n1 vs) with
  | st => rw [hgo] at h; exact h.elim
  | ex c d n' => rw [hgo] at h; exact h.elim
  | ok res n2 =>
  rw [hgo] at h
  have FD : F1 D = none := s1.sub.free hD
  have s1w : SO K F1 H1 (wipe σ vs) (wipeN n1 vs) := so_of s1 (wipeN_len _ _) (wipe_length _ _) (wipe_alike σ n1 vs)
  -- the words between the turns
  let Pv : Nat → Hp → Prop := fun i Hc => ∃ (Fc : Hp) (nc : En) (acc : List PyData) (av : List V), lcGo tg vs fc fe (ds.drop i) acc nc = .ok res n2 ∧ SO K Fc Hc (wipe σ vs) (wipeN nc vs) ∧
    Step (wipe σ vs) F1 H1 (wipeN n1 vs) Fc Hc (wipeN nc vs) ∧ Hc D = some (.lst av) ∧ Fc D = none ∧ DzAll K Fc av acc
  refine ⟨fun i m Hc => m = ds.length - i ∧ i ≤ ds.length ∧ Pv i Hc, ⟨ds.length, rfl, Nat.zero_le _, F1, wipeN n1 vs, [], [], hgo, ?_, ?_, upd_same, FD, .nil⟩, ?_⟩
  · have e : wipeN (wipeN n1 vs) vs = wipeN n1 vs := by
      apply List.ext_getElem?
      intro j
      by_cases hj : j ∈ vs
      · by_cases l : j < n1.length
        · have l1 : j < (wipeN n1 vs).length := by rw [wipeN_len]; exact l
          have l2 : j < (wipeN (wipeN n1 vs) vs).length := by rw [wipeN_len]; exact l1
          rw [List.getElem?_eq_getElem l1, List.getElem?_eq_getElem l2, wipeN_in hj (List.getElem?_eq_getElem l1), wipeN_in hj (List.getElem?_eq_getElem l2)]
        · rw [List.getElem?_eq_none (by rw [wipeN_len, wipeN_len]; omega), List.getElem?_eq_none (by rw [wipeN_len]; omega)]
      · rw [wipeN_out hj]
    rw [e]
    exact s1w.ext ⟨.refl _, same_upd hD, fun _ _ q => .inl q, s1w.sub.trans (same_upd hD)⟩
  · have e : ∀ a, own (wipe σ vs) (wipeN (wipeN n1 vs) vs) a → own (wipe σ vs) (wipeN n1 vs) a := fun a o => own_of (wipe_alike3 (wipe σ vs) (wipeN n1 vs) vs) o
    exact ⟨.refl _, fun a o q _ => same_upd hD a o q, fun a o q => .inl q, e, fun a q => by
      cases z : H1 a with
      | none => rfl
      | some o => rw [same_upd hD a o z] at q; cases q⟩
  rintro i m Hc ⟨rfl, hi, Fc, nc, acc, av, e, sc, tc, eD, eF, da⟩
  have nD : ∀ {m : En} {τ : L2.St}, (∀ a, own τ m a → own (wipe σ vs) (wipeN n1 vs) a) → ¬ own τ m D := fun k o => by
    obtain ⟨_, xs, q⟩ := own_lst s1w (k D o)
    rw [hD] at q; cases q
  rcases (Nat.lt_or_ge i ds.length).symm with hge | hlt
  · -- the end
    have ei : i = ds.length := by omega
    subst ei
    rw [List.drop_length] at e
    cases e
    refine .inl ⟨it.stop Hc Fc tc.f sc.sub, ?_⟩
    have sb : SO K Fc Hc σ (wipeN n2 vs) := so_of sc rfl (by rw [wipe_length]) (wipe_alike2 σ n2 vs)
    have tb : Step σ F1 H1 n1 Fc Hc (wipeN n2 vs) := by
      have oo : ∀ a, own σ (wipeN n2 vs) a → own σ n1 a := fun a o => own_of (wipe_alike σ n1 vs) (tc.ow a (own_of (wipe_alike2 σ n2 vs) o))
      exact ⟨tc.f, fun a o q no => tc.h a o q fun w => no (own_of (wipe_alike σ n1 vs) w), fun a o q => (tc.nf a o q).imp_right fun z => z.imp_right fun w => own_of (wipe_alike σ n1 vs) w, oo, tc.dom⟩
    exact h _ Fc Hc sb tb ⟨D, rfl, ⟨eF, res, av, rfl, eD, da⟩, hD⟩
  · -- a turn
    refine .inr ⟨it.go i Hc Fc tc.f sc.sub hlt, Pv (i + 1), fun H' p' => ⟨ds.length - (i + 1), by omega, rfl, hlt, p'⟩, fun x H' y => ?_⟩
    obtain ⟨F2, d, ex, ed, dx⟩ := it.yld i Hc Fc x H' tc.f sc.sub hlt y
    have e0 : ds.drop i = d :: ds.drop (i + 1) := by
      rw [List.drop_eq_getElem_cons hlt]
      rw [List.getElem?_eq_getElem hlt] at ed
      rw [Option.some.inj ed]
    rw [e0] at e
    have e : (match tg.put d (wipeN nc vs) with
      | none => Ou.st
      | some n1 => (fc n1).bd fun b n2 => if b then (fe n2).bd fun r n3 => if decide (acc.length < sizeLine) then lcGo tg vs fc fe (ds.drop (i + 1)) (acc ++ [r.d]) n3 else .st
        else lcGo tg vs fc fe (ds.drop (i + 1)) acc n2) = Ou.ok res n2 := e
    have s2 : SO K F2 H' (wipe σ vs) (wipeN nc vs) := sc.ext ex
    have tx : Step (wipe σ vs) Fc Hc (wipeN nc vs) F2 H' (wipeN nc vs) := Step.ext ex
    cases hput : tg.put d (wipeN nc vs) with
    | none => rw [hput] at e; cases e
    | some np =>
    rw [hput] at e
    obtain ⟨b, n3, ec, e⟩ := bd_ok e
    refine tg_ok s2 hput dx fun σ' s3 o3 l3 k3 _ => ?_
    have wp : wipe σ' vs = wipe σ vs := by
      have q : wipe σ' vs = wipe (wipe σ vs) vs := wipe_eq l3 fun j hj => (k3 j fun z => hj (hsub j z)).1
      rw [q]
      exact wipe_eq (wipe_length _ _) fun j hj => wipe_out' hj
    refine ⟨by rw [wp], F2, np, s3, ?_⟩
    rw [ec]
    rintro b' F3 H3 s4 t4 rfl
    have back : ∀ {m : En} {a : Addr}, own (wipe σ vs) (wipeN m vs) a → own σ' m a := fun {m a} o => own_of (n := m) (σ := σ') (τ := wipe σ vs) (fun j t q => by
      by_cases hj : j ∈ vs
      · exact .inl (wipeN_in hj q)
      · exact .inr ⟨by rw [← wipeN_out hj]; exact q, by rw [← wp, wipe_out' hj]⟩) o
    have soBack : ∀ {F H : Hp} {m : En}, SO K F H σ' m → SO K F H (wipe σ vs) (wipeN m vs) := fun {F H m} s => by
      rw [← wp]
      exact so_of s (wipeN_len _ _) (wipe_length _ _) (wipe_alike σ' m vs)
    have stepBack : ∀ {F' H' : Hp} {m : En}, Step σ' F2 H3 np F' H' m → True := fun _ => trivial
    have T3 : Step (wipe σ vs) F1 H1 (wipeN n1 vs) F3 H3 (wipeN n3 vs) := by
      refine (tc.trans tx).trans ?_
      exact t4.change o3 fun a o => o3 a (t4.ow a (back o))
    have keepD : H3 D = some (.lst av) := by
      refine t4.h D _ (ex.h _ _ eD) fun o => nD (fun a o => tc.ow a (o3 a o)) o
    have keepF : F3 D = none := by
      cases q : F3 D with
      | none => rfl
      | some o =>
        rcases T3.nf D o q with z | z | z
        · rw [FD] at z; cases z
        · exfalso
          rcases t4.nf D o q with z' | z' | z'
          · rcases ex.nf D o z' with z'' | z''
            · rw [eF] at z''; cases z''
            · rw [eD] at z''; cases z''
          · rw [ex.h _ _ eD] at z'; cases z'
          · exact nD (fun a o => tc.ow a (o3 a o)) z'
        · exact absurd z (nD fun a o => o)
    cases b' with
    | false =>
      rw [if_neg Bool.false_ne_true]
      rw [if_neg Bool.false_ne_true] at e
      exact ⟨F3, n3, acc, av, e, soBack s4, T3, keepD, keepF, dpAll_mono (ex.f.trans t4.f) da⟩
    | true =>
      rw [if_pos rfl]
      rw [if_pos rfl] at e
      obtain ⟨r, n4, er, e⟩ := bd_ok e
      have hz : acc.length < sizeLine := Classical.byContradiction fun q => by rw [if_neg (by simpa using q)] at e; cases e
      rw [if_pos (by simpa using hz)] at e
      refine ⟨F3, n3, s4, Po.frz s4 ?_⟩
      rw [er]
      intro v F4 H4 s5 t5 dv
      have own5 : ∀ a, own σ' n3 a → own (wipe σ vs) (wipeN n1 vs) a := fun a o => tc.ow a (o3 a (t4.ow a o))
      have keepD4 : H4 D = some (.lst av) := t5.h D _ keepD (nD own5)
      have keepF4 : F4 D = none := by
        cases q : F4 D with
        | none => rfl
        | some o =>
          rcases t5.nf D o q with z | z | z
          · rw [keepF] at z; cases z
          · rw [keepD] at z; cases z
          · exact absurd z (nD own5)
      have dz : DzAll K F4 av acc := dpAll_mono ((ex.f.trans t4.f).trans t5.f) da
      refine ⟨av, keepD4, by rw [dpAll_len da]; exact hz, F4, n4, acc ++ [r.d], av ++ [v], e, ?_, ?_, upd_same, keepF4, dpAll_app dz (.cons dv .nil)⟩
      · have s6 := soBack s5
        have nd6 : ¬ own (wipe σ vs) (wipeN n4 vs) D := nD fun a o => own5 a (t5.ow a (back o))
        have mo : ∀ {j : Nat} {t : Sl} {a : Addr} {d : PyData}, (wipeN n4 vs)[j]? = some t → isOwn t → (wipe σ vs)[j]? = some (some (V.ref a)) → Mo K F4 H4 a d → Mo K F4 (upd H4 D (.lst (av ++ [v]))) a d := by
          rintro j t a d ht ot ha ⟨m0, es, xs, rfl, m1, m2⟩
          refine ⟨m0, es, xs, rfl, ?_, m2⟩
          rw [upd_ne (show a ≠ D from fun z => nd6 ⟨j, t, ht, ot, by rw [ha, z]⟩)]
          exact m1
        refine ⟨fun a o q => ?_, s6.len, fun j t q => ?_, s6.ap⟩
        · rw [upd_ne (show a ≠ D from fun z => by rw [z, keepF4] at q; cases q)]
          exact s6.sub a o q
        · have y := s6.sl j t q
          cases t with
          | un => trivial
          | fz d => exact y
          | ow d => obtain ⟨a, e1, e2⟩ := y; exact ⟨a, e1, mo q trivial e1 e2⟩
          | pn d => obtain ⟨a, e1, e2⟩ := y; exact ⟨a, e1, mo q trivial e1 e2⟩
          | er c d => exact y
      · have T5 : Step (wipe σ vs) F1 H1 (wipeN n1 vs) F4 H4 (wipeN n4 vs) :=
          (tc.trans tx).trans ((t4.trans t5).change o3 fun a o => o3 a ((t4.trans t5).ow a (back o)))
        refine ⟨T5.f, fun a o q no => ?_, T5.nf, T5.ow, fun a q => ?_⟩
        · rw [upd_ne (show a ≠ D from fun z => by rw [z, hD] at q; cases q)]
          exact T5.h a o q no
        · by_cases z : a = D
          · subst z; rw [upd_same] at q; cases q
          · rw [upd_ne z] at q; exact T5.dom a q
end
end Z

set_option Elab.async false
set_option linter.all false
set_option maxRecDepth 100000
set_option maxHeartbeats 4000000
namespace Z
open PySem PySem.Spec PyProof.Rows L2

/-! ## the code against the text -/
structure Nx where
  N : List Str
  fn : List Str
  gc : List Str
  xc : Nat → Option Str
structure Cks where
  e : PySem.Expr → Bool
  t : PySem.Expr → Bool
  l : List PySem.Expr → Bool
  i : PySem.Expr → Bool
  o : PySem.Expr → Bool
def Cks.no : Cks := ⟨fun _ => false, fun _ => false, fun _ => false, fun _ => false, fun _ => false⟩
def notStar : PySem.Expr → Bool
  | .Starred _ _ => false
  | _ => true
def plainT : PySem.Expr → Bool
  | .UnaryOp .Not _ _ => false
  | .BoolOp _ _ _ => false
  | .IfExp _ _ _ _ => false
  | .Compare _ _ _ _ => false
  | _ => true
def noSet : PySem.Expr → Bool
  | .Set _ _ _ => false
  | _ => true
def plainIx : PySem.Expr → Bool
  | .Slice _ _ _ _ => false
  | _ => true
def kB (sc : Scope) (x : Str) (k : NameKind) : Bool := decide (sc.names.lookup x = some k)
def visB (sc : Scope) (x : Str) : Bool := (kB sc x .local || (kB sc x .cell || kB sc x .free)) && (!(x == ("__debug__" : Str)) && !(x == ("__classdict__" : Str)))
def glB (sc : Scope) (x : Str) : Bool := kB sc x .globalImplicit && !(x == ("__debug__" : Str))
def nameB (nx : Nx) (sc : Scope) (i : Nat) : PySem.Expr → Bool
  | .Name x _ => decide (nx.N[i]? = some x) && visB sc x
  | _ => false
def constB : D → PySem.Expr → Bool
  | .none, .Constant .none _ _ => true
  | .bool b, .Constant (.bool c) _ _ => b == c
  | .int i, .Constant (.int j) _ _ => decide (i = j)
  | .str x, .Constant (.str y) _ _ => decide (x = y)
  | _, _ => false
/-- built-in functions and classes that are called -/
def bfN : Op → Option Str
  | .len => some "len"
  | .all => some "all"
  | .any => some "any"
  | .tupOf => some "tuple"
  | .lstOf => some "list"
  | .abs => some "abs"
  | .int1 => some "int"
  | .min2 => some "min"
  | .max2 => some "max"
  | .sum => some "sum"
  | .repr => some "repr"
  | .minL => some "min"
  | .maxL => some "max"
  | .sorted => some "sorted"
  | .str1 => some "str"
  | _ => none
def slcB (l : List PySem.Expr → Bool) (x : PySem.Expr) : Bool → Bool → Option PySem.Expr → Option PySem.Expr → Bool
  | false, false, none, none => l [x]
  | true, false, some p, none => l [x, p]
  | false, true, none, some q => l [x, q]
  | _, _, _, _ => false
def opCmpB (l : List PySem.Expr → Bool) (c : COp) : PySem.Expr → Bool
  | .Compare x [op] [y] _ => decide (op = c.py) && (noSet y && l [x, y])
  | _ => false
def opRevB (l : List PySem.Expr → Bool) : PySem.Expr → Bool
  | .Subscript x (.Slice none none (some (.UnaryOp .USub (.Constant (.int 1) _ _) _)) _) _ => l [x]
  | _ => false
def opSlcB (l : List PySem.Expr → Bool) (a b : Bool) : PySem.Expr → Bool
  | .Subscript x (.Slice lo hi none _) _ => slcB l x a b lo hi
  | _ => false
def opIsiB (sc : Scope) (l : List PySem.Expr → Bool) (t : Ty) : PySem.Expr → Bool
  | .Call (.Name f _) [x, .Name g _] [] _ => decide (f = "isinstance") && (glB sc f && (decide (g = Str.ofString t.nm) && (glB sc g && (decide (t ≠ .none) && l [x]))))
  | _ => false
def opBfB (sc : Scope) (l : List PySem.Expr → Bool) (nm : Option Str) : PySem.Expr → Bool
  | .Call (.Name f _) args [] _ => match nm with
    | some nm => decide (f = nm) && (glB sc f && (!args.isEmpty && l args))
    | none => false
  | _ => false
def opB (sc : Scope) (l : List PySem.Expr → Bool) (o : Op) (e : PySem.Expr) : Bool := match o with
  | .bin b => match e with
    | .BinOp x op y _ => decide (op = b.py) && l [x, y]
    | _ => false
  | .neg => match e with
    | .UnaryOp .USub x _ => l [x]
    | _ => false
  | .cmp c => opCmpB l c e
  | .tup => match e with
    | .Tuple es _ _ => l es
    | _ => false
  | .lst => match e with
    | .List es _ => l es
    | _ => false
  | .idx => match e with
    | .Subscript x y _ => plainIx y && l [x, y]
    | _ => false
  | .slc a b => opSlcB l a b e
  | .rev => opRevB l e
  | .isi t => opIsiB sc l t e
  | o => opBfB sc l (bfN o) e
section
variable {l : List PySem.Expr → Bool} {e : PySem.Expr} {sc : Scope}
theorem opCmp_inv {c : COp} (h : opCmpB l c e = true) : ∃ x y pos, e = .Compare x [c.py] [y] pos ∧ noSet y = true ∧ l [x, y] = true := by
  unfold opCmpB at h
  split at h
  · obtain ⟨h1, h⟩ := Bool.and_eq_true_iff.mp h
    obtain ⟨h2, h3⟩ := Bool.and_eq_true_iff.mp h
    have := of_decide_eq_true h1
    subst this
    exact ⟨_, _, _, rfl, h2, h3⟩
  · cases h
theorem opRev_inv (h : opRevB l e = true) : ∃ x k p1 p2 p3 pos, e = .Subscript x (.Slice none none (some (.UnaryOp .USub (.Constant (.int 1) k p1) p2)) p3) pos ∧ l [x] = true := by
  unfold opRevB at h
  split at h
  · exact ⟨_, _, _, _, _, _, rfl, h⟩
  · cases h
theorem opSlc_inv {a b : Bool} (h : opSlcB l a b e = true) : ∃ x lo hi p2 pos, e = .Subscript x (.Slice lo hi none p2) pos ∧ slcB l x a b lo hi = true := by
  unfold opSlcB at h
  split at h
  · exact ⟨_, _, _, _, _, rfl, h⟩
  · cases h
theorem opIsi_inv {t : Ty} (h : opIsiB sc l t e = true) : ∃ fp x gp pos, e = .Call (.Name "isinstance" fp) [x, .Name (Str.ofString t.nm) gp] [] pos ∧ glB sc "isinstance" = true ∧ glB sc (Str.ofString t.nm) = true ∧ t ≠ .none ∧ l [x] = true := by
  unfold opIsiB at h
  split at h
  · obtain ⟨h1, h⟩ := Bool.and_eq_true_iff.mp h
    obtain ⟨h2, h⟩ := Bool.and_eq_true_iff.mp h
    obtain ⟨h3, h⟩ := Bool.and_eq_true_iff.mp h
    obtain ⟨h4, h⟩ := Bool.and_eq_true_iff.mp h
    obtain ⟨h5, h6⟩ := Bool.and_eq_true_iff.mp h
    have e1 := of_decide_eq_true h1
    have e3 := of_decide_eq_true h3
    subst e1 e3
    exact ⟨_, _, _, _, rfl, h2, h4, of_decide_eq_true h5, h6⟩
  · cases h
theorem opBf_inv {nm : Str} (h : opBfB sc l (some nm) e = true) : ∃ p args pos, e = .Call (.Name nm p) args [] pos ∧ glB sc nm = true ∧ (!args.isEmpty) = true ∧ l args = true := by
  unfold opBfB at h
  split at h
  · obtain ⟨h1, h⟩ := Bool.and_eq_true_iff.mp h
    obtain ⟨h2, h⟩ := Bool.and_eq_true_iff.mp h
    obtain ⟨h3, h4⟩ := Bool.and_eq_true_iff.mp h
    have := of_decide_eq_true h1
    subst this
    exact ⟨_, _, _, rfl, h2, h3, h4⟩
  · cases h
theorem opBf_none (h : opBfB sc l none e = true) : False := by
  unfold opBfB at h
  split at h <;> cases h
end
/-- stores within a comprehension's scope, or a def's -/
def locB (sc : Scope) (x : Str) : Bool := kB sc x .local || kB sc x .cell
def tgNamesB (nx : Nx) (loc : Str → Bool) : List Nat → List PySem.Expr → Bool
  | [], [] => true
  | i :: is, .Name x _ :: es => decide (nx.N[i]? = some x) && (loc x && tgNamesB nx loc is es)
  | _, _ => false
def tgB (nx : Nx) (loc : Str → Bool) : Tg → PySem.Expr → Bool
  | .nm i, .Name x _ => decide (nx.N[i]? = some x) && loc x
  | .tp is, .Tuple es _ _ => tgNamesB nx loc is es
  | _, _ => false
def ownN (nx : Nx) (vs : List Nat) : List (Str × Nat) := vs.map fun i => (nx.N.getD i ⟨#[]⟩, i)
def ifsB (t : PySem.Expr → Bool) (c : E) : List PySem.Expr → Bool
  | [] => match c with
    | .yes => true
    | _ => false
  | [x] => match c with
    | .yes => false
    | _ => t x
  | _ => false
/-- walks that make a tuple each turn want a target that is one -/
def ezB : E → PySem.Expr → Bool
  | .enm _, .Tuple _ _ _ => true
  | .enm _, _ => false
  | .zip _ _, .Tuple _ _ _ => true
  | .zip _ _, _ => false
  | _, _ => true
def lcB (nx : Nx) (elt it cond : Scope → Cks) (cc ic : E) (tg : Tg) (vs : List Nat) (sc : Scope) : PySem.Expr → Bool
  | .ListComp x [⟨tge, iter, ifs, 0⟩] scope _ => blkC nx.N sc scope (ownN nx vs) && ((it sc).i iter && (noSet iter && (tgB nx (fun y => locB (relS scope sc) y && locB scope y) tg tge && (tg.slots.all (fun i => decide (i ∈ vs)) &&
      (ifsB (cond (relS scope sc)).t cc ifs && ((elt (relS scope sc)).e x && ezB ic tge))))))
  | _ => false
def noLc : PySem.Expr → Bool
  | .ListComp _ _ _ _ => false
  | _ => true
def ck (nx : Nx) : E → Scope → Cks
  | .var i => fun sc => { Cks.no with e := nameB nx sc i, i := nameB nx sc i, o := nameB nx sc i }
  | .pk i => fun sc => { Cks.no with t := nameB nx sc i, o := nameB nx sc i }
  | .io i => fun sc => { Cks.no with o := nameB nx sc i }
  | .cst d => fun _ => { Cks.no with e := constB d, o := constB d }
  | .glb g => fun sc => let b : PySem.Expr → Bool := fun
      | .Name x _ => decide (nx.gc[g]? = some x) && glB sc x
      | _ => false
    { Cks.no with e := b, i := b, o := b }
  | .op o as => fun sc => let b := opB sc (ck nx as sc).l o
    ⟨b, fun e => b e && (plainT e || match o with | .cmp _ => true | _ => false), fun _ => false, b, b⟩
  | .nil => fun _ => { Cks.no with l := fun es => es.isEmpty }
  | .cons a r => fun sc => { Cks.no with l := fun
      | e :: es => notStar e && ((ck nx a sc).o e && (ck nx r sc).l es)
      | [] => false }
  | .chn o1 o2 a b c => fun sc => let f : PySem.Expr → Bool := fun
      | .Compare x [p, q] [y, z] _ => decide (p = o1.py) && (decide (q = o2.py) && (noSet z && ((ck nx a sc).o x && ((ck nx b sc).o y && (ck nx c sc).o z))))
      | _ => false
    ⟨f, f, fun _ => false, fun _ => false, f⟩
  | .slc a b c => fun sc => let f : PySem.Expr → Bool := fun
      | .Subscript x (.Slice (some y) (some z) none _) _ => (ck nx a sc).o x && ((ck nx b sc).o y && (ck nx c sc).o z)
      | _ => false
    ⟨f, fun e => f e && plainT e, fun _ => false, f, f⟩
  | .and a b => fun sc => let f : PySem.Expr → Bool := fun
      | .BoolOp .And (x :: y :: rest) pos => (ck nx a sc).e x && (match rest with | [] => (ck nx b sc).e y | _ => (ck nx b sc).e (.BoolOp .And (y :: rest) pos))
      | _ => false
    let g : PySem.Expr → Bool := fun
      | .BoolOp .And (x :: y :: rest) pos => (ck nx a sc).t x && (match rest with | [] => (ck nx b sc).t y | _ => (ck nx b sc).t (.BoolOp .And (y :: rest) pos))
      | _ => false
    ⟨f, g, fun _ => false, fun _ => false, f⟩
  | .or a b => fun sc => let f : PySem.Expr → Bool := fun
      | .BoolOp .Or (x :: y :: rest) pos => (ck nx a sc).e x && (match rest with | [] => (ck nx b sc).e y | _ => (ck nx b sc).e (.BoolOp .Or (y :: rest) pos))
      | _ => false
    let g : PySem.Expr → Bool := fun
      | .BoolOp .Or (x :: y :: rest) pos => (ck nx a sc).t x && (match rest with | [] => (ck nx b sc).t y | _ => (ck nx b sc).t (.BoolOp .Or (y :: rest) pos))
      | _ => false
    ⟨f, g, fun _ => false, fun _ => false, f⟩
  | .not a => fun sc => let f : PySem.Expr → Bool := fun
      | .UnaryOp .Not x _ => (ck nx a sc).t x
      | _ => false
    ⟨fun e => match e with
      | .UnaryOp .Not x _ => (ck nx a sc).e x
      | _ => false, f, fun _ => false, fun _ => false, fun e => match e with
      | .UnaryOp .Not x _ => (ck nx a sc).e x
      | _ => false⟩
  | .ife t a b => fun sc => let f : PySem.Expr → Bool := fun
      | .IfExp c x y _ => (ck nx t sc).t c && ((ck nx a sc).e x && (ck nx b sc).e y)
      | _ => false
    ⟨f, fun _ => false, fun _ => false, f, f⟩
  | .call f as => fun sc => let b : PySem.Expr → Bool := fun
      | .Call (.Name x _) args [] _ => decide (nx.fn[f]? = some x) && (glB sc x && (ck nx as sc).l args)
      | _ => false
    ⟨b, b, fun _ => false, b, b⟩
  | .lc elt tg it cond own => fun sc => let b := lcB nx (ck nx elt) (ck nx it) (ck nx cond) cond it tg own sc
    ⟨b, b, fun _ => false, b, b⟩
  | .yes => fun _ => Cks.no
  | .rng1 a => fun sc => { Cks.no with i := fun
      | .Call (.Name x _) [p] [] _ => decide (x = "range") && (glB sc x && (notStar p && (ck nx a sc).o p))
      | _ => false }
  | .rng2 a b => fun sc => { Cks.no with i := fun
      | .Call (.Name x _) [p, q] [] _ => decide (x = "range") && (glB sc x && (notStar p && (notStar q && ((ck nx a sc).o p && (ck nx b sc).o q))))
      | _ => false }
  | .any => fun _ => ⟨noLc, fun _ => true, fun _ => false, fun _ => true, fun _ => true⟩
  | .enm a => fun sc => { Cks.no with i := fun
      | .Call (.Name x _) [p] [] _ => decide (x = "enumerate") && (glB sc x && (notStar p && (ck nx a sc).e p))
      | _ => false }
  | .zip a b => fun sc => { Cks.no with i := fun
      | .Call (.Name x _) [p, q] [] _ => decide (x = "zip") && (glB sc x && (notStar p && (notStar q && ((ck nx a sc).e p && (ck nx b sc).e q))))
      | _ => false }
  | .chn3 o1 o2 o3 a b c d => fun sc => let f : PySem.Expr → Bool := fun
      | .Compare x [p, q, r] [y, z, u] _ => decide (p = o1.py) && (decide (q = o2.py) && (decide (r = o3.py) && (noSet u && ((ck nx a sc).o x && ((ck nx b sc).o y && ((ck nx c sc).o z && (ck nx d sc).o u))))))
      | _ => false
    ⟨f, f, fun _ => false, fun _ => false, f⟩
  | .lrg1 a => fun sc => let f : PySem.Expr → Bool := fun
      | .Call (.Name w _) [.Call (.Name x _) [p] [] _] [] _ => decide (w = "list") && (glB sc w && (decide (x = "range") && (glB sc x && (notStar p && (ck nx a sc).o p))))
      | _ => false
    ⟨f, fun _ => false, fun _ => false, f, f⟩
  | .lrg2 a b => fun sc => let f : PySem.Expr → Bool := fun
      | .Call (.Name w _) [.Call (.Name x _) [p, q] [] _] [] _ => decide (w = "list") && (glB sc w && (decide (x = "range") && (glB sc x && (notStar p && (notStar q && ((ck nx a sc).o p && (ck nx b sc).o q))))))
      | _ => false
    ⟨f, fun _ => false, fun _ => false, f, f⟩
  | _ => fun _ => Cks.no

/-! ## syntax facts -/
section
variable {env : Env}
theorem star_ok {e : PySem.Expr} {es : List PySem.Expr} (h : notStar e = true) : starEach (e :: es) env = (false, eval e env) :: starEach es env := by
  cases e <;> first | rfl | cases h
theorem isTrue_ok {e : PySem.Expr} (h : plainT e = true) (whole : Sem Value) : isTrue e env whole = (do let v ← whole; standAt e.pos; holding [v] (truthy v)) := by
  cases e <;> first | rfl | (cases h; done) | skip
  case UnaryOp op x pos => cases op <;> first | rfl | (cases h; done)
theorem ix_ok {e : PySem.Expr} (h : plainIx e = true) : PlainIx e := by
  intro o i
  cases e <;> first | rfl | (cases h; done)
theorem fold_ok {e : PySem.Expr} (h : noSet e = true) (x : Value) : foldedSetIterable e env x = pure x := by
  cases e <;> first | rfl | (cases h; done)
theorem mark_ok {op : CmpOp} {e : PySem.Expr} (h : noSet e = true) : behindInMarks op e = false := by
  cases e <;> first | rfl | (cases h; done)
theorem kB_ok {sc : Scope} {x : Str} {k : NameKind} (h : kB sc x k = true) : sc.names.lookup x = some k := of_decide_eq_true h
theorem gl_ok {X : Cx} {x : Str} (h : glB X.env.scope x = true) : Gl X x ∧ (x == ("__debug__" : Str)) = false := by
  obtain ⟨a, b⟩ := Bool.and_eq_true_iff.mp h
  exact ⟨kB_ok a, by simpa using b⟩
theorem vis_ok {X : Cx} {x : Str} (h : visB X.env.scope x = true) : Vis X.env.scope x ∧ (x == ("__debug__" : Str)) = false ∧ (x == ("__classdict__" : Str)) = false := by
  obtain ⟨a, b⟩ := Bool.and_eq_true_iff.mp h
  obtain ⟨c, d⟩ := Bool.and_eq_true_iff.mp b
  refine ⟨?_, by simpa using c, by simpa using d⟩
  rcases Bool.or_eq_true_iff.mp a with z | z
  · exact .inl (kB_ok z)
  · rcases Bool.or_eq_true_iff.mp z with z | z
    · exact .inr (.inl (kB_ok z))
    · exact .inr (.inr (kB_ok z))
theorem pl_ok : ∀ {es : List PySem.Expr} {pos : Pos}, es.all notStar = true → (backTo pos (starEach es env)).any (·.1) = false
  | [], _, _ => rfl
  | e :: es, pos, h => by
    obtain ⟨a, b⟩ := Bool.and_eq_true_iff.mp (show (notStar e && es.all notStar) = true from h)
    rw [star_ok a]
    show (false || (backTo pos (starEach es env)).any (·.1)) = false
    rw [pl_ok b]; rfl
end
section
variable {X : Cx} {e : PySem.Expr}
theorem PE.imp {t t' : TE} (h : PE X e t) (i : ∀ σ H Q, t' σ H Q → t σ H Q) : PE X e t' := ⟨fun pins s σ H Q I q => h.run pins s σ H Q I (i _ _ _ q)⟩
theorem PT.imp {t t' : TT} (h : PT X e t) (i : ∀ σ H Q, t' σ H Q → t σ H Q) : PT X e t' := ⟨fun pins s σ H Q I q => h.run pins s σ H Q I (i _ _ _ q)⟩
theorem PA.imp {es : List PySem.Expr} {t t' : TA} (h : PA X es t) (i : ∀ σ H Q, t' σ H Q → t σ H Q) : PA X es t' := ⟨fun pos pins s σ H Q I q => h.run pos pins s σ H Q I (i _ _ _ q)⟩
theorem PI.imp {tg : PySem.Expr} {t t' : TI} (h : PI X tg e t) (i : ∀ σ H Q, t' σ H Q → t σ H Q) : PI X tg e t' := ⟨fun pins s σ H Q I q => h.run pins s σ H Q I (i _ _ _ q)⟩
end

/-! ## what a body knows -/
abbrev kk (X : Cx) (X9 : Nat → Addr × Str) (W : WX) : Ck := ⟨X.K, X9, W⟩
def biNames : List Str := ["len", "isinstance", "all", "any", "tuple", "list", "range", "min", "max", "sum", "sorted", "abs", "int", "bool", "str", "dict", "repr", "type", "enumerate", "zip"]
structure Bd (nx : Nx) (T : Tb) (C : Nat → Option D) (X9 : Nat → Addr × Str) (lv : Nat) (X : Cx) (W : WX) : Prop where
  eN : X.N = nx.N
  nd : X.N.Nodup
  calm : X.calm = true
  gd : X.A.guards = some []
  room : Room lv X.A
  tk : Takes X W
  fn : ∀ id m fm, T id = some (m, fm) → ∃ x f fd ps, ps.length = m ∧ nx.fn[id]? = some x ∧ X.mg x = some (.ref f) ∧ PySem.W.keepIn X.K (.ref f) = true ∧ Binds X.K fd ps [] ∧ FnG X.prog X.w X.K X.mg X.base lv f fd ps (spOf X.K X9 m fm)
  gl : ∀ g d, C g = some d → ∃ x u v, nx.gc[g]? = some x ∧ X.mg x = some u ∧ RelV v u ∧ Dz X.K (fun _ => none) v d
  bi : ∀ x ∈ biNames, X.mg x = none

section
variable {T : Tb} {C : Nat → Option D}
def AllJ (T : Tb) (C : Nat → Option D) (k : Ck) (X : Cx) : E → List PySem.Expr → Prop
  | .nil, [] => True
  | .cons a r, e :: es => notStar e = true ∧ PE X e (tz (rP X.K) k (opd a (ev T C a).e)) ∧ AllJ T C k X r es
  | _, _ => False
theorem bd_assoc {α β γ : Type} (m : Ou α) (f : α → En → Ou β) (g : β → En → Ou γ) : (m.bd f).bd g = m.bd fun a n => (f a n).bd g := by
  cases m <;> rfl
variable {X : Cx} {X9 : Nat → Addr × Str} {W : WX}
theorem allJ_star {k : Ck} : ∀ {as : E} {es : List PySem.Expr}, AllJ T C k X as es → es.all notStar = true
  | .nil, [], _ => rfl
  | .nil, _ :: _, h => h.elim
  | .cons a r, [], h => h.elim
  | .cons a r, e :: es, h => by
    show (notStar e && es.all notStar) = true
    rw [h.1, allJ_star h.2.2]; rfl
  | .var _, [], h | .var _, _ :: _, h | .pk _, [], h | .pk _, _ :: _, h | .io _, [], h | .io _, _ :: _, h | .cst _, [], h | .cst _, _ :: _, h | .glb _, [], h | .glb _, _ :: _, h | .op _ _, [], h | .op _ _, _ :: _, h
  | .chn _ _ _ _ _, [], h | .chn _ _ _ _ _, _ :: _, h | .and _ _, [], h | .and _ _, _ :: _, h | .or _ _, [], h | .or _ _, _ :: _, h | .slc _ _ _, [], h | .slc _ _ _, _ :: _, h | .not _, [], h | .not _, _ :: _, h | .ife _ _ _, [], h | .ife _ _ _, _ :: _, h
  | .call _ _, [], h | .call _ _, _ :: _, h | .lc _ _ _ _ _, [], h | .lc _ _ _ _ _, _ :: _, h | .yes, [], h | .yes, _ :: _, h | .rng1 _, [], h | .rng1 _, _ :: _, h | .rng2 _ _, [], h | .rng2 _ _, _ :: _, h
  | .enm _, [], h | .enm _, _ :: _, h | .zip _ _, [], h | .zip _ _, _ :: _, h | .eat _, [], h | .eat _, _ :: _, h | .eis _ _, [], h | .eis _ _, _ :: _, h
  | .any, [], h | .any, _ :: _, h | .chn3 _ _ _ _ _ _ _, [], h | .chn3 _ _ _ _ _ _ _, _ :: _, h | .lrg1 _, [], h | .lrg1 _, _ :: _, h | .lrg2 _ _, [], h | .lrg2 _ _, _ :: _, h => h.elim
theorem allJ_nil {k : Ck} {as : E} (h : AllJ T C k X as []) : as = .nil := by
  cases as <;> first | rfl | exact h.elim
theorem allJ_cons {k : Ck} {as : E} {e : PySem.Expr} {es : List PySem.Expr} (h : AllJ T C k X as (e :: es)) : ∃ a r, as = .cons a r ∧ notStar e = true ∧ PE X e (tz (rP X.K) k (opd a (ev T C a).e)) ∧ AllJ T C k X r es := by
  cases as <;> first | exact h.elim | exact ⟨_, _, rfl, h⟩
theorem pa_all {k : Ck} (hk : k.K = X.K) : ∀ {es : List PySem.Expr} {as : E}, AllJ T C k X as es → PA X es (tz (rL X.K) k (ev T C as).l)
  | [], as, h => by
    rw [allJ_nil h]
    refine PA.imp pa_nil ?_
    rintro σ H Q ⟨F, n, s, q⟩
    exact q [] F H s Step.refl .nil
  | e :: es, as, h => by
    obtain ⟨a, r, rfl, ns, pe, hr⟩ := allJ_cons h
    refine PA.imp (pa_cons pe (pa_all hk hr) (star_ok ns)) ?_
    rintro σ H Q ⟨F, n, s, q⟩
    refine ⟨F, n, s, Po.mono (Po.bd (ρ' := rP X.K) q) ?_⟩
    rintro v H1 ⟨F1, n1, p, s1, t1, pv, q⟩
    refine ⟨F1, n1, s1, Po.mono (Po.bd (ρ' := rL X.K) q) ?_⟩
    rintro vs H2 ⟨F2, n2, ps, s2, t2, pvs, q⟩
    exact q (v :: vs) F2 H2 s2 Step.refl (.cons (pv1_mono t2.f pv) pvs)
end
end Z

set_option Elab.async false
set_option linter.all false
set_option maxRecDepth 100000
set_option maxHeartbeats 8000000
namespace Z
open PySem PySem.Spec PyProof.Rows L2

section
variable {nx : Nx} {T : Tb} {C : Nat → Option D} {X9 : Nat → Addr × Str} {lv : Nat} {X : Cx} {W : WX}
/-! ## names and constants -/
theorem z_name {i : Nat} {e : PySem.Expr} (B : Bd nx T C X9 lv X W) (h : nameB nx X.env.scope i e = true) : PE X e (tVar i) := by
  cases e <;> try (cases h; done)
  rename_i x pos
  obtain ⟨a, b⟩ := Bool.and_eq_true_iff.mp (show (decide (nx.N[i]? = some x) && visB X.env.scope x) = true from h)
  obtain ⟨v, d1, d2⟩ := vis_ok b
  exact pe_var (by rw [B.eN]; exact of_decide_eq_true a) v d1 d2
theorem z_nameT {i : Nat} {e : PySem.Expr} (h : nameB nx X.env.scope i e = true) : plainT e = true := by
  cases e <;> first | rfl | (cases h; done)
theorem z_var {i : Nat} {e : PySem.Expr} (B : Bd nx T C X9 lv X W) (h : nameB nx X.env.scope i e = true) : PE X e (tz (rV X.K) (kk X X9 W) (zVar i)) := by
  refine PE.imp (z_name B h) ?_
  rintro σ H Q ⟨F, n, s, q⟩
  unfold zVar at q
  cases z : n[i]? with
  | none => rw [z] at q; exact q.elim
  | some t =>
    rw [z] at q
    have y := s.sl i t z
    cases t with
    | un => exact q.elim
    | pn d => exact q.elim
    | er c d => exact q.elim
    | fz d =>
      obtain ⟨v, e1, e2⟩ := y
      exact ⟨v, e1, q v F H s Step.refl e2⟩
    | ow d =>
      obtain ⟨a, e1, m⟩ := y
      obtain ⟨m0, ds, xs, rfl, m1, m2⟩ := m
      have li : i < n.length := (List.getElem?_eq_some_iff.mp z).1
      -- the slot is frozen
      have key : ∀ (j : Nat) (t : Sl), (n.set i (.fz (.list ds)))[j]? = some t → (j = i ∧ t = .fz (.list ds)) ∨ (j ≠ i ∧ n[j]? = some t) := fun j t e => by
        by_cases q : j = i
        · subst q; rw [List.getElem?_set_self li] at e; exact .inl ⟨rfl, (Option.some.inj e).symm⟩
        · rw [List.getElem?_set_ne (Ne.symm q)] at e; exact .inr ⟨q, e⟩
      have no : ∀ (j : Nat) (t : Sl) (b : Addr), j ≠ i → n[j]? = some t → isOwn t → σ[j]? = some (some (V.ref b)) → b ≠ a := fun j t b hj ht ot hb q => by
        subst q; exact s.ap j i t _ hj ht z ot trivial (hb.trans e1.symm)
      have sm : Same F (upd F a (.lst xs)) := same_upd m0
      have s2 : SO X.K (upd F a (.lst xs)) H σ (n.set i (.fz (.list ds))) := by
        refine ⟨fun b o e => ?_, by rw [List.length_set, s.len], fun j t e => ?_, fun j l t u hjl hj hl ot ou => ?_⟩
        · rcases upd_cases e with ⟨rfl, rfl⟩ | ⟨_, e⟩
          · exact m1
          · exact s.sub b o e
        · rcases key j t e with ⟨rfl, rfl⟩ | ⟨hj, e⟩
          · exact ⟨.ref a, e1, .lst (.inl upd_same) (dpAll_mono sm m2)⟩
          · have y := s.sl j t e
            have mo : ∀ b d, isOwn t → σ[j]? = some (some (V.ref b)) → Mo X.K F H b d → Mo X.K (upd F a (.lst xs)) H b d := by
              rintro b d ot hb ⟨k0, es, ys, rfl, k1, k2⟩
              exact ⟨by rw [upd_ne (no j t b hj e ot hb)]; exact k0, es, ys, rfl, k1, dpAll_mono sm k2⟩
            cases t with
            | un => trivial
            | fz d => obtain ⟨v, y1, y2⟩ := y; exact ⟨v, y1, dp_mono sm y2⟩
            | ow d => obtain ⟨b, y1, y2⟩ := y; exact ⟨b, y1, mo b d trivial y1 y2⟩
            | pn d => obtain ⟨b, y1, y2⟩ := y; exact ⟨b, y1, mo b d trivial y1 y2⟩
            | er c d => exact y
        · rcases key j t hj with ⟨rfl, rfl⟩ | ⟨_, h1⟩
          · exact ot.elim
          · rcases key l u hl with ⟨rfl, rfl⟩ | ⟨_, h2⟩
            · exact ou.elim
            · exact s.ap j l t u hjl h1 h2 ot ou
      have t2 : Step σ F H n (upd F a (.lst xs)) H (n.set i (.fz (.list ds))) := by
        refine ⟨sm, fun _ _ h _ => h, fun b o e => ?_, ?_, fun _ h => h⟩
        · rcases upd_cases e with ⟨rfl, rfl⟩ | ⟨_, e⟩
          · exact .inr (.inr ⟨i, _, z, trivial, e1⟩)
          · exact .inl e
        · rintro b ⟨j, t, e, ot, ev⟩
          rcases key j t e with ⟨rfl, rfl⟩ | ⟨_, e⟩
          · exact ot.elim
          · exact ⟨j, t, e, ot, ev⟩
      exact ⟨.ref a, e1, q (.ref a) _ H s2 t2 (.lst (.inl upd_same) (dpAll_mono sm m2))⟩
theorem z_slot {i : Nat} {e : PySem.Expr} {p : P} (B : Bd nx T C X9 lv X W) (h : nameB nx X.env.scope i e = true) {f : En → Ou P} (hp : ∀ v σ F, pv1 X.K F σ v p ↔ σ[i]? = some (some v))
    (hf : ∀ n : En, (∃ d, (n[i]?).bind slD = some d ∧ f n = .ok p n) ∨ f n = .st) : PE X e (tz (rP X.K) (kk X X9 W) f) := by
  refine PE.imp (z_name B h) ?_
  rintro σ H Q ⟨F, n, s, q⟩
  rcases hf n with ⟨d, z, e⟩ | e
  · rw [e] at q
    cases z' : n[i]? with
    | none => rw [z'] at z; cases z
    | some t =>
      rw [z'] at z
      have y := s.sl i t z'
      have fin : ∀ v, σ[i]? = some (some v) → tVar i σ H Q := fun v e1 => ⟨v, e1, q v F H s Step.refl ((hp v σ F).mpr e1)⟩
      cases t with
      | un => cases z
      | er c d => cases z
      | fz d => obtain ⟨v, e1, _⟩ := y; exact fin v e1
      | ow d => obtain ⟨v, e1, _⟩ := y; exact fin _ e1
      | pn d => obtain ⟨v, e1, _⟩ := y; exact fin _ e1
  · rw [e] at q; exact q.elim
theorem z_pk {i : Nat} {e : PySem.Expr} {f : En → Ou R} (B : Bd nx T C X9 lv X W) (h : nameB nx X.env.scope i e = true) : PE X e (tz (rP X.K) (kk X X9 W) (opd (.pk i) f)) := by
  refine z_slot (p := .sl i) B h (fun _ _ _ => Iff.rfl) fun n => ?_
  dsimp only [opd]
  cases z : n[i]? with
  | none => exact .inr rfl
  | some t => cases t <;> first | exact .inr rfl | exact .inl ⟨_, rfl, rfl⟩
theorem z_io {i : Nat} {e : PySem.Expr} {f : En → Ou R} (B : Bd nx T C X9 lv X W) (h : nameB nx X.env.scope i e = true) : PE X e (tz (rP X.K) (kk X X9 W) (opd (.io i) f)) := by
  refine z_slot (p := .io i) B h (fun _ _ _ => Iff.rfl) fun n => ?_
  dsimp only [opd]
  cases z : n[i]? with
  | none => exact .inr rfl
  | some t => cases t <;> first | exact .inr rfl | exact .inl ⟨_, rfl, rfl⟩
/-- an operand by its value -/
theorem z_val {e : PySem.Expr} {f : En → Ou R} {g : En → Ou P} (h : PE X e (tz (rV X.K) (kk X X9 W) f)) (hg : ∀ n, g n = (f n).bd fun r n1 => .ok (.dd r.d) n1) : PE X e (tz (rP X.K) (kk X X9 W) g) := by
  refine PE.imp h ?_
  rintro σ H Q ⟨F, n, s, q⟩
  refine ⟨F, n, s, Po.frz s ?_⟩
  rw [hg] at q
  cases z : f n with
  | st => rw [z] at q; exact q
  | ex c d n' => rw [z] at q; exact q
  | ok r n' => rw [z] at q; exact q
theorem z_cst {d : D} {e : PySem.Expr} (h : constB d e = true) : PE X e (tz (rV X.K) (kk X X9 W) fun n => .ok (.fr d) n) := by
  have fin : ∀ {v : V}, (∀ F, Dz X.K F v d) → PE X e (tC v) → PE X e (tz (rV X.K) (kk X X9 W) fun n => .ok (.fr d) n) := fun {v} hv p => by
    refine PE.imp p ?_
    rintro σ H Q ⟨F, n, s, q⟩
    exact q v F H s Step.refl (hv F)
  cases d <;> cases e <;> try (cases h; done)
  · rename_i c j pos
    cases c <;> try (cases h; done)
    exact fin (fun _ => .non) pe_non
  · rename_i b c j pos
    cases c <;> try (cases h; done)
    have e : b = _ := eq_of_beq (show (b == _) = true from h)
    subst e
    exact fin (fun _ => .bl _) pe_bl
  · rename_i b c j pos
    cases c <;> try (cases h; done)
    have e := of_decide_eq_true (show decide (b = _) = true from h)
    subst e
    exact fin (fun _ => .int _) pe_int
  · rename_i b c j pos
    cases c <;> try (cases h; done)
    have e := of_decide_eq_true (show decide (b = _) = true from h)
    subst e
    exact fin (fun _ => .str _) pe_str
theorem z_glb {g : Nat} {e : PySem.Expr} (B : Bd nx T C X9 lv X W) (h : (match e with
    | .Name x _ => decide (nx.gc[g]? = some x) && glB X.env.scope x
    | _ => false) = true) : PE X e (tz (rV X.K) (kk X X9 W) fun n => match C g with
    | some d => .ok (.fr d) n
    | none => .st) := by
  cases e <;> try (cases h; done)
  rename_i x pos
  obtain ⟨a, b⟩ := Bool.and_eq_true_iff.mp (show (decide (nx.gc[g]? = some x) && glB X.env.scope x) = true from h)
  obtain ⟨gl, dbg⟩ := gl_ok b
  cases z : C g with
  | none => exact ⟨fun pins s σ H Q I q => by obtain ⟨F, n, _, q⟩ := q; exact q.elim⟩
  | some d =>
    obtain ⟨y, u, v, e1, e2, e3, e4⟩ := B.gl g d z
    rw [of_decide_eq_true a] at e1; cases e1
    refine PE.imp (pe_glob (pos := pos) gl e2 e3 dbg) ?_
    rintro σ H Q ⟨F, n, s, q⟩
    exact q v F H s Step.refl (dp_mono (fun _ _ z => by cases z) e4)

/-! ## operations -/
theorem zOp_two {a b : E} {o : Op} {n : En} : zOp o (ev T C (.cons a (.cons b .nil))).l n = (opd a (ev T C a).e n).bd fun p n1 => (opd b (ev T C b).e n1).bd fun q n2 => match opdl o n2 [p, q] with
    | some ds => .of (opD o ds) n2
    | none => .st := by
  show ((opd a (ev T C a).e n).bd fun p n1 => ((opd b (ev T C b).e n1).bd fun q n2 => (Ou.ok [] n2).bd fun ps n3 => .ok (q :: ps) n3).bd fun ps n2 => .ok (p :: ps) n2).bd _ = _
  rw [bd_assoc]
  congr 1
  funext p n1
  rw [bd_assoc]
  rw [bd_assoc]
  try rfl
theorem zOp_one {a : E} {o : Op} {n : En} : zOp o (ev T C (.cons a .nil)).l n = (opd a (ev T C a).e n).bd fun p n1 => match opdl o n1 [p] with
    | some ds => .of (opD o ds) n1
    | none => .st := by
  show ((opd a (ev T C a).e n).bd fun p n1 => (Ou.ok [] n1).bd fun ps n2 => .ok (p :: ps) n2).bd _ = _
  rw [bd_assoc]
  try rfl
/-- two operands, a rule by values -/
theorem z_two {a b : E} {o : Op} {r : R2} (hr : retains o = false)
    (h : ∀ F H v w x y res Q, Same F H → Dq X.K F H v x → Dq X.K F H w y → opD o [x, y] = some res → Res X.K F H res Q → r v w H Q) {σ : L2.St} {H : Hp} {Q : V → Hp → Prop}
    (q : tz (rV X.K) (kk X X9 W) (zOp o (ev T C (.cons a (.cons b .nil))).l) σ H Q) : tOp r (tz (rP X.K) (kk X X9 W) (opd a (ev T C a).e)) (tz (rP X.K) (kk X X9 W) (opd b (ev T C b).e)) σ H Q := by
  obtain ⟨F, n, s, q⟩ := q
  rw [zOp_two] at q
  refine ⟨F, n, s, Po.mono (Po.bd (ρ' := rP X.K) q) ?_⟩
  rintro v H1 ⟨F1, n1, p, s1, t1, pv, q⟩
  refine ⟨F1, n1, s1, Po.mono (Po.bd (ρ' := rP X.K) q) ?_⟩
  rintro w H2 ⟨F2, n2, p2, s2, t2, pw, q⟩
  unfold opdl at q
  rw [hr, if_neg Bool.false_ne_true] at q
  cases z : rsl n2 [p, p2] with
  | none => rw [z] at q; exact q.elim
  | some ds =>
    rw [z] at q
    obtain ⟨res, e, q9⟩ := Po.of q
    have all := rsl_ok s2 (.cons (pv1_mono t2.f pv) (.cons pw .nil)) z
    cases all with
    | cons d1 r1 =>
      cases r1 with
      | cons d2 r2 =>
        cases r2
        exact h F2 H2 v w _ _ res Q s2.sub d1 d2 e (q9.res s2)
theorem z_one {a : E} {o : Op} {r : V → Hp → VK → Prop} (hr : retains o = false)
    (h : ∀ F H v x res Q, Same F H → Dq X.K F H v x → opD o [x] = some res → Res X.K F H res Q → r v H Q) {σ : L2.St} {H : Hp} {Q : V → Hp → Prop}
    (q : tz (rV X.K) (kk X X9 W) (zOp o (ev T C (.cons a .nil)).l) σ H Q) : tUn r (tz (rP X.K) (kk X X9 W) (opd a (ev T C a).e)) σ H Q := by
  obtain ⟨F, n, s, q⟩ := q
  rw [zOp_one] at q
  refine ⟨F, n, s, Po.mono (Po.bd (ρ' := rP X.K) q) ?_⟩
  rintro v H1 ⟨F1, n1, p, s1, t1, pv, q⟩
  unfold opdl at q
  rw [hr, if_neg Bool.false_ne_true] at q
  cases z : rsl n1 [p] with
  | none => rw [z] at q; exact q.elim
  | some ds =>
    rw [z] at q
    obtain ⟨res, e, q9⟩ := Po.of q
    have all := rsl_ok s1 (.cons pv .nil) z
    cases all with
    | cons d1 r1 =>
      cases r1
      exact h F1 H1 v _ res Q s1.sub d1 e (q9.res s1)
/-- a row of operands, a rule by values -/
theorem z_row {as : E} {o : Op} {r : List V → Hp → VK → Prop} (hr : retains o = false) (h : ∀ vs H Q, rOp X.K o vs H Q → r vs H Q) {σ : L2.St} {H : Hp} {Q : V → Hp → Prop}
    (q : tz (rV X.K) (kk X X9 W) (zOp o (ev T C as).l) σ H Q) : tCB r (tz (rL X.K) (kk X X9 W) (ev T C as).l) σ H Q := by
  obtain ⟨F, n, s, q⟩ := q
  refine ⟨F, n, s, Po.mono (Po.bd (ρ' := rL X.K) q) ?_⟩
  rintro vs H1 ⟨F1, n1, ps, s1, t1, pv, q⟩
  unfold opdl at q
  rw [hr, if_neg Bool.false_ne_true] at q
  cases z : rsl n1 ps with
  | none => rw [z] at q; exact q.elim
  | some ds =>
    rw [z] at q
    obtain ⟨res, e, q9⟩ := Po.of q
    exact h vs H1 Q ⟨F1, ds, res, s1.sub, rsl_ok s1 pv z, e, q9.res s1⟩
theorem ne_nil {args : List PySem.Expr} (h : (!args.isEmpty) = true) : ∃ e es, args = e :: es := by
  cases args with
  | nil => cases h
  | cons e es => exact ⟨e, es, rfl⟩
/-- a built-in function called -/
theorem z_callB {as : E} {o : Op} {nm : Str} {id : String} {args : List PySem.Expr} {p pos : Pos} (B : Bd nx T C X9 lv X W) (hr : retains o = false) (hc : CallR X (.builtin id) (rOp X.K o)) (hv : bootBuiltins nm = some (.builtin id)) (hb : nm ∈ biNames)
    (hn : nm ≠ "__name__") (hdb : (nm == ("__debug__" : Str)) = false) (g : glB X.env.scope nm = true) (ne : (!args.isEmpty) = true) (J : AllJ T C (kk X X9 W) X as args) : PE X (.Call (.Name nm p) args [] pos) (tz (rV X.K) (kk X X9 W) (zOp o (ev T C as).l)) := by
  obtain ⟨e, es, rfl⟩ := ne_nil ne
  have st := allJ_star J
  obtain ⟨s1, s2⟩ := Bool.and_eq_true_iff.mp (show (notStar e && es.all notStar) = true from st)
  refine PE.imp (pe_callB hc (gl_ok g).1 (B.bi nm hb) hv (pa_all rfl J) hn hdb (star_ok s1) (pl_ok s2)) ?_
  intro σ H Q q
  exact z_row hr (fun _ _ _ z => z) q
theorem z_callTy {as : E} {o : Op} {nm : Str} {id : String} {args : List PySem.Expr} {p pos : Pos} (B : Bd nx T C X9 lv X W) (hr : retains o = false) (hc : CallR X (.type id) (rOp X.K o)) (hv : bootBuiltins nm = some (.type id)) (hb : nm ∈ biNames)
    (hn : nm ≠ "__name__") (hdb : (nm == ("__debug__" : Str)) = false) (g : glB X.env.scope nm = true) (ne : (!args.isEmpty) = true) (J : AllJ T C (kk X X9 W) X as args) : PE X (.Call (.Name nm p) args [] pos) (tz (rV X.K) (kk X X9 W) (zOp o (ev T C as).l)) := by
  obtain ⟨e, es, rfl⟩ := ne_nil ne
  have st := allJ_star J
  obtain ⟨s1, s2⟩ := Bool.and_eq_true_iff.mp (show (notStar e && es.all notStar) = true from st)
  refine PE.imp (pe_callTy hc (gl_ok g).1 (B.bi nm hb) hv (pa_all rfl J) hn hdb (star_ok s1) (pl_ok s2)) ?_
  intro σ H Q q
  exact z_row hr (fun _ _ _ z => z) q
end
end Z

set_option Elab.async false
set_option linter.all false
set_option maxRecDepth 100000
set_option maxHeartbeats 8000000
namespace Z
open PySem PySem.Spec PyProof.Rows L2

section
variable {nx : Nx} {T : Tb} {C : Nat → Option D} {X9 : Nat → Addr × Str} {lv : Nat} {X : Cx} {W : WX}
theorem ba {a b : Bool} (h : (a && b) = true) : a = true ∧ b = true := Bool.and_eq_true_iff.mp h

/-- displays -/
theorem z_disp {as : E} {o : Op} {es : List PySem.Expr} {e : PySem.Expr} {t : TA → TE} (hr : retains o = true) (J : AllJ T C (kk X X9 W) X as es) (hp : ∀ {t0 : TA}, PA X es t0 → PE X e (t t0))
    (h : ∀ {F H : Hp} {n : En} {σ : L2.St} {vs : List V} {ds : List D} {Q : VK}, SO X.K F H σ n → DzAll X.K F vs ds → (∃ res, opD o ds = some res ∧ Res X.K F H res Q) → t (fun _ H Q => Q vs H) σ H Q)
    (hm : ∀ (σ : L2.St) (H : Hp) (Q : VK) (t0 : TA), t0 σ H (fun vs H1 => t (fun _ H Q => Q vs H) σ H1 Q) → t t0 σ H Q) : PE X e (tz (rV X.K) (kk X X9 W) (zOp o (ev T C as).l)) := by
  refine PE.imp (hp (pa_all rfl J)) ?_
  rintro σ H Q ⟨F, n, s, q⟩
  refine hm σ H Q _ ⟨F, n, s, Po.mono (Po.bd (ρ' := rL X.K) q) ?_⟩
  rintro vs H1 ⟨F1, n1, ps, s1, t1, pv, q⟩
  unfold opdl at q
  rw [hr, if_pos rfl] at q
  cases z : frl ps with
  | none => rw [z] at q; exact q.elim
  | some ds =>
    rw [z] at q
    obtain ⟨res, e, q9⟩ := Po.of q
    exact h s1 (frl_ok pv z) ⟨res, e, q9.res s1⟩

theorem z_op {as : E} {o : Op} {e : PySem.Expr} (B : Bd nx T C X9 lv X W) (J : ∀ es, (ck nx as X.env.scope).l es = true → AllJ T C (kk X X9 W) X as es) (h : opB X.env.scope (ck nx as X.env.scope).l o e = true) :
    PE X e (tz (rV X.K) (kk X X9 W) (zOp o (ev T C as).l)) := by
  have hu := B.room.un
  cases o with
  | bin b =>
    cases e <;> try (cases h; done)
    obtain ⟨h1, h2⟩ := ba h
    have := of_decide_eq_true h1
    subst this
    obtain ⟨a, r, rfl, _, pa, J2⟩ := allJ_cons (J _ h2)
    obtain ⟨c, r, rfl, _, pc, J3⟩ := allJ_cons J2
    cases allJ_nil J3
    exact PE.imp (pe_op (op_bin b) pa pc) fun σ H Q q => z_two rfl (fun F H v w x y res Q sm dx dy e r => ⟨F, x, y, res, sm, dx, dy, e, r⟩) q
  | neg =>
    cases e <;> try (cases h; done)
    rename_i op x pos
    cases op <;> try (cases h; done)
    obtain ⟨a, r, rfl, _, pa, J2⟩ := allJ_cons (J _ h)
    cases allJ_nil J2
    exact PE.imp (pe_un un_negZ pa) fun σ H Q q => z_one rfl (fun F H v x res Q sm dx e r => ⟨F, x, res, sm, dx, e, r⟩) q
  | cmp c =>
    obtain ⟨x, y, pos, rfl, h2, h3⟩ := opCmp_inv h
    obtain ⟨a, r, rfl, _, pa, J2⟩ := allJ_cons (J _ h3)
    obtain ⟨d, r, rfl, _, pd, J3⟩ := allJ_cons J2
    cases allJ_nil J3
    refine PE.imp (pe_cmpR (op_cmp (by omega) c) pa pd (mark_ok h2)) fun σ H Q q => z_two rfl (fun F H v w x y res Q sm dx dy e r => ?_) q
    have e : (cmpD c x y).map dbl = some res := e
    cases z : cmpD c x y with
    | none => rw [z] at e; cases e
    | some b => rw [z] at e; cases e; exact ⟨F, x, y, b, sm, dx, dy, z, r.bl sm⟩
  | tup =>
    cases e <;> try (cases h; done)
    refine z_disp rfl (J _ h) (t := tTup) (fun p => pe_tup p) (fun {F H n σ vs ds Q} s dz ⟨res, e, q⟩ => ?_) (fun _ _ _ _ z => z)
    obtain ⟨h1, h2⟩ := ite_some e
    subst h2
    exact ⟨by rw [dpAll_len dz]; exact fitL_ok h1, fun p hp => q.tup s.sub dz hp⟩
  | lst =>
    cases e <;> try (cases h; done)
    refine z_disp rfl (J _ h) (t := tLst) (fun p => pe_lst p) (fun {F H n σ vs ds Q} s dz ⟨res, e, q⟩ => ?_) (fun _ _ _ _ z => z)
    obtain ⟨h1, h2⟩ := ite_some e
    subst h2
    exact ⟨by rw [dpAll_len dz]; exact fitL_ok h1, fun p hp => q.lst s.sub dz hp⟩
  | idx =>
    cases e <;> try (cases h; done)
    obtain ⟨h1, h2⟩ := ba h
    obtain ⟨a, r, rfl, _, pa, J2⟩ := allJ_cons (J _ h2)
    obtain ⟨c, r, rfl, _, pc, J3⟩ := allJ_cons J2
    cases allJ_nil J3
    exact PE.imp (pe_ix ix_Z pa pc (ix_ok h1)) fun σ H Q q => z_two rfl (fun F H v w x y res Q sm dx dy e r => ⟨F, x, y, res, sm, dx, dy, e, r⟩) q
  | rev =>
    obtain ⟨x, k, p1, p2, p3, pos, rfl, h⟩ := opRev_inv h
    obtain ⟨a, r, rfl, _, pa, J2⟩ := allJ_cons (J _ h)
    cases allJ_nil J2
    exact PE.imp (pe_revZ pa) fun σ H Q q => z_one rfl (fun F H v x res Q sm dx e r => ⟨F, x, res, sm, dx, e, r⟩) q
  | slc lo hi =>
    obtain ⟨x, l, u, p2, pos, rfl, h⟩ := opSlc_inv h
    cases lo <;> cases hi <;> cases l <;> cases u <;> try (cases h; done)
    · obtain ⟨a, r, rfl, _, pa, J2⟩ := allJ_cons (J _ h)
      cases allJ_nil J2
      refine PE.imp (pe_slice sl_Z pa po_none po_none) fun σ H Q q => ?_
      exact z_one (o := .slc false false) (r := fun v H Q => rSlc X.K v none none H Q) rfl (fun F H v x res Q sm dx e r => ⟨F, x, res, sm, dx, e, r⟩) q
    · obtain ⟨a, r, rfl, _, pa, J2⟩ := allJ_cons (J _ h)
      obtain ⟨c, r, rfl, _, pc, J3⟩ := allJ_cons J2
      cases allJ_nil J3
      refine PE.imp (pe_slice sl_Z pa po_none (po_some pc)) fun σ H Q q => ?_
      exact z_two (o := .slc false true) (r := fun v w H Q => ∃ i, w = .int i ∧ rSlc X.K v none (some i) H Q) rfl (fun F H v w x y res Q sm dx dy e r => by
        cases y <;> try (cases e; done)
        exact ⟨_, dy.int, F, x, res, sm, dx, e, r⟩) q
    · obtain ⟨a, r, rfl, _, pa, J2⟩ := allJ_cons (J _ h)
      obtain ⟨c, r, rfl, _, pc, J3⟩ := allJ_cons J2
      cases allJ_nil J3
      refine PE.imp (pe_slice sl_Z pa (po_some pc) po_none) fun σ H Q q => ?_
      exact z_two (o := .slc true false) (r := fun v w H Q => ∃ i, w = .int i ∧ rSlc X.K v (some i) none H Q) rfl (fun F H v w x y res Q sm dx dy e r => by
        cases y <;> try (cases e; done)
        exact ⟨_, dy.int, F, x, res, sm, dx, e, r⟩) q
  | isi t =>
    obtain ⟨fp, x, gp, pos, rfl, h2, h4, e5, h6⟩ := opIsi_inv h
    obtain ⟨a, r, rfl, st, pa, J2⟩ := allJ_cons (J _ h6)
    cases allJ_nil J2
    have ty : PE X (.Name (Str.ofString t.nm) gp) (tC (.ty t.nm)) := by
      have bt : bootBuiltins (Str.ofString t.nm) = some (.type t.nm) := by cases t <;> first | exact absurd rfl e5 | decide +kernel
      have bn : Str.ofString t.nm ∈ biNames := by cases t <;> first | exact absurd rfl e5 | decide +kernel
      exact pe_bltn (gl_ok h4).1 (B.bi _ bn) bt rfl (by cases t <;> decide) (gl_ok h4).2
    refine PE.imp (pe_callB (cl_isi t e5) (gl_ok h2).1 (B.bi _ (by decide +kernel)) (by decide +kernel) (pa_cons pa (pa_cons ty pa_nil (by rfl)) (star_ok st)) (by decide) (gl_ok h2).2 (star_ok st) (by rfl)) fun σ H Q q => ?_
    have q2 := z_one (r := fun v H Q => rOp X.K (.isi t) [v] H Q) rfl (fun F H v x res Q sm dx e r => ⟨F, [x], res, sm, .cons dx .nil, e, r⟩) q
    obtain ⟨F, n, s, q3⟩ := q2
    exact ⟨F, n, s, Po.mono q3 fun v H1 z => ⟨v, rfl, z⟩⟩
  | len =>
    obtain ⟨p, args, pos, rfl, g, ne, hl⟩ := opBf_inv (nm := "len") h
    exact z_callB B rfl cl_len (by decide +kernel) (by decide +kernel) (by decide) (by decide) g ne (J _ hl)
  | all =>
    obtain ⟨p, args, pos, rfl, g, ne, hl⟩ := opBf_inv (nm := "all") h
    exact z_callB B rfl (cl_all B.calm) (by decide +kernel) (by decide +kernel) (by decide) (by decide) g ne (J _ hl)
  | any =>
    obtain ⟨p, args, pos, rfl, g, ne, hl⟩ := opBf_inv (nm := "any") h
    exact z_callB B rfl (cl_any B.calm) (by decide +kernel) (by decide +kernel) (by decide) (by decide) g ne (J _ hl)
  | tupOf =>
    obtain ⟨p, args, pos, rfl, g, ne, hl⟩ := opBf_inv (nm := "tuple") h
    exact z_callTy B rfl cl_tup (by decide +kernel) (by decide +kernel) (by decide) (by decide) g ne (J _ hl)
  | lstOf =>
    obtain ⟨p, args, pos, rfl, g, ne, hl⟩ := opBf_inv (nm := "list") h
    exact z_callTy B rfl cl_lst (by decide +kernel) (by decide +kernel) (by decide) (by decide) g ne (J _ hl)
  | abs =>
    obtain ⟨p, args, pos, rfl, g, ne, hl⟩ := opBf_inv (nm := "abs") h
    exact z_callB B rfl cl_abs (by decide +kernel) (by decide +kernel) (by decide) (by decide) g ne (J _ hl)
  | int1 =>
    obtain ⟨p, args, pos, rfl, g, ne, hl⟩ := opBf_inv (nm := "int") h
    exact z_callTy B rfl cl_int1 (by decide +kernel) (by decide +kernel) (by decide) (by decide) g ne (J _ hl)
  | min2 =>
    obtain ⟨p, args, pos, rfl, g, ne, hl⟩ := opBf_inv (nm := "min") h
    exact z_callB B rfl (cl_min2 B.calm) (by decide +kernel) (by decide +kernel) (by decide) (by decide) g ne (J _ hl)
  | max2 =>
    obtain ⟨p, args, pos, rfl, g, ne, hl⟩ := opBf_inv (nm := "max") h
    exact z_callB B rfl (cl_max2 B.calm) (by decide +kernel) (by decide +kernel) (by decide) (by decide) g ne (J _ hl)
  | sum =>
    obtain ⟨p, args, pos, rfl, g, ne, hl⟩ := opBf_inv (nm := "sum") h
    exact z_callB B rfl (cl_sum B.calm) (by decide +kernel) (by decide +kernel) (by decide) (by decide) g ne (J _ hl)
  | repr =>
    obtain ⟨p, args, pos, rfl, g, ne, hl⟩ := opBf_inv (nm := "repr") h
    exact z_callB B rfl (cl_repr B.gd (by omega)) (by decide +kernel) (by decide +kernel) (by decide) (by decide) g ne (J _ hl)
  | lstRng => exact (opBf_none (sc := X.env.scope) (l := (ck nx as X.env.scope).l) (e := e) h).elim
  | sorted =>
    obtain ⟨p, args, pos, rfl, g, ne, hl⟩ := opBf_inv (nm := "sorted") h
    exact z_callB B rfl cl_sorted (by decide +kernel) (by decide +kernel) (by decide) (by decide) g ne (J _ hl)
  | str1 =>
    obtain ⟨p, args, pos, rfl, g, ne, hl⟩ := opBf_inv (nm := "str") h
    exact z_callTy B rfl cl_str1 (by decide +kernel) (by decide +kernel) (by decide) (by decide) g ne (J _ hl)
  | minL =>
    obtain ⟨p, args, pos, rfl, g, ne, hl⟩ := opBf_inv (nm := "min") h
    exact z_callB B rfl (cl_minL B.calm) (by decide +kernel) (by decide +kernel) (by decide) (by decide) g ne (J _ hl)
  | maxL =>
    obtain ⟨p, args, pos, rfl, g, ne, hl⟩ := opBf_inv (nm := "max") h
    exact z_callB B rfl (cl_maxL B.calm) (by decide +kernel) (by decide +kernel) (by decide) (by decide) g ne (J _ hl)
theorem rs_int {F H : Hp} {σ : L2.St} {n : En} {v : V} {p : P} {i : Int} (s : SO X.K F H σ n) (pv : pv1 X.K F σ v p) (e : rs n p = some (.int i)) : v = .int i := (rs_ok s pv e).int
theorem z_slc {a b c : En → Ou P} {x y z : PySem.Expr} {p2 pos : Pos} (ha : PE X x (tz (rP X.K) (kk X X9 W) a)) (hb : PE X y (tz (rP X.K) (kk X X9 W) b)) (hc : PE X z (tz (rP X.K) (kk X X9 W) c)) :
    PE X (.Subscript x (.Slice (some y) (some z) none p2) pos) (tz (rV X.K) (kk X X9 W) (zSlc a b c)) := by
  refine PE.imp (pe_slice sl_Z ha (po_some hb) (po_some hc)) ?_
  rintro σ H Q ⟨F, n, s, q⟩
  refine ⟨F, n, s, Po.mono (Po.bd (ρ' := rP X.K) q) ?_⟩
  rintro v H1 ⟨F1, n1, p, s1, t1, pv, q⟩
  refine ⟨F1, n1, s1, Po.mono (Po.bd (ρ' := rP X.K) q) ?_⟩
  rintro w H2 ⟨F2, n2, p2, s2, t2, pw, q⟩
  split at q
  · rename_i i ei
    refine ⟨i, rs_int s2 pw ei, F2, n2, s2, Po.mono (Po.bd (ρ' := rP X.K) q) ?_⟩
    rintro u H3 ⟨F3, n3, p3, s3, t3, pu, q⟩
    split at q
    · rename_i d j e1 e2
      obtain ⟨res, e, q9⟩ := Po.of q
      exact ⟨j, rs_int s3 pu e2, F3, d, res, s3.sub, rs_ok s3 (pv1_mono (t2.f.trans t3.f) pv) e1, e, q9.res s3⟩
    · exact q.elim
  · exact q.elim
theorem cmp_sem {F H : Hp} {v w : V} {x y : D} {o : COp} {b : Bool} {Q : VK} (sm : Same F H) (dx : Dq X.K F H v x) (dy : Dq X.K F H w y) (e : cmpD o x y = some b) (q : Q (.bl b) H) : rCmp X.K o v w H Q := ⟨F, x, y, b, sm, dx, dy, e, q⟩
theorem z_chain {a b c : En → Ou P} {o1 o2 : COp} {σ : L2.St} {H : Hp} {Q : V → Hp → Prop} (q : tz (rV X.K) (kk X X9 W) (zChn o1 o2 a b c) σ H Q) :
    tChain (rCmp X.K o1) (rCmp X.K o2) (tz (rP X.K) (kk X X9 W) a) (tz (rP X.K) (kk X X9 W) b) (tz (rP X.K) (kk X X9 W) c) σ H Q := by
  obtain ⟨F, n, s, q⟩ := q
  refine ⟨F, n, s, Po.mono (Po.bd (ρ' := rP X.K) q) ?_⟩
  rintro v H1 ⟨F1, n1, p, s1, t1, pv, q⟩
  refine ⟨F1, n1, s1, Po.mono (Po.bd (ρ' := rP X.K) q) ?_⟩
  rintro w H2 ⟨F2, n2, p2, s2, t2, pw, q⟩
  split at q
  · rename_i x y ex ey
    split at q
    · rename_i e1
      refine cmp_sem s2.sub (rs_ok s2 (pv1_mono t2.f pv) ex) (rs_ok s2 pw ey) e1 ⟨true, rfl, ?_⟩
      rw [if_pos rfl]
      refine ⟨F2, n2, s2, Po.mono (Po.bd (ρ' := rP X.K) q) ?_⟩
      rintro u H3 ⟨F3, n3, p3, s3, t3, pu, q⟩
      split at q
      · rename_i y' z ey' ez
        obtain ⟨res, e, q9⟩ := Po.of q
        cases e2 : cmpD o2 y' z with
        | none => rw [e2] at e; cases e
        | some k =>
          rw [e2] at e; cases e
          exact cmp_sem s3.sub (rs_ok s3 (pv1_mono t3.f pw) ey') (rs_ok s3 pu ez) e2 ((q9.res s3).bl s3.sub)
      · exact q.elim
    · rename_i e1
      refine cmp_sem s2.sub (rs_ok s2 (pv1_mono t2.f pv) ex) (rs_ok s2 pw ey) e1 ⟨false, rfl, ?_⟩
      rw [if_neg Bool.false_ne_true]
      exact (Po.res s2 q).bl s2.sub
    · exact q.elim
  · exact q.elim
/-- three comparisons in a row -/
def tCh3 (r1 r2 r3 : R2) (ta tb tc td : TE) : TE := fun σ H Q => ta σ H fun x H1 => tb σ H1 fun y H2 => r1 x y H2 fun z H3 => ∃ k, z = .bl k ∧
  (if k = true then tc σ H3 fun w H4 => r2 y w H4 fun z2 H5 => ∃ k2, z2 = .bl k2 ∧ (if k2 = true then td σ H5 fun u H6 => r3 w u H6 Q else Q (.bl false) H5) else Q (.bl false) H3)
theorem pe_ch3 {o1 o2 o3 : CmpOp} {r1 r2 r3 : R2} {a b c d : PySem.Expr} {ta tb tc td : TE} {pos : Pos} (h1 : OpR X (compareOp o1) r1) (h2 : OpR X (compareOp o2) r2) (h3 : OpR X (compareOp o3) r3) (ha : PE X a ta) (hb : PE X b tb) (hc : PE X c tc) (hd : PE X d td)
    (hm : lastMarks [o1, o2, o3] [b, c, d] = false) : PE X (.Compare a [o1, o2, o3] [b, c, d] pos) (tCh3 r1 r2 r3 ta tb tc td) := by
  constructor
  intro pins s σ H Q I h
  refine Compare_chain ?_ hm
  refine thn (ha.run pins s σ H _ I h) ?_
  rintro v s1 ⟨x, H1, I1, e1, q⟩
  refine chain_link (thn (hb.run pins s1 σ H1 _ I1 q) ?_)
  rintro u s2 ⟨y, H2, I2, e2, q⟩
  refine thn (h1 pins s2 σ H2 x y v u _ I2 e1 e2 q) ?_
  rintro b1 s3 ⟨z, H3, I3, e3, k, rfl, q⟩
  cases e3
  refine wpAny_truthy_bool ?_
  cases k with
  | false => exact ite_ff ⟨.bl false, H3, I3, rfl, q⟩
  | true =>
    rw [if_pos rfl] at q
    refine ite_tt (chain_link (thn (hc.run pins s3 σ H3 _ I3 q) ?_))
    rintro w s4 ⟨w', H4, I4, e4, q⟩
    refine thn (h2 pins s4 σ H4 y w' u w _ I4 e2 e4 q) ?_
    rintro b2 s5 ⟨z2, H5, I5, e5, k2, rfl, q⟩
    cases e5
    refine wpAny_truthy_bool ?_
    cases k2 with
    | false => exact ite_ff ⟨.bl false, H5, I5, rfl, q⟩
    | true =>
      rw [if_pos rfl] at q
      refine ite_tt (chain_last (thn (hd.run pins s5 σ H5 _ I5 q) ?_))
      rintro t s6 ⟨t', H6, I6, e6, q⟩
      exact h3 pins s6 σ H6 w' t' w t Q I6 e4 e6 q
theorem pt_ch3 {o1 o2 o3 : CmpOp} {r1 r2 r3 : R2} {a b c d : PySem.Expr} {ta tb tc td : TE} {pos : Pos} (h1 : OpR X (compareOp o1) r1) (h2 : OpR X (compareOp o2) r2) (h3 : OpR X (compareOp o3) r3) (ha : PE X a ta) (hb : PE X b tb) (hc : PE X c tc) (hd : PE X d td)
    (hm : lastMarks [o1, o2, o3] [b, c, d] = false) : PT X (.Compare a [o1, o2, o3] [b, c, d] pos) (tTest (tCh3 r1 r2 r3 ta tb tc td)) := by
  constructor
  intro pins s σ H Q I h
  refine isTrue_chain ?_ hm
  refine thn (ha.run pins s σ H _ I h) ?_
  rintro v s1 ⟨x, H1, I1, e1, q⟩
  refine test_link (thn (hb.run pins s1 σ H1 _ I1 q) ?_)
  rintro u s2 ⟨y, H2, I2, e2, q⟩
  refine thn (h1 pins s2 σ H2 x y v u _ I2 e1 e2 q) ?_
  rintro b1 s3 ⟨z, H3, I3, e3, k, rfl, q⟩
  cases e3
  refine wpAny_truthy_bool ?_
  cases k with
  | false =>
    obtain ⟨k', e', q'⟩ := q
    cases e'
    exact ite_ff ⟨H3, I3, q'⟩
  | true =>
    rw [if_pos rfl] at q
    refine ite_tt (test_link (thn (hc.run pins s3 σ H3 _ I3 q) ?_))
    rintro w s4 ⟨w', H4, I4, e4, q⟩
    refine thn (h2 pins s4 σ H4 y w' u w _ I4 e2 e4 q) ?_
    rintro b2 s5 ⟨z2, H5, I5, e5, k2, rfl, q⟩
    cases e5
    refine wpAny_truthy_bool ?_
    cases k2 with
    | false =>
      obtain ⟨k', e', q'⟩ := q
      cases e'
      exact ite_ff ⟨H5, I5, q'⟩
    | true =>
      rw [if_pos rfl] at q
      refine ite_tt (test_last (thn (hd.run pins s5 σ H5 _ I5 q) ?_))
      rintro t s6 ⟨t', H6, I6, e6, q⟩
      refine thn (h3 pins s6 σ H6 w' t' w t _ I6 e4 e6 q) ?_
      rintro b3 s7 ⟨z3, H7, I7, e7, k3, rfl, q⟩
      cases e7
      exact wpAny_truthy_bool ⟨H7, I7, q⟩
theorem z_ch3 {a b c d : En → Ou P} {o1 o2 o3 : COp} {σ : L2.St} {H : Hp} {Q : V → Hp → Prop} (q : tz (rV X.K) (kk X X9 W) (zChn3 o1 o2 o3 a b c d) σ H Q) :
    tCh3 (rCmp X.K o1) (rCmp X.K o2) (rCmp X.K o3) (tz (rP X.K) (kk X X9 W) a) (tz (rP X.K) (kk X X9 W) b) (tz (rP X.K) (kk X X9 W) c) (tz (rP X.K) (kk X X9 W) d) σ H Q := by
  obtain ⟨F, n, s, q⟩ := q
  refine ⟨F, n, s, Po.mono (Po.bd (ρ' := rP X.K) q) ?_⟩
  rintro v H1 ⟨F1, n1, p, s1, t1, pv, q⟩
  refine ⟨F1, n1, s1, Po.mono (Po.bd (ρ' := rP X.K) q) ?_⟩
  rintro w H2 ⟨F2, n2, p2, s2, t2, pw, q⟩
  split at q
  · rename_i x y ex ey
    split at q
    · rename_i e1
      refine cmp_sem s2.sub (rs_ok s2 (pv1_mono t2.f pv) ex) (rs_ok s2 pw ey) e1 ⟨true, rfl, ?_⟩
      rw [if_pos rfl]
      refine ⟨F2, n2, s2, Po.mono (Po.bd (ρ' := rP X.K) q) ?_⟩
      rintro u H3 ⟨F3, n3, p3, s3, t3, pu, q⟩
      split at q
      · rename_i y' z ey' ez
        split at q
        · rename_i e2
          refine cmp_sem s3.sub (rs_ok s3 (pv1_mono t3.f pw) ey') (rs_ok s3 pu ez) e2 ⟨true, rfl, ?_⟩
          rw [if_pos rfl]
          refine ⟨F3, n3, s3, Po.mono (Po.bd (ρ' := rP X.K) q) ?_⟩
          rintro t H4 ⟨F4, n4, p4, s4, t4, pt, q⟩
          split at q
          · rename_i z' k ez' ek
            obtain ⟨res, e, q9⟩ := Po.of q
            cases e3 : cmpD o3 z' k with
            | none => rw [e3] at e; cases e
            | some j =>
              rw [e3] at e; cases e
              exact cmp_sem s4.sub (rs_ok s4 (pv1_mono t4.f pu) ez') (rs_ok s4 pt ek) e3 ((q9.res s4).bl s4.sub)
          · exact q.elim
        · rename_i e2
          refine cmp_sem s3.sub (rs_ok s3 (pv1_mono t3.f pw) ey') (rs_ok s3 pu ez) e2 ⟨false, rfl, ?_⟩
          rw [if_neg Bool.false_ne_true]
          exact (Po.res s3 q).bl s3.sub
        · exact q.elim
      · exact q.elim
    · rename_i e1
      refine cmp_sem s2.sub (rs_ok s2 (pv1_mono t2.f pv) ex) (rs_ok s2 pw ey) e1 ⟨false, rfl, ?_⟩
      rw [if_neg Bool.false_ne_true]
      exact (Po.res s2 q).bl s2.sub
    · exact q.elim
  · exact q.elim
/-! ## list(range(..)) -/
theorem rg_dz {K : PySem.W.Frag} {F : Hp} {i j : Int} : DzAll K F (rgV i j) (rangeD i j) := by
  unfold rgV rangeD
  have h : ∀ l : List Nat, DzAll K F (l.map fun i_1 => V.int (i + ((i_1 : Nat) : Int))) (l.map fun i_1 => PyData.int (i + ((i_1 : Nat) : Int))) := fun l => by
    induction l with
    | nil => exact .nil
    | cons x r ih => exact .cons (.int _) ih
  exact h _
theorem z_lrg1 {a : E} {p : PySem.Expr} {wp pp pos pos2 : Pos} (B : Bd nx T C X9 lv X W) (g0 : glB X.env.scope "list" = true) (g : glB X.env.scope "range" = true) (ns : notStar p = true) (h : PE X p (tz (rP X.K) (kk X X9 W) (opd a (ev T C a).e))) :
    PE X (.Call (.Name "list" wp) [.Call (.Name "range" pp) [p] [] pos] [] pos2) (tz (rV X.K) (kk X X9 W) (zLrg1 (opd a (ev T C a).e))) := by
  refine PE.imp (pe_listRg B.calm (gl_ok g0).1 (B.bi _ (by decide +kernel)) (prg_1 (gl_ok g).1 (B.bi _ (by decide +kernel)) h (star_ok ns))) ?_
  rintro σ H Q ⟨F, n, s, q⟩
  refine ⟨F, n, s, Po.mono (Po.bd (ρ' := rP X.K) q) ?_⟩
  rintro v H1 ⟨F1, n1, p, s1, t1, pv, q⟩
  split at q
  · rename_i i ei
    refine ⟨i, rs_int s1 pv ei, ?_⟩
    by_cases hr : (rngOk i && decide (i.toNat ≤ 16777216)) = true
    · rw [if_pos hr] at q
      obtain ⟨h1, h2⟩ := ba hr
      obtain ⟨r1, r2⟩ := of_decide_eq_true h1
      have r3 := of_decide_eq_true h2
      refine ⟨⟨by omega, by omega, r1, r2, by rw [Int.sub_zero]; omega⟩, fun a ha => ?_⟩
      exact (Po.res s1 q).lst s1.sub rg_dz ha
    · rw [if_neg hr] at q; exact q.elim
  · exact q.elim
theorem z_lrg2 {a b : E} {p p2 : PySem.Expr} {wp pp pos pos2 : Pos} (B : Bd nx T C X9 lv X W) (g0 : glB X.env.scope "list" = true) (g : glB X.env.scope "range" = true) (ns : notStar p = true) (ns2 : notStar p2 = true) (h : PE X p (tz (rP X.K) (kk X X9 W) (opd a (ev T C a).e)))
    (h2 : PE X p2 (tz (rP X.K) (kk X X9 W) (opd b (ev T C b).e))) :
    PE X (.Call (.Name "list" wp) [.Call (.Name "range" pp) [p, p2] [] pos] [] pos2) (tz (rV X.K) (kk X X9 W) (zLrg2 (opd a (ev T C a).e) (opd b (ev T C b).e))) := by
  refine PE.imp (pe_listRg B.calm (gl_ok g0).1 (B.bi _ (by decide +kernel)) (prg_2 (gl_ok g).1 (B.bi _ (by decide +kernel)) h h2 (by rw [star_ok ns]) (star_ok ns2) (by rw [star_ok ns2]; rfl))) ?_
  rintro σ H Q ⟨F, n, s, q⟩
  refine ⟨F, n, s, Po.mono (Po.bd (ρ' := rP X.K) q) ?_⟩
  rintro v H1 ⟨F1, n1, p, s1, t1, pv, q⟩
  refine ⟨F1, n1, s1, Po.mono (Po.bd (ρ' := rP X.K) q) ?_⟩
  rintro w H2 ⟨F2, n2, p2, s2, t2, pw, q⟩
  split at q
  · rename_i i j ei ej
    refine ⟨i, j, rs_int s2 (pv1_mono t2.f pv) ei, rs_int s2 pw ej, ?_⟩
    by_cases hr : (rngOk i && (rngOk j && decide ((j - i).toNat ≤ 16777216))) = true
    · rw [if_pos hr] at q
      obtain ⟨h1, h2⟩ := ba hr
      obtain ⟨h3, h4⟩ := ba h2
      obtain ⟨r1, r2⟩ := of_decide_eq_true h1
      obtain ⟨r3, r4⟩ := of_decide_eq_true h3
      have r5 := of_decide_eq_true h4
      refine ⟨⟨r1, r2, r3, r4, by omega⟩, fun a ha => ?_⟩
      exact (Po.res s2 q).lst s2.sub rg_dz ha
    · rw [if_neg hr] at q; exact q.elim
  · exact q.elim
/-- a test by its value, a bool -/
theorem t_of_v {f : En → Ou R} (hb : ∀ n r n', f n = .ok r n' → ∃ b, r = dbl b) {σ : L2.St} {H : Hp} {Q : Bool → Hp → Prop} (q : tz rB (kk X X9 W) (fun n => (f n).bd fun r n1 => .of (truD r.d) n1) σ H Q) :
    tz (rV X.K) (kk X X9 W) f σ H fun v H' => ∃ b, v = .bl b ∧ Q b H' := by
  obtain ⟨F, n, s, q⟩ := q
  refine ⟨F, n, s, ?_⟩
  dsimp only at q
  cases z : f n with
  | st => rw [z] at q; exact q
  | ex c d n' => rw [z] at q; exact q
  | ok r n' =>
    rw [z] at q
    obtain ⟨b, rfl⟩ := hb n r n' z
    intro v F' H' s' t' x
    have x : Dz X.K F' v (.bool b) := x
    cases x
    exact ⟨b, rfl, q b F' H' s' t' rfl⟩
theorem tru_D {K : PySem.W.Frag} {F H : Hp} {v : V} {d : D} {b : Bool} (sm : Same F H) (h : Dq K F H v d) (e : truD d = some b) : TruV K v H b := by
  cases d with
  | none => rw [h.none]; cases e; rfl
  | bool k => rw [h.bool]; cases e; rfl
  | int i => rw [h.int]; cases e; rfl
  | str x => rw [h.str]; obtain ⟨h1, h2⟩ := ite_some e; exact ⟨fitL_ok h1, h2.symm⟩
  | list ds =>
    obtain ⟨a, xs, rfl, ha, dxs⟩ := h.lst sm
    cases e
    refine .inl ⟨xs, .inl ha, ?_⟩
    have := dpAll_len dxs
    cases xs <;> cases ds <;> first | rfl | (simp at this)
  | tuple ds =>
    obtain ⟨a, xs, rfl, ha, dxs⟩ := h.tup
    cases e
    refine .inr (.inl ⟨xs, sqT_mono sm ha, ?_⟩)
    have := dpAll_len dxs
    cases xs <;> cases ds <;> first | rfl | (simp at this)
  | dict _ => cases e
/-- a test by its value's truth -/
theorem z_truth {f : En → Ou R} {x : PySem.Expr} (h : PE X x (tz (rV X.K) (kk X X9 W) f)) (pl : plainT x = true) : PT X x (tz rB (kk X X9 W) fun n => (f n).bd fun r n1 => .of (truD r.d) n1) := by
  refine PT.imp (pt_truth h (isTrue_ok pl)) ?_
  rintro σ H Q ⟨F, n, s, q⟩
  refine ⟨F, n, s, ?_⟩
  dsimp only at q
  cases z : f n with
  | st => rw [z] at q; exact q
  | ex c d n' => rw [z] at q; exact q
  | ok r n' =>
    rw [z] at q
    have q : Po rB (kk X X9 W) (Ou.of (truD r.d) n') σ F H n Q := q
    obtain ⟨b, e, q9⟩ := Po.of q
    intro v F' H' s' t' x
    refine ⟨b, ?_, q9 b F' H' s' t' rfl⟩
    cases r with
    | fr d => exact tru_D s'.sub (.inl x) e
    | nw d => obtain ⟨a, rfl, m, _⟩ := x; exact tru_D s'.sub (.inr ⟨a, rfl, m⟩) e
/-- what a value gives to a walk -/
theorem z_walk {f : En → Ou R} {x tg : PySem.Expr} (h : PE X x (tz (rV X.K) (kk X X9 W) f)) : PI X tg x (tz (rI X.K) (kk X X9 W) fun n => (f n).bd fun r n1 => .of (seqD r.d) n1) := by
  refine PI.imp (pi_seqZ h) ?_
  rintro σ H Q ⟨F, n, s, q⟩
  refine ⟨F, n, s, ?_⟩
  dsimp only at q
  cases z : f n with
  | st => rw [z] at q; exact q
  | ex c d n' => rw [z] at q; exact q
  | ok r n' =>
    rw [z] at q
    have q : Po (rI X.K) (kk X X9 W) (Ou.of (seqD r.d) n') σ F H n Q := q
    obtain ⟨xs, e, q9⟩ := Po.of q
    intro v F' H' s' t' x
    have fin : ∀ F2, SO X.K F2 H' σ n' → Step σ F H n F2 H' n' → Dz X.K F2 v r.d → ∃ a, v = .ref a ∧ (((∃ xs, SqL X.K H' a xs) ∧ Q (Itl X.K a) H') ∨ ((∃ xs, SqT X.K H' a xs) ∧ Q (Itt X.K a) H')) := by
      intro F2 s2 t2 dv
      cases hd : r.d with
      | list ds =>
        rw [hd] at e dv; cases e
        cases dv with
        | lst a b => exact ⟨_, rfl, .inl ⟨⟨_, .inl (rd_mono s2.sub a)⟩, q9 _ F2 H' s2 t2 (it_list a b)⟩⟩
      | tuple ds =>
        rw [hd] at e dv; cases e
        cases dv with
        | tup a b => exact ⟨_, rfl, .inr ⟨⟨_, sqT_mono s2.sub a⟩, q9 _ F2 H' s2 t2 (it_tup a b)⟩⟩
      | none => rw [hd] at e; cases e
      | bool _ => rw [hd] at e; cases e
      | int _ => rw [hd] at e; cases e
      | str _ => rw [hd] at e; cases e
      | dict _ => rw [hd] at e; cases e
    cases r with
    | fr d => exact fin F' s' t' x
    | nw d =>
      obtain ⟨a, rfl, m, hn⟩ := x
      obtain ⟨F2, s2, t2, d2, _⟩ := frz_so s s' t' m hn
      exact fin F2 s2 t2 d2
theorem z_and {a b : En → Ou R} {x y : PySem.Expr} {rest : List PySem.Expr} {pos : Pos} (ha : PE X x (tz (rV X.K) (kk X X9 W) a)) (hb : PE X (.BoolOp .And (y :: rest) pos) (tz (rV X.K) (kk X X9 W) b)) :
    PE X (.BoolOp .And (x :: y :: rest) pos) (tz (rV X.K) (kk X X9 W) (zAnd a b)) := by
  refine PE.imp (pe_and ha hb) ?_
  rintro σ H Q ⟨F, n, s, q⟩
  refine ⟨F, n, s, Po.mono (Po.bd (ρ' := rV X.K) q) ?_⟩
  rintro v H1 ⟨F1, n1, r, s1, t1, dv, q⟩
  split at q
  · have dv : Dz X.K F1 v (.bool true) := dv
    cases dv
    exact ⟨true, rfl, by rw [if_pos rfl]; exact ⟨F1, n1, s1, q⟩⟩
  · have dv : Dz X.K F1 v (.bool false) := dv
    cases dv
    exact ⟨false, rfl, by rw [if_neg Bool.false_ne_true]; exact (Po.res s1 q).bl s1.sub⟩
  · exact q.elim
theorem z_or {a b : En → Ou R} {x y : PySem.Expr} {rest : List PySem.Expr} {pos : Pos} (ha : PE X x (tz (rV X.K) (kk X X9 W) a)) (hb : PE X (.BoolOp .Or (y :: rest) pos) (tz (rV X.K) (kk X X9 W) b)) :
    PE X (.BoolOp .Or (x :: y :: rest) pos) (tz (rV X.K) (kk X X9 W) (zOr a b)) := by
  refine PE.imp (pe_or ha hb) ?_
  rintro σ H Q ⟨F, n, s, q⟩
  refine ⟨F, n, s, Po.mono (Po.bd (ρ' := rV X.K) q) ?_⟩
  rintro v H1 ⟨F1, n1, r, s1, t1, dv, q⟩
  split at q
  · have dv : Dz X.K F1 v (.bool false) := dv
    cases dv
    exact ⟨false, rfl, by rw [if_neg Bool.false_ne_true]; exact ⟨F1, n1, s1, q⟩⟩
  · have dv : Dz X.K F1 v (.bool true) := dv
    cases dv
    exact ⟨true, rfl, by rw [if_pos rfl]; exact (Po.res s1 q).bl s1.sub⟩
  · exact q.elim
theorem z_not {a : En → Ou R} {x : PySem.Expr} {pos : Pos} (ha : PE X x (tz (rV X.K) (kk X X9 W) a)) : PE X (.UnaryOp .Not x pos) (tz (rV X.K) (kk X X9 W) (zNot a)) := by
  refine PE.imp (pe_not ha) ?_
  rintro σ H Q ⟨F, n, s, q⟩
  refine ⟨F, n, s, Po.mono (Po.bd (ρ' := rV X.K) q) ?_⟩
  rintro v H1 ⟨F1, n1, r, s1, t1, dv, q⟩
  split at q
  · rename_i b
    have dv : Dz X.K F1 v (.bool b) := dv
    cases dv
    exact ⟨b, rfl, (Po.res s1 q).bl s1.sub⟩
  · exact q.elim
theorem t_and {a b : En → Ou Bool} {σ : L2.St} {H : Hp} {Q : Bool → Hp → Prop} (q : tz rB (kk X X9 W) (fun n => (a n).bd fun k n1 => if k then b n1 else .ok false n1) σ H Q) : tAnd (tz rB (kk X X9 W) a) (tz rB (kk X X9 W) b) σ H Q := by
  obtain ⟨F, n, s, q⟩ := q
  refine ⟨F, n, s, Po.mono (Po.bd (ρ' := rB) q) ?_⟩
  rintro v H1 ⟨F1, n1, r, s1, t1, rfl, q⟩
  cases v with
  | true => rw [if_pos rfl]; rw [if_pos rfl] at q; exact ⟨F1, n1, s1, q⟩
  | false => rw [if_neg Bool.false_ne_true]; rw [if_neg Bool.false_ne_true] at q; exact q false F1 H1 s1 Step.refl rfl
theorem t_or {a b : En → Ou Bool} {σ : L2.St} {H : Hp} {Q : Bool → Hp → Prop} (q : tz rB (kk X X9 W) (fun n => (a n).bd fun k n1 => if k then .ok true n1 else b n1) σ H Q) : tOr (tz rB (kk X X9 W) a) (tz rB (kk X X9 W) b) σ H Q := by
  obtain ⟨F, n, s, q⟩ := q
  refine ⟨F, n, s, Po.mono (Po.bd (ρ' := rB) q) ?_⟩
  rintro v H1 ⟨F1, n1, r, s1, t1, rfl, q⟩
  cases v with
  | true => rw [if_pos rfl]; rw [if_pos rfl] at q; exact q true F1 H1 s1 Step.refl rfl
  | false => rw [if_neg Bool.false_ne_true]; rw [if_neg Bool.false_ne_true] at q; exact ⟨F1, n1, s1, q⟩
theorem t_not {a : En → Ou Bool} {σ : L2.St} {H : Hp} {Q : Bool → Hp → Prop} (q : tz rB (kk X X9 W) (fun n => (a n).bd fun k n1 => .ok (!k) n1) σ H Q) : tNot (tz rB (kk X X9 W) a) σ H Q := by
  obtain ⟨F, n, s, q⟩ := q
  refine ⟨F, n, s, Po.mono (Po.bd (ρ' := rB) q) ?_⟩
  rintro v H1 ⟨F1, n1, r, s1, t1, rfl, q⟩
  exact q _ F1 H1 s1 Step.refl rfl
theorem t_ife {t : En → Ou Bool} {a b : En → Ou R} {σ : L2.St} {H : Hp} {Q : V → Hp → Prop} (q : tz (rV X.K) (kk X X9 W) (fun n => (t n).bd fun k n1 => if k then a n1 else b n1) σ H Q) :
    tIf (tz rB (kk X X9 W) t) (tz (rV X.K) (kk X X9 W) a) (tz (rV X.K) (kk X X9 W) b) σ H Q := by
  obtain ⟨F, n, s, q⟩ := q
  refine ⟨F, n, s, Po.mono (Po.bd (ρ' := rB) q) ?_⟩
  rintro v H1 ⟨F1, n1, r, s1, t1, rfl, q⟩
  cases v with
  | true => rw [if_pos rfl]; rw [if_pos rfl] at q; exact ⟨F1, n1, s1, q⟩
  | false => rw [if_neg Bool.false_ne_true]; rw [if_neg Bool.false_ne_true] at q; exact ⟨F1, n1, s1, q⟩
theorem pw_of_pt {op : BoolOp} {vs : List PySem.Expr} {pos : Pos} {t : TT} (h : PT X (.BoolOp op vs pos) t) : PW X (.BoolOp op vs pos) t := ⟨fun wh pins s σ H Q I q => h.run pins s σ H Q I q⟩
/-- a call of a def -/
theorem z_call {f : Nat} {as : E} {args : List PySem.Expr} {x : Str} {p pos : Pos} (B : Bd nx T C X9 lv X W) (hx : nx.fn[f]? = some x) (g : glB X.env.scope x = true) (J : AllJ T C (kk X X9 W) X as args) :
    PE X (.Call (.Name x p) args [] pos) (tz (rV X.K) (kk X X9 W) (zCall (T f) (ev T C as).l)) := by
  cases hT : T f with
  | none =>
    refine ⟨fun pins s σ H Q I q => ?_⟩
    obtain ⟨F, n, s0, q⟩ := q
    exact q.elim
  | some mf =>
    obtain ⟨m, fm⟩ := mf
    obtain ⟨y, a, fd, ps, hps, e1, e2, e3, e4, e5⟩ := B.fn f m fm hT
    rw [hx] at e1; cases e1
    have main : ∀ σ H (Q : VK), tz (rV X.K) (kk X X9 W) (zCall (some (m, fm)) (ev T C as).l) σ H Q → tCallS (spOf X.K X9 m fm) (fun σ c d H => W c d σ H) (tz (rL X.K) (kk X X9 W) (ev T C as).l) σ H Q := by
      rintro σ H Q ⟨F, n, s, q⟩
      refine ⟨F, n, s, Po.mono (Po.bd (ρ' := rL X.K) q) ?_⟩
      rintro vs H1 ⟨F1, n1, qs, s1, t1, pv, q⟩
      by_cases hl : qs.length = m
      · rw [if_pos hl] at q
        split at q
        · rename_i ss es2
          by_cases nd : (ioIx qs).Nodup
          · rw [if_pos nd] at q
            exact call_po (k := kk X X9 W) (by rw [psOk_len pv]; exact hl) s1 pv es2 nd q
          · rw [if_neg nd] at q; exact q.elim
        · exact q.elim
      · rw [if_neg hl] at q; exact q.elim
    obtain ⟨g1, g2⟩ := gl_ok g
    cases args with
    | nil =>
      refine PE.imp (pe_callG0 e5 B.gd B.room g1 e2 e3 e4 B.tk g2) fun σ H Q q => ?_
      obtain ⟨F, n, s, q9⟩ := main σ H Q q
      rw [allJ_nil J] at q9
      exact q9 [] F H s Step.refl .nil
    | cons e es =>
      have st := allJ_star J
      obtain ⟨s1, s2⟩ := Bool.and_eq_true_iff.mp (show (notStar e && es.all notStar) = true from st)
      exact PE.imp (pe_callG e5 B.gd B.room g1 e2 e3 e4 B.tk (pa_all rfl J) g2 (star_ok s1) (pl_ok s2)) main
end
end Z

set_option Elab.async false
set_option linter.all false
set_option maxRecDepth 100000
set_option maxHeartbeats 8000000
namespace Z
open PySem PySem.Spec PyProof.Rows L2

/-! ## targets -/
section
variable {nx : Nx} {X : Cx} {loc : Str → Bool}
theorem pgs_tg (eN : X.N = nx.N) (nd : X.N.Nodup) (hl : ∀ y, loc y = true → Loc X.env.scope y ∧ (X.fn y = true ∨ X.env.scope.names.lookup y = some .local)) : ∀ {is : List Nat} {es : List PySem.Expr}, tgNamesB nx loc is es = true →
    PGs X es (gsOf is) ∧ (assignEach es X.env).length = is.length ∧ (assignEach es X.env).findIdx? (·.1) = none
  | [], [], _ => ⟨pgs_nil, rfl, rfl⟩
  | [], e :: es, h => by cases h
  | i :: is, [], h => by cases h
  | i :: is, e :: es, h => by
    cases e <;> try (cases h; done)
    rename_i x pos
    obtain ⟨h1, h2⟩ := ba (show (decide (nx.N[i]? = some x) && (loc x && tgNamesB nx loc is es)) = true from h)
    obtain ⟨h2, h3⟩ := ba h2
    obtain ⟨a, b, c⟩ := pgs_tg eN nd hl h3
    obtain ⟨l1, l2⟩ := hl x h2
    refine ⟨pgs_cons (pg_name nd (by rw [eN]; exact of_decide_eq_true h1) l1 l2) a rfl, ?_, ?_⟩
    · show (assignEach es X.env).length + 1 = is.length + 1
      rw [b]
    · show List.findIdx? _ ((false, _) :: assignEach es X.env) = none
      rw [List.findIdx?_cons]
      simp [c]
theorem pg_tg {tg : Tg} {e : PySem.Expr} (hc : X.calm = true) (eN : X.N = nx.N) (nd : X.N.Nodup) (hl : ∀ y, loc y = true → Loc X.env.scope y ∧ (X.fn y = true ∨ X.env.scope.names.lookup y = some .local)) (h : tgB nx loc tg e = true) : PG X e (gTg X.K tg) := by
  cases tg with
  | nm i =>
    cases e <;> try (cases h; done)
    rename_i x pos
    obtain ⟨h1, h2⟩ := ba (show (decide (nx.N[i]? = some x) && loc x) = true from h)
    obtain ⟨l1, l2⟩ := hl x h2
    exact pg_name nd (by rw [eN]; exact of_decide_eq_true h1) l1 l2
  | tp is =>
    cases e <;> try (cases h; done)
    obtain ⟨a, b, c⟩ := pgs_tg eN nd hl (show tgNamesB nx loc is _ = true from h)
    exact pg_tup hc a b c
end

section
variable {nx : Nx} {T : Tb} {C : Nat → Option D} {X9 : Nat → Addr × Str} {lv : Nat} {X : Cx} {W : WX}
/-! ## tests that give bools -/
theorem of_ok {α : Type} {o : Option α} {n n' : En} {a : α} (h : Ou.of o n = .ok a n') : o = some a := by
  cases o with
  | none => cases h
  | some b => cases h; rfl
theorem cmp_bool {c : COp} {l : En → Ou (List P)} {n n' : En} {r : R} (h : zOp (.cmp c) l n = .ok r n') : ∃ b, r = dbl b := by
  obtain ⟨ps, n1, e1, h⟩ := bd_ok h
  split at h
  · rename_i ds es
    have h := of_ok h
    rcases ds with _ | ⟨x, _ | ⟨y, _ | ⟨z, ds⟩⟩⟩
    · cases h
    · cases h
    · have h : (cmpD c x y).map dbl = some r := h
      cases z : cmpD c x y with
      | none => rw [z] at h; cases h
      | some b => rw [z] at h; cases h; exact ⟨b, rfl⟩
    · cases h
  · cases h
theorem map_dbl {o : Option Bool} {r : R} (h : o.map dbl = some r) : ∃ b, r = dbl b := by
  cases o with
  | none => cases h
  | some b => cases h; exact ⟨b, rfl⟩
theorem chn_bool {o1 o2 : COp} {a b c : En → Ou P} {n n' : En} {r : R} (h : zChn o1 o2 a b c n = .ok r n') : ∃ b, r = dbl b := by
  obtain ⟨p, n1, e1, h⟩ := bd_ok h
  obtain ⟨q, n2, e2, h⟩ := bd_ok h
  split at h
  · split at h
    · obtain ⟨s, n3, e3, h⟩ := bd_ok h
      split at h
      · exact map_dbl (of_ok h)
      · cases h
    · cases h; exact ⟨false, rfl⟩
    · cases h
  · cases h
theorem chn3_bool {o1 o2 o3 : COp} {a b c d : En → Ou P} {n n' : En} {r : R} (h : zChn3 o1 o2 o3 a b c d n = .ok r n') : ∃ b, r = dbl b := by
  obtain ⟨p, n1, e1, h⟩ := bd_ok h
  obtain ⟨q, n2, e2, h⟩ := bd_ok h
  split at h
  · split at h
    · obtain ⟨s, n3, e3, h⟩ := bd_ok h
      split at h
      · split at h
        · obtain ⟨t, n4, e4, h⟩ := bd_ok h
          split at h
          · exact map_dbl (of_ok h)
          · cases h
        · cases h; exact ⟨false, rfl⟩
        · cases h
      · cases h
    · cases h; exact ⟨false, rfl⟩
    · cases h
  · cases h
theorem noSet_last {o1 o2 : COp} {y z : PySem.Expr} (h : noSet z = true) : lastMarks [o1.py, o2.py] [y, z] = false := mark_ok h

/-! ## ranges -/
theorem z_rng1 {a : E} {p : PySem.Expr} {pp pos : Pos} {tg : PySem.Expr} (B : Bd nx T C X9 lv X W) (g : glB X.env.scope "range" = true) (ns : notStar p = true) (h : PE X p (tz (rP X.K) (kk X X9 W) (opd a (ev T C a).e))) :
    PI X tg (.Call (.Name "range" pp) [p] [] pos) (tz (rI X.K) (kk X X9 W) (zRng1 (opd a (ev T C a).e))) := by
  refine PI.imp (pi_range1 (gl_ok g).1 (B.bi _ (by decide +kernel)) (pa_cons h pa_nil (star_ok ns)) (star_ok ns)) ?_
  rintro σ H Q ⟨F, n, s, q⟩
  refine ⟨F, n, s, Po.mono (Po.bd (ρ' := rP X.K) q) ?_⟩
  rintro v H1 ⟨F1, n1, p, s1, t1, pv, q⟩
  split at q
  · rename_i i ei
    have hv := rs_int s1 pv ei
    subst hv
    by_cases hr : rngOk i = true
    · rw [if_pos hr] at q
      obtain ⟨r1, r2⟩ := of_decide_eq_true hr
      refine ⟨i, rfl, r1, r2, q _ F1 H1 s1 Step.refl ?_⟩
      have := it_range (K := X.K) (F := F1) (lo := 0) (n := i.toNat)
      show ItOk X.K F1 (Itr 0 i.toNat) (rangeD 0 i)
      unfold rangeD
      rw [Int.sub_zero]
      exact this
    · rw [if_neg hr] at q; exact q.elim
  · exact q.elim
theorem z_rng2 {a b : E} {p p2 : PySem.Expr} {pp pos : Pos} {tg : PySem.Expr} (B : Bd nx T C X9 lv X W) (g : glB X.env.scope "range" = true) (ns : notStar p = true) (ns2 : notStar p2 = true) (h : PE X p (tz (rP X.K) (kk X X9 W) (opd a (ev T C a).e)))
    (h2 : PE X p2 (tz (rP X.K) (kk X X9 W) (opd b (ev T C b).e))) :
    PI X tg (.Call (.Name "range" pp) [p, p2] [] pos) (tz (rI X.K) (kk X X9 W) (zRng2 (opd a (ev T C a).e) (opd b (ev T C b).e))) := by
  refine PI.imp (pi_range2 (gl_ok g).1 (B.bi _ (by decide +kernel)) (pa_cons h (pa_cons h2 pa_nil (star_ok ns2)) (star_ok ns)) (by rw [star_ok ns, star_ok ns2]; rfl) (star_ok ns2)) ?_
  rintro σ H Q ⟨F, n, s, q⟩
  refine ⟨F, n, s, Po.mono (Po.bd (ρ' := rP X.K) q) ?_⟩
  rintro v H1 ⟨F1, n1, p, s1, t1, pv, q⟩
  refine ⟨F1, n1, s1, Po.mono (Po.bd (ρ' := rP X.K) q) ?_⟩
  rintro w H2 ⟨F2, n2, p2, s2, t2, pw, q⟩
  split at q
  · rename_i i j ei ej
    have hv := rs_int s2 (pv1_mono t2.f pv) ei
    have hw := rs_int s2 pw ej
    subst hv hw
    by_cases hr : (rngOk i && rngOk j) = true
    · rw [if_pos hr] at q
      obtain ⟨h1, h2⟩ := ba hr
      obtain ⟨r1, r2⟩ := of_decide_eq_true h1
      obtain ⟨r3, r4⟩ := of_decide_eq_true h2
      exact ⟨i, j, rfl, ⟨r1, r2, r3, r4⟩, q _ F2 H2 s2 Step.refl it_range⟩
    · rw [if_neg hr] at q; exact q.elim
  · exact q.elim

/-! ## walks that make a tuple each turn -/
theorem enumD_get : ∀ (xs : List D) (k i : Nat), (enumD k xs)[i]? = (xs[i]?).map fun x => .tuple [.int ((k + i : Nat) : Int), x]
  | [], k, i => by simp [enumD]
  | x :: r, k, 0 => by simp [enumD]
  | x :: r, k, i + 1 => by
    rw [enumD, List.getElem?_cons_succ, List.getElem?_cons_succ, enumD_get r (k + 1) i, show k + 1 + i = k + (i + 1) by omega]
theorem enumD_len : ∀ (xs : List D) (k : Nat), (enumD k xs).length = xs.length
  | [], _ => rfl
  | x :: r, k => by rw [enumD, List.length_cons, List.length_cons, enumD_len r (k + 1)]
theorem zipD_get : ∀ (xs ys : List D) (i : Nat) (x y : D), xs[i]? = some x → ys[i]? = some y → (zipD xs ys)[i]? = some (.tuple [x, y])
  | [], ys, i, x, y, h, _ => by simp at h
  | a :: xs, [], i, x, y, _, h => by simp at h
  | a :: xs, b :: ys, 0, x, y, h1, h2 => by simp at h1 h2; subst h1 h2; rfl
  | a :: xs, b :: ys, i + 1, x, y, h1, h2 => by
    rw [zipD, List.getElem?_cons_succ]
    exact zipD_get xs ys i x y (by simpa using h1) (by simpa using h2)
theorem zipD_len : ∀ (xs ys : List D), (zipD xs ys).length = min xs.length ys.length
  | [], ys => by simp [zipD]
  | a :: xs, [] => by simp [zipD]
  | a :: xs, b :: ys => by rw [zipD, List.length_cons, zipD_len xs ys, List.length_cons, List.length_cons]; omega
theorem pair_ext {K : PySem.W.Frag} {F H : Hp} {T : Addr} {x y : V} {d e : D} (sub : Same F H) (hT : H T = none) (dx : Dz K F x d) (dy : Dz K F y e) : ∃ F', Ext F H F' (upd H T (.tup [x, y])) ∧ Dz K F' (.ref T) (.tuple [d, e]) := by
  have fp : F T = none := sub.free hT
  refine ⟨upd F T (.tup [x, y]), ⟨same_upd fp, same_upd hT, fun a o q => ?_, fun a o q => ?_⟩, .tup (SqT.of upd_same) (.cons (dp_mono (same_upd fp) dx) (.cons (dp_mono (same_upd fp) dy) .nil))⟩
  · rcases upd_cases q with ⟨rfl, _⟩ | ⟨_, z⟩
    · exact .inr hT
    · exact .inl z
  · rcases upd_cases q with ⟨rfl, rfl⟩ | ⟨z, z2⟩
    · exact upd_same
    · rw [upd_ne z]; exact sub _ _ z2
theorem it_enum {K : PySem.W.Frag} {F : Hp} {a : Addr} {xs : List V} {ds : List D} (h : Rd F a (.lst xs)) (hd : DzAll K F xs ds) : ItOk K F (Ite K a) (enumD 0 ds) where
  go := fun i H F' s1 s2 hi => (walk_enum (xs := xs)).goes i H (by rw [enumD_len] at hi; rw [dpAll_len hd]; exact hi) (.inl (rd_mono s2 (rd_mono s1 h)))
  stop := fun H F' s1 s2 => by rw [enumD_len, ← dpAll_len hd]; exact (walk_enum (xs := xs)).stops H (.inl (rd_mono s2 (rd_mono s1 h)))
  yld := fun i H F' x H' s1 s2 hi y => by
    rw [enumD_len] at hi
    obtain ⟨T, p, q, rfl, hT, rfl, e1, e2⟩ := (walk_enum (xs := xs)).yields i H x H' (by rw [dpAll_len hd]; exact hi) (.inl (rd_mono s2 (rd_mono s1 h))) y
    cases e1
    have ed : ds[i]? = some ds[i] := by simp [hi]
    obtain ⟨v, ev, dv⟩ := dpAll_get hd ed
    have e2 : xs[i]? = some q := e2
    rw [ev] at e2; cases e2
    obtain ⟨F2, ex, dz⟩ := pair_ext (d := .int (i : Nat)) (e := ds[i]) s2 hT (.int _) (dp_mono s1 dv)
    refine ⟨F2, _, ex, ?_, dz⟩
    rw [enumD_get, ed]
    simp
theorem it_zipL {K : PySem.W.Frag} {F : Hp} {a b : Addr} {xs ys : List V} {ds es : List D} (h : Rd F a (.lst xs)) (hd : DzAll K F xs ds) (g : Rd F b (.lst ys)) (he : DzAll K F ys es) : ItOk K F (Itz K a b) (zipD ds es) := by
  have l1 := dpAll_len hd
  have l2 := dpAll_len he
  have w := walk_zip (K := K) (a := a) (b := b) (xs := xs) (ys := ys) rfl
  have G : ∀ H F', Same F F' → Same F' H → SqL K H a xs ∧ SqL K H b ys := fun H F' s1 s2 => ⟨.inl (rd_mono s2 (rd_mono s1 h)), .inl (rd_mono s2 (rd_mono s1 g))⟩
  refine ⟨fun i H F' s1 s2 hi => w.goes i H (by rw [zipD_len] at hi; omega) (G H F' s1 s2), fun H F' s1 s2 => by rw [zipD_len, ← l1, ← l2]; exact w.stops H (G H F' s1 s2), fun i H F' x H' s1 s2 hi y => ?_⟩
  rw [zipD_len] at hi
  obtain ⟨T, p, q, rfl, hT, rfl, e1, e2⟩ := w.yields i H x H' (by omega) (G H F' s1 s2) y
  have i1 : i < ds.length := by omega
  have i2 : i < es.length := by omega
  obtain ⟨v, ev, dv⟩ := dpAll_get hd (show ds[i]? = some ds[i] by simp [i1])
  obtain ⟨u, eu, du⟩ := dpAll_get he (show es[i]? = some es[i] by simp [i2])
  have e1 : xs[i]? = some p := e1
  have e2 : ys[i]? = some q := e2
  rw [ev] at e1; cases e1
  rw [eu] at e2; cases e2
  obtain ⟨F2, ex, dz⟩ := pair_ext (d := ds[i]) (e := es[i]) s2 hT (dp_mono s1 dv) (dp_mono s1 du)
  exact ⟨F2, _, ex, zipD_get _ _ _ _ _ (by simp [i1]) (by simp [i2]), dz⟩
theorem it_zipT {K : PySem.W.Frag} {F : Hp} {a b : Addr} {xs ys : List V} {ds es : List D} (h : SqT K F a xs) (hd : DzAll K F xs ds) (g : SqT K F b ys) (he : DzAll K F ys es) : ItOk K F (RZ.ItzT K a b) (zipD ds es) := by
  have l1 := dpAll_len hd
  have l2 := dpAll_len he
  have G : ∀ H F', Same F F' → Same F' H → SqT K H a xs ∧ SqT K H b ys := fun H F' s1 s2 => ⟨sqT_mono s2 (sqT_mono s1 h), sqT_mono s2 (sqT_mono s1 g)⟩
  refine ⟨fun i H F' s1 s2 hi => ?_, fun H F' s1 s2 => ?_, fun i H F' x H' s1 s2 hi y => ?_⟩
  · rw [zipD_len] at hi
    have i1 : i < xs.length := by omega
    have i2 : i < ys.length := by omega
    exact ⟨xs, ys, xs[i], ys[i], (G H F' s1 s2).1, (G H F' s1 s2).2, by simp [i1], by simp [i2]⟩
  · exact ⟨xs, ys, (G H F' s1 s2).1, (G H F' s1 s2).2, by rw [zipD_len]; omega⟩
  · rw [zipD_len] at hi
    obtain ⟨T, p, q, rfl, hT, rfl, e1, e2⟩ := y
    have i1 : i < ds.length := by omega
    have i2 : i < es.length := by omega
    obtain ⟨v, ev, dv⟩ := dpAll_get hd (show ds[i]? = some ds[i] by simp [i1])
    obtain ⟨u, eu, du⟩ := dpAll_get he (show es[i]? = some es[i] by simp [i2])
    have e1 := e1 xs (G H F' s1 s2).1
    have e2 := e2 ys (G H F' s1 s2).2
    rw [ev] at e1; cases e1
    rw [eu] at e2; cases e2
    obtain ⟨F2, ex, dz⟩ := pair_ext (d := ds[i]) (e := es[i]) s2 hT (dp_mono s1 dv) (dp_mono s1 du)
    exact ⟨F2, _, ex, zipD_get _ _ _ _ _ (by simp [i1]) (by simp [i2]), dz⟩
/-- a value made frozen -/
theorem rv_frz {K : PySem.W.Frag} {σ : L2.St} {F0 H0 F H : Hp} {n0 n : En} {v : V} {r : R} (s0 : SO K F0 H0 σ n0) (s : SO K F H σ n) (t : Step σ F0 H0 n0 F H n) (x : rvOk K H0 F H v r) : ∃ F2, SO K F2 H σ n ∧ Step σ F0 H0 n0 F2 H n ∧ Dz K F2 v r.d ∧ Same F F2 := by
  cases r with
  | fr d => exact ⟨F, s, t, x, .refl _⟩
  | nw d =>
    obtain ⟨a, rfl, m, z⟩ := x
    exact frz_so (k := ⟨K, fun _ => (0, ⟨#[]⟩), fun _ _ _ _ => False⟩) s0 s t m z
theorem Po.bd0 {α β γ δ : Type} {ρ : Rho α β} {ρ' : Rho γ δ} {k : Ck} {σ : L2.St} {F H : Hp} {n : En} {m : Ou γ} {f : γ → En → Ou α} {Q : β → Hp → Prop} (h : Po ρ k (m.bd f) σ F H n Q) :
    Po ρ' k m σ F H n fun b H1 => ∃ F1 n1 a, SO k.K F1 H1 σ n1 ∧ Step σ F H n F1 H1 n1 ∧ ρ'.r H F1 H1 σ n1 b a ∧ Po ρ k (f a n1) σ F H n Q := by
  cases m with
  | ok a n1 => exact fun b F1 H1 s t r => ⟨F1, n1, a, s, t, r, h⟩
  | ex c d n' => exact h
  | st => exact h
theorem z_enm {f : En → Ou R} {p tg : PySem.Expr} {a : E} {pp pos : Pos} (B : Bd nx T C X9 lv X W) (g : glB X.env.scope "enumerate" = true) (ns : notStar p = true) (h : PE X p (tz (rV X.K) (kk X X9 W) f)) (hz : ezB (.enm a) tg = true) :
    PI X tg (.Call (.Name "enumerate" pp) [p] [] pos) (tz (rI X.K) (kk X X9 W) (zEnm f)) := by
  cases tg <;> try (cases hz; done)
  refine PI.imp (pi_enum (gl_ok g).1 (B.bi _ (by decide +kernel)) (pa_cons h pa_nil (star_ok ns)) (by rw [star_ok ns]; rfl)) ?_
  rintro σ H Q ⟨F, n, s, q⟩
  refine ⟨F, n, s, Po.mono (Po.bd0 (ρ' := rV X.K) q) ?_⟩
  rintro v H1 ⟨F1, n1, r, s1, t1, rv, q⟩
  obtain ⟨F2, s2, t2, dv, sm⟩ := rv_frz s s1 t1 rv
  have q := Po.shift q t2
  split at q
  · rename_i xs er
    rw [er] at dv
    cases dv with
    | lst h1 h2 => exact ⟨_, _, rfl, .inl (rd_mono s2.sub h1), q _ F2 H1 s2 Step.refl (it_enum h1 h2)⟩
  · exact q.elim
theorem z_zip {f f2 : En → Ou R} {p p2 tg : PySem.Expr} {a b : E} {pp pos : Pos} (B : Bd nx T C X9 lv X W) (g : glB X.env.scope "zip" = true) (ns : notStar p = true) (ns2 : notStar p2 = true) (h : PE X p (tz (rV X.K) (kk X X9 W) f)) (h2 : PE X p2 (tz (rV X.K) (kk X X9 W) f2)) (hz : ezB (.zip a b) tg = true) :
    PI X tg (.Call (.Name "zip" pp) [p, p2] [] pos) (tz (rI X.K) (kk X X9 W) (zZip f f2)) := by
  cases tg <;> try (cases hz; done)
  refine PI.imp (RZ.pi_zipA (gl_ok g).1 (B.bi _ (by decide +kernel)) (pa_cons h (pa_cons h2 pa_nil (star_ok ns2)) (star_ok ns)) (star_ok ns) (by rw [star_ok ns2]; rfl)) ?_
  rintro σ H Q ⟨F, n, s, q⟩
  refine ⟨F, n, s, Po.mono (Po.bd0 (ρ' := rV X.K) q) ?_⟩
  rintro v H1 ⟨F1, n1, r, s1, t1, rv, q⟩
  obtain ⟨F2, s2, t2, dv, sm⟩ := rv_frz s s1 t1 rv
  refine ⟨F2, n1, s2, Po.mono (Po.bd0 (ρ' := rV X.K) (Po.shift q t2)) ?_⟩
  rintro w H3 ⟨F3, n3, r3, s3, t3, rv3, q⟩
  obtain ⟨F4, s4, t4, dw, sm4⟩ := rv_frz s2 s3 t3 rv3
  have q := Po.shift q t4
  have dv := dp_mono t4.f dv
  split at q
  · rename_i xs ys er er3
    rw [er] at dv
    rw [er3] at dw
    cases dv with
    | lst h1 h2 => cases dw with
      | lst h3 h4 => exact ⟨_, _, _, _, rfl, .inl ⟨.inl (rd_mono s4.sub h1), .inl (rd_mono s4.sub h3), q _ F4 H3 s4 Step.refl (it_zipL h1 h2 h3 h4)⟩⟩
  · rename_i xs ys er er3
    rw [er] at dv
    rw [er3] at dw
    cases dv with
    | tup h1 h2 => cases dw with
      | tup h3 h4 => exact ⟨_, _, _, _, rfl, .inr ⟨sqT_mono s4.sub h1, sqT_mono s4.sub h3, q _ F4 H3 s4 Step.refl (it_zipT h1 h2 h3 h4)⟩⟩
  · exact q.elim
/-! ## a block's context -/
theorem Bd.blk (B : Bd nx T C X9 lv X W) {s : Shared} {H : Hp} {scope : Scope} {cenv : Env} {fp : List Addr} : Bd nx T C X9 lv (X.blk s H scope cenv fp) (fun _ _ _ _ => False) :=
  ⟨B.eN, B.nd, B.calm, B.gd, B.room, takes0, B.fn, B.gl, B.bi⟩

/-! ## expressions -/
structure J (nx : Nx) (T : Tb) (C : Nat → Option D) (X9 : Nat → Addr × Str) (X : Cx) (W : WX) (a : E) : Prop where
  e : ∀ x, (ck nx a X.env.scope).e x = true → PE X x (tz (rV X.K) (kk X X9 W) (ev T C a).e)
  t : ∀ x, (ck nx a X.env.scope).t x = true → PT X x (tz rB (kk X X9 W) (ev T C a).t)
  l : ∀ xs, (ck nx a X.env.scope).l xs = true → AllJ T C (kk X X9 W) X a xs
  i : ∀ tg x, ezB a tg = true → (ck nx a X.env.scope).i x = true → PI X tg x (tz (rI X.K) (kk X X9 W) (ev T C a).i)
  o : ∀ x, (ck nx a X.env.scope).o x = true → PE X x (tz (rP X.K) (kk X X9 W) (opd a (ev T C a).e))
/-- a node that gives a value -/
theorem J.val {a : E} (he : ∀ x, (ck nx a X.env.scope).e x = true → PE X x (tz (rV X.K) (kk X X9 W) (ev T C a).e)) (ht : ∀ x, (ck nx a X.env.scope).t x = true → PT X x (tz rB (kk X X9 W) (ev T C a).t)) (hl : ∀ xs, (ck nx a X.env.scope).l xs = false)
    (hi : ∀ x, (ck nx a X.env.scope).i x = true → (ck nx a X.env.scope).e x = true) (hj : (ev T C a).i = fun n => ((ev T C a).e n).bd fun r n1 => .of (seqD r.d) n1)
    (ho : ∀ x, (ck nx a X.env.scope).o x = true → (ck nx a X.env.scope).e x = true) (hp : ∀ n, opd a (ev T C a).e n = ((ev T C a).e n).bd fun r n1 => .ok (.dd r.d) n1) : J nx T C X9 X W a :=
  ⟨he, ht, fun xs h => (by rw [hl] at h; cases h), fun tg x _ h => by rw [hj]; exact z_walk (he x (hi x h)), fun x h => z_val (he x (ho x h)) hp⟩
theorem ct {p : Prop} (h : false = true) : p := by cases h
theorem lcB_inv {elt it cond : Scope → Cks} {cc ic : E} {tg : Tg} {vs : List Nat} {sc : Scope} {e : PySem.Expr} (h : lcB nx elt it cond cc ic tg vs sc e = true) : ∃ x tge iter ifs scope pos, e = .ListComp x [⟨tge, iter, ifs, 0⟩] scope pos ∧
    blkC nx.N sc scope (ownN nx vs) = true ∧ (it sc).i iter = true ∧ noSet iter = true ∧ tgB nx (fun y => locB (relS scope sc) y && locB scope y) tg tge = true ∧ tg.slots.all (fun i => decide (i ∈ vs)) = true ∧
    ifsB (cond (relS scope sc)).t cc ifs = true ∧ (elt (relS scope sc)).e x = true ∧ ezB ic tge = true := by
  unfold lcB at h
  split at h
  · obtain ⟨h1, h⟩ := ba h
    obtain ⟨h2, h⟩ := ba h
    obtain ⟨h3, h⟩ := ba h
    obtain ⟨h4, h⟩ := ba h
    obtain ⟨h5, h⟩ := ba h
    obtain ⟨h6, h⟩ := ba h
    obtain ⟨h7, h8⟩ := ba h
    exact ⟨_, _, _, _, _, _, rfl, h1, h2, h3, h4, h5, h6, h7, h8⟩
  · cases h
theorem ifsB_nil {t : PySem.Expr → Bool} {c : E} (h : ifsB t c [] = true) : c = .yes := by
  cases c <;> first | rfl | (cases h; done)
theorem ifsB_one {t : PySem.Expr → Bool} {c : E} {x : PySem.Expr} (h : ifsB t c [x] = true) : t x = true := by
  cases c <;> first | exact h | (cases h; done)
theorem ownN_slots (vs : List Nat) : (ownN nx vs).map (·.2) = vs := by
  unfold ownN
  rw [List.map_map]
  induction vs with
  | nil => rfl
  | cons v vs ih => rw [List.map_cons, ih]; rfl
theorem locB_ok {sc : Scope} {y : Str} (h : locB sc y = true) : Loc sc y := by
  rcases Bool.or_eq_true_iff.mp h with z | z
  · exact .inl (kB_ok z)
  · exact .inr (kB_ok z)
theorem locB_rel {scope sc : Scope} {y : Str} (h : (locB (relS scope sc) y && locB scope y) = true) : Loc (relS scope sc) y ∧ ((scope.names.lookup y == some .cell) = true ∨ (relS scope sc).names.lookup y = some .local) := by
  obtain ⟨a, b⟩ := ba h
  refine ⟨locB_ok a, ?_⟩
  rcases locB_ok b with z | z
  · exact .inr (lookup_relS_keep (by decide) z)
  · exact .inl (by rw [z]; rfl)
theorem z_lc {elt it cond : E} {tg : Tg} {vs : List Nat} {e : PySem.Expr} (B : Bd nx T C X9 lv X W) (Ji : J nx T C X9 X W it)
    (Jb : ∀ (X : Cx) (W : WX), Bd nx T C X9 lv X W → J nx T C X9 X W elt ∧ J nx T C X9 X W cond) (h : lcB nx (ck nx elt) (ck nx it) (ck nx cond) cond it tg vs X.env.scope e = true) :
    PE X e (tz (rV X.K) (kk X X9 W) (zLc tg vs (ev T C it).i (ev T C cond).t (ev T C elt).e)) := by
  obtain ⟨x, tge, iter, ifs, scope, pos, rfl, h1, h2, h3, h4, h5, h6, h7, h8⟩ := lcB_inv h
  have ok : BlkOk X.N X.env.scope scope (ownN nx vs) := by rw [B.eN]; exact blkOk_by h1
  refine PE.imp (pe_lc (te := tz (rV X.K) (kk X X9 fun _ _ _ _ => False) (ev T C elt).e) (tt := tz rB (kk X X9 fun _ _ _ _ => False) (ev T C cond).t) (g := gTg X.K tg) B.calm B.nd (Ji.i tge iter h8 h2) ok ?_ ?_ ?_ (fold_ok h3)) ?_
  · intro s H c cl fp
    exact pg_tg (nx := nx) (X := X.blk s H scope (compEnvC scope cl c X.env) fp) B.calm B.eN B.nd (fun y hy => locB_rel hy) h4
  · intro s H c cl fp
    have Bb := B.blk (s := s) (H := H) (scope := scope) (cenv := compEnvC scope cl c X.env) (fp := fp)
    obtain ⟨_, Jc⟩ := Jb _ _ Bb
    rcases ifs with _ | ⟨y, _ | ⟨y2, ys⟩⟩
    · have := ifsB_nil h6
      subst this
      refine ⟨fun pins s1 σ H1 Q I q => ?_⟩
      obtain ⟨F, n, so, q⟩ := q
      exact pts_nil.run pins s1 σ H1 Q I (q true F H1 so Step.refl rfl)
    · exact pts_one (Jc.t y (ifsB_one h6))
    · cases h6
  · intro s H c cl fp
    have Bb := B.blk (s := s) (H := H) (scope := scope) (cenv := compEnvC scope cl c X.env) (fp := fp)
    exact (Jb _ _ Bb).1.e x h7
  · intro σ H Q q
    rw [ownN_slots]
    exact lc_tz (fun i hi => of_decide_eq_true (List.all_eq_true.mp h5 i hi)) q
/-- every expression whose code is the text -/
theorem all_J : ∀ (a : E) (X : Cx) (W : WX), Bd nx T C X9 lv X W → J nx T C X9 X W a
  | .var i, X, W, B => .val (fun x h => z_var B h) (fun x h => ct h) (fun _ => rfl) (fun _ h => h) rfl (fun _ h => h) (fun _ => rfl)
  | .pk i, X, W, B => by
    refine ⟨fun x h => ct h, fun x h => ?_, fun x h => ct h, fun _ x _ h => ct h, fun x h => z_pk B h⟩
    refine PT.imp (pt_truth (z_name B h) (isTrue_ok (z_nameT h))) ?_
    rintro σ H Q ⟨F, n, s, q⟩
    have q : Po rB (kk X X9 W) (zPkT i n) σ F H n Q := q
    unfold zPkT at q
    cases z : n[i]? with
    | none => rw [z] at q; exact q.elim
    | some t =>
      rw [z] at q
      have y := s.sl i t z
      cases t with
      | un => exact q.elim
      | er c d => exact q.elim
      | fz d =>
        obtain ⟨b, e, q9⟩ := Po.of (show Po rB (kk X X9 W) (Ou.of (truD d) n) σ F H n Q from q)
        obtain ⟨v, e1, e2⟩ := y
        exact ⟨v, e1, b, tru_D s.sub (.inl e2) e, q9 b F H s Step.refl rfl⟩
      | ow d =>
        obtain ⟨b, e, q9⟩ := Po.of (show Po rB (kk X X9 W) (Ou.of (truD d) n) σ F H n Q from q)
        obtain ⟨v, e1, e2⟩ := y
        exact ⟨_, e1, b, tru_D s.sub (.inr ⟨_, rfl, e2⟩) e, q9 b F H s Step.refl rfl⟩
      | pn d =>
        obtain ⟨b, e, q9⟩ := Po.of (show Po rB (kk X X9 W) (Ou.of (truD d) n) σ F H n Q from q)
        obtain ⟨v, e1, e2⟩ := y
        exact ⟨_, e1, b, tru_D s.sub (.inr ⟨_, rfl, e2⟩) e, q9 b F H s Step.refl rfl⟩
  | .io i, X, W, B => ⟨fun x h => ct h, fun x h => ct h, fun x h => ct h, fun _ x _ h => ct h, fun x h => z_io B h⟩
  | .cst d, X, W, B => .val (fun x h => z_cst h) (fun x h => ct h) (fun _ => rfl) (fun _ h => ct h) rfl (fun _ h => h) (fun _ => rfl)
  | .glb g, X, W, B => .val (fun x h => z_glb B h) (fun x h => ct h) (fun _ => rfl) (fun _ h => h) rfl (fun _ h => h) (fun _ => rfl)
  | .op o as, X, W, B => by
    have Ja := all_J as X W B
    refine .val (fun x h => z_op B Ja.l h) (fun x h => ?_) (fun _ => rfl) (fun _ h => h) rfl (fun _ h => h) (fun _ => rfl)
    obtain ⟨h1, h2⟩ := ba h
    rcases Bool.or_eq_true_iff.mp h2 with h2 | h2
    · exact z_truth (z_op B Ja.l h1) h2
    · have hu := B.room.un
      obtain ⟨c, rfl⟩ : ∃ c, o = .cmp c := by cases o <;> first | exact ⟨_, rfl⟩ | (cases h2; done)
      obtain ⟨y, z, pos, rfl, g2, g3⟩ := opCmp_inv h1
      obtain ⟨a, r, rfl, _, pa, J2⟩ := allJ_cons (Ja.l _ g3)
      obtain ⟨d, r, rfl, _, pd, J3⟩ := allJ_cons J2
      cases allJ_nil J3
      refine PT.imp (pt_cmpR (op_cmp (by omega) c) pa pd (mark_ok g2)) fun σ H Q q => ?_
      have q := t_of_v (f := zOp (.cmp c) (ev T C (.cons a (.cons d .nil))).l) (fun n r n' h => cmp_bool h) q
      refine z_two rfl (fun F H v w x y res Q sm dx dy e r => ?_) q
      have e : (cmpD c x y).map dbl = some res := e
      cases z : cmpD c x y with
      | none => rw [z] at e; cases e
      | some b => rw [z] at e; cases e; exact ⟨F, x, y, b, sm, dx, dy, z, r.bl sm⟩
  | .nil, X, W, B => by
    refine ⟨fun x h => ct h, fun x h => ct h, fun xs h => ?_, fun _ x _ h => ct h, fun x h => ct h⟩
    cases xs with
    | nil => trivial
    | cons _ _ => cases h
  | .cons a r, X, W, B => by
    refine ⟨fun x h => ct h, fun x h => ct h, fun xs h => ?_, fun _ x _ h => ct h, fun x h => ct h⟩
    cases xs with
    | nil => cases h
    | cons e es =>
      obtain ⟨h1, h⟩ := ba h
      obtain ⟨h2, h3⟩ := ba h
      exact ⟨h1, (all_J a X W B).o e h2, (all_J r X W B).l es h3⟩
  | .chn o1 o2 a b c, X, W, B => by
    have hu := B.room.un
    have inv : ∀ x, (ck nx (.chn o1 o2 a b c) X.env.scope).e x = true → ∃ y1 y z pos, x = .Compare y1 [o1.py, o2.py] [y, z] pos ∧ noSet z = true ∧ (ck nx a X.env.scope).o y1 = true ∧ (ck nx b X.env.scope).o y = true ∧ (ck nx c X.env.scope).o z = true := by
      intro x h
      dsimp only [ck] at h
      split at h
      · obtain ⟨h1, h⟩ := ba h
        obtain ⟨h2, h⟩ := ba h
        obtain ⟨h3, h⟩ := ba h
        obtain ⟨h4, h⟩ := ba h
        obtain ⟨h5, h6⟩ := ba h
        have e1 := of_decide_eq_true h1
        have e2 := of_decide_eq_true h2
        subst e1 e2
        exact ⟨_, _, _, _, rfl, h3, h4, h5, h6⟩
      · cases h
    refine .val (fun x h => ?_) (fun x h => ?_) (fun _ => rfl) (fun _ h => ct h) rfl (fun _ h => h) (fun _ => rfl)
    · obtain ⟨y1, y, z, pos, rfl, h3, h4, h5, h6⟩ := inv x h
      exact PE.imp (pe_chain (op_cmp (by omega) o1) (op_cmp (by omega) o2) ((all_J a X W B).o _ h4) ((all_J b X W B).o _ h5) ((all_J c X W B).o _ h6) (noSet_last h3)) fun σ H Q q => z_chain q
    · obtain ⟨y1, y, z, pos, rfl, h3, h4, h5, h6⟩ := inv x h
      refine PT.imp (pt_chain (op_cmp (by omega) o1) (op_cmp (by omega) o2) ((all_J a X W B).o _ h4) ((all_J b X W B).o _ h5) ((all_J c X W B).o _ h6) (noSet_last h3)) fun σ H Q q => ?_
      exact z_chain (t_of_v (f := zChn o1 o2 (opd a (ev T C a).e) (opd b (ev T C b).e) (opd c (ev T C c).e)) (fun n r n' h => chn_bool h) q)
  | .slc a b c, X, W, B => by
    have inv : ∀ x, (ck nx (.slc a b c) X.env.scope).e x = true → PE X x (tz (rV X.K) (kk X X9 W) (zSlc (opd a (ev T C a).e) (opd b (ev T C b).e) (opd c (ev T C c).e))) := by
      intro x h
      dsimp only [ck] at h
      split at h
      · obtain ⟨h1, h⟩ := ba h
        obtain ⟨h2, h3⟩ := ba h
        exact z_slc ((all_J a X W B).o _ h1) ((all_J b X W B).o _ h2) ((all_J c X W B).o _ h3)
      · cases h
    refine .val inv (fun x h => ?_) (fun _ => rfl) (fun _ h => h) rfl (fun _ h => h) (fun _ => rfl)
    obtain ⟨h1, h2⟩ := ba h
    exact z_truth (inv x h1) h2
  | .and a b, X, W, B => by
    refine .val (fun x h => ?_) (fun x h => ?_) (fun _ => rfl) (fun _ h => ct h) rfl (fun _ h => h) (fun _ => rfl)
    · dsimp only [ck] at h
      split at h
      · obtain ⟨h1, h2⟩ := ba h
        split at h2
        · exact z_and ((all_J a X W B).e _ h1) (pe_one ((all_J b X W B).e _ h2))
        · exact z_and ((all_J a X W B).e _ h1) ((all_J b X W B).e _ h2)
      · cases h
    · dsimp only [ck] at h
      split at h
      · obtain ⟨h1, h2⟩ := ba h
        split at h2
        · exact PT.imp (pw_and ((all_J a X W B).t _ h1) (pw_and1 ((all_J b X W B).t _ h2))).pt fun σ H Q q => t_and q
        · exact PT.imp (pw_and ((all_J a X W B).t _ h1) (pw_of_pt ((all_J b X W B).t _ h2))).pt fun σ H Q q => t_and q
      · cases h
  | .or a b, X, W, B => by
    refine .val (fun x h => ?_) (fun x h => ?_) (fun _ => rfl) (fun _ h => ct h) rfl (fun _ h => h) (fun _ => rfl)
    · dsimp only [ck] at h
      split at h
      · obtain ⟨h1, h2⟩ := ba h
        split at h2
        · exact z_or ((all_J a X W B).e _ h1) (pe_one ((all_J b X W B).e _ h2))
        · exact z_or ((all_J a X W B).e _ h1) ((all_J b X W B).e _ h2)
      · cases h
    · dsimp only [ck] at h
      split at h
      · obtain ⟨h1, h2⟩ := ba h
        split at h2
        · exact PT.imp (pw_or ((all_J a X W B).t _ h1) (pw_or1 ((all_J b X W B).t _ h2))).pt fun σ H Q q => t_or q
        · exact PT.imp (pw_or ((all_J a X W B).t _ h1) (pw_of_pt ((all_J b X W B).t _ h2))).pt fun σ H Q q => t_or q
      · cases h
  | .not a, X, W, B => by
    refine .val (fun x h => ?_) (fun x h => ?_) (fun _ => rfl) (fun _ h => ct h) rfl (fun _ h => h) (fun _ => rfl)
    · dsimp only [ck] at h
      split at h
      · exact z_not ((all_J a X W B).e _ h)
      · cases h
    · dsimp only [ck] at h
      split at h
      · exact PT.imp (pt_not ((all_J a X W B).t _ h)) fun σ H Q q => t_not q
      · cases h
  | .ife t a b, X, W, B => by
    refine .val (fun x h => ?_) (fun x h => ct h) (fun _ => rfl) (fun _ h => h) rfl (fun _ h => h) (fun _ => rfl)
    dsimp only [ck] at h
    split at h
    · obtain ⟨h1, h⟩ := ba h
      obtain ⟨h2, h3⟩ := ba h
      exact PE.imp (pe_ifExp ((all_J t X W B).t _ h1) ((all_J a X W B).e _ h2) ((all_J b X W B).e _ h3)) fun σ H Q q => t_ife q
    · cases h
  | .call f as, X, W, B => by
    have inv : ∀ x, (ck nx (.call f as) X.env.scope).e x = true → plainT x = true ∧ PE X x (tz (rV X.K) (kk X X9 W) (zCall (T f) (ev T C as).l)) := by
      intro x h
      dsimp only [ck] at h
      split at h
      · obtain ⟨h1, h⟩ := ba h
        obtain ⟨h2, h3⟩ := ba h
        exact ⟨rfl, z_call B (of_decide_eq_true h1) h2 ((all_J as X W B).l _ h3)⟩
      · cases h
    exact .val (fun x h => (inv x h).2) (fun x h => z_truth (inv x h).2 (inv x h).1) (fun _ => rfl) (fun _ h => h) rfl (fun _ h => h) (fun _ => rfl)
  | .lc elt tg it cond vs, X, W, B => by
    have inv : ∀ x, (ck nx (.lc elt tg it cond vs) X.env.scope).e x = true → plainT x = true ∧ PE X x (tz (rV X.K) (kk X X9 W) (zLc tg vs (ev T C it).i (ev T C cond).t (ev T C elt).e)) := by
      intro x h
      refine ⟨?_, z_lc B (all_J it X W B) (fun X W B => ⟨all_J elt X W B, all_J cond X W B⟩) h⟩
      obtain ⟨x, tge, iter, ifs, scope, pos, rfl, _⟩ := lcB_inv h
      rfl
    exact .val (fun x h => (inv x h).2) (fun x h => z_truth (inv x h).2 (inv x h).1) (fun _ => rfl) (fun _ h => h) rfl (fun _ h => h) (fun _ => rfl)
  | .yes, X, W, B => ⟨fun x h => ct h, fun x h => ct h, fun x h => ct h, fun _ x _ h => ct h, fun x h => ct h⟩
  | .rng1 a, X, W, B => by
    refine ⟨fun x h => ct h, fun x h => ct h, fun x h => ct h, fun _ x _ h => ?_, fun x h => ct h⟩
    dsimp only [ck] at h
    split at h
    · obtain ⟨h1, h⟩ := ba h
      obtain ⟨h2, h⟩ := ba h
      obtain ⟨h3, h4⟩ := ba h
      have e1 := of_decide_eq_true h1
      subst e1
      exact z_rng1 B h2 h3 ((all_J a X W B).o _ h4)
    · cases h
  | .rng2 a b, X, W, B => by
    refine ⟨fun x h => ct h, fun x h => ct h, fun x h => ct h, fun _ x _ h => ?_, fun x h => ct h⟩
    dsimp only [ck] at h
    split at h
    · obtain ⟨h1, h⟩ := ba h
      obtain ⟨h2, h⟩ := ba h
      obtain ⟨h3, h⟩ := ba h
      obtain ⟨h4, h⟩ := ba h
      obtain ⟨h5, h6⟩ := ba h
      have e1 := of_decide_eq_true h1
      subst e1
      exact z_rng2 B h2 h3 h4 ((all_J a X W B).o _ h5) ((all_J b X W B).o _ h6)
    · cases h
  | .enm a, X, W, B => by
    refine ⟨fun x h => ct h, fun x h => ct h, fun x h => ct h, fun tg x hz h => ?_, fun x h => ct h⟩
    dsimp only [ck] at h
    split at h
    · obtain ⟨h1, h⟩ := ba h
      obtain ⟨h2, h⟩ := ba h
      obtain ⟨h3, h4⟩ := ba h
      have e1 := of_decide_eq_true h1
      subst e1
      exact z_enm B h2 h3 ((all_J a X W B).e _ h4) hz
    · cases h
  | .zip a b, X, W, B => by
    refine ⟨fun x h => ct h, fun x h => ct h, fun x h => ct h, fun tg x hz h => ?_, fun x h => ct h⟩
    dsimp only [ck] at h
    split at h
    · obtain ⟨h1, h⟩ := ba h
      obtain ⟨h2, h⟩ := ba h
      obtain ⟨h3, h⟩ := ba h
      obtain ⟨h4, h⟩ := ba h
      obtain ⟨h5, h6⟩ := ba h
      have e1 := of_decide_eq_true h1
      subst e1
      exact z_zip B h2 h3 h4 ((all_J a X W B).e _ h5) ((all_J b X W B).e _ h6) hz
    · cases h
  | .eat _, X, W, B => ⟨fun x h => ct h, fun x h => ct h, fun x h => ct h, fun _ x _ h => ct h, fun x h => ct h⟩
  | .eis _ _, X, W, B => ⟨fun x h => ct h, fun x h => ct h, fun x h => ct h, fun _ x _ h => ct h, fun x h => ct h⟩
  | .any, X, W, B => by
    refine ⟨fun x h => ⟨fun pins s σ H Q I q => ?_⟩, fun x h => ⟨fun pins s σ H Q I q => ?_⟩, fun x h => ct h, fun tg x _ h => ⟨fun pins s σ H Q I q => ?_⟩, fun x h => ⟨fun pins s σ H Q I q => ?_⟩⟩
    all_goals
      obtain ⟨F, n, _, q⟩ := q
      exact q.elim
  | .chn3 o1 o2 o3 a b c d, X, W, B => by
    have hu := B.room.un
    have inv : ∀ x, (ck nx (.chn3 o1 o2 o3 a b c d) X.env.scope).e x = true → ∃ y1 y z u pos, x = .Compare y1 [o1.py, o2.py, o3.py] [y, z, u] pos ∧ noSet u = true ∧ (ck nx a X.env.scope).o y1 = true ∧ (ck nx b X.env.scope).o y = true ∧ (ck nx c X.env.scope).o z = true ∧ (ck nx d X.env.scope).o u = true := by
      intro x h
      dsimp only [ck] at h
      split at h
      · obtain ⟨h1, h⟩ := ba h
        obtain ⟨h2, h⟩ := ba h
        obtain ⟨h3, h⟩ := ba h
        obtain ⟨h4, h⟩ := ba h
        obtain ⟨h5, h⟩ := ba h
        obtain ⟨h6, h⟩ := ba h
        obtain ⟨h7, h8⟩ := ba h
        have e1 := of_decide_eq_true h1
        have e2 := of_decide_eq_true h2
        have e3 := of_decide_eq_true h3
        subst e1 e2 e3
        exact ⟨_, _, _, _, _, rfl, h4, h5, h6, h7, h8⟩
      · cases h
    refine .val (fun x h => ?_) (fun x h => ?_) (fun _ => rfl) (fun _ h => ct h) rfl (fun _ h => h) (fun _ => rfl)
    · obtain ⟨y1, y, z, u, pos, rfl, h4, h5, h6, h7, h8⟩ := inv x h
      exact PE.imp (pe_ch3 (op_cmp (by omega) o1) (op_cmp (by omega) o2) (op_cmp (by omega) o3) ((all_J a X W B).o _ h5) ((all_J b X W B).o _ h6) ((all_J c X W B).o _ h7) ((all_J d X W B).o _ h8) (mark_ok h4)) fun σ H Q q => z_ch3 q
    · obtain ⟨y1, y, z, u, pos, rfl, h4, h5, h6, h7, h8⟩ := inv x h
      refine PT.imp (pt_ch3 (op_cmp (by omega) o1) (op_cmp (by omega) o2) (op_cmp (by omega) o3) ((all_J a X W B).o _ h5) ((all_J b X W B).o _ h6) ((all_J c X W B).o _ h7) ((all_J d X W B).o _ h8) (mark_ok h4)) fun σ H Q q => ?_
      exact z_ch3 (t_of_v (f := zChn3 o1 o2 o3 (opd a (ev T C a).e) (opd b (ev T C b).e) (opd c (ev T C c).e) (opd d (ev T C d).e)) (fun n r n' h => chn3_bool h) q)
  | .lrg1 a, X, W, B => by
    have inv : ∀ x, (ck nx (.lrg1 a) X.env.scope).e x = true → PE X x (tz (rV X.K) (kk X X9 W) (zLrg1 (opd a (ev T C a).e))) := by
      intro x h
      dsimp only [ck] at h
      split at h
      · obtain ⟨h1, h⟩ := ba h
        obtain ⟨h2, h⟩ := ba h
        obtain ⟨h3, h⟩ := ba h
        obtain ⟨h4, h⟩ := ba h
        obtain ⟨h5, h6⟩ := ba h
        have e1 := of_decide_eq_true h1
        have e3 := of_decide_eq_true h3
        subst e1 e3
        exact z_lrg1 B h2 h4 h5 ((all_J a X W B).o _ h6)
      · cases h
    exact .val inv (fun x h => ct h) (fun _ => rfl) (fun _ h => h) rfl (fun _ h => h) (fun _ => rfl)
  | .lrg2 a b, X, W, B => by
    have inv : ∀ x, (ck nx (.lrg2 a b) X.env.scope).e x = true → PE X x (tz (rV X.K) (kk X X9 W) (zLrg2 (opd a (ev T C a).e) (opd b (ev T C b).e))) := by
      intro x h
      dsimp only [ck] at h
      split at h
      · obtain ⟨h1, h⟩ := ba h
        obtain ⟨h2, h⟩ := ba h
        obtain ⟨h3, h⟩ := ba h
        obtain ⟨h4, h⟩ := ba h
        obtain ⟨h5, h⟩ := ba h
        obtain ⟨h6, h⟩ := ba h
        obtain ⟨h7, h8⟩ := ba h
        have e1 := of_decide_eq_true h1
        have e3 := of_decide_eq_true h3
        subst e1 e3
        exact z_lrg2 B h2 h4 h5 h6 ((all_J a X W B).o _ h7) ((all_J b X W B).o _ h8)
      · cases h
    exact .val inv (fun x h => ct h) (fun _ => rfl) (fun _ h => h) rfl (fun _ h => h) (fun _ => rfl)
end
end Z

set_option Elab.async false
set_option linter.all false
set_option maxRecDepth 100000
set_option maxHeartbeats 8000000
namespace Z
open PySem PySem.Spec PyProof.Rows L2

/-! ## statements: the code -/
/-- what stands in an except suite -/
inductive HE where
  | rsn (f : Str) | cst (d : D) | isI (j : Nat) | and (a b : HE) | or (a b : HE) | not (a : HE) | ife (t a b : HE) | add (a b : HE) | eq (a b : HE)
inductive S where
  | nil | cons (s r : S)
  | doc | pass | brk | cnt
  | ret (a : E) | retN
  | set (t : Tg) (a : E) | setI (i : Nat) (ix v : E) | app (i : Nat) (a : E) | aug (i : Nat) (o : BOp) (a : E)
  | ex (a : E) | ife (t : E) (a b : S) | for_ (t : Tg) (it : E) (b : S)
  | rai (c : Nat) (a : E) | try1 (b : S) (i : Nat) (h : HE)
  | rest | ext (i : Nat) (a : E) | par (i j : Nat) (as : E)
inductive Fl where
  | nx (n : En) | rt (r : R) (n : En) | bk (n : En) | ct (n : En) | ex (c : Nat) (d : D) (n : En) | st
@[reducible] def Fl.of {α : Type} (m : Ou α) (k : α → En → Fl) : Fl := match m with
  | .ok a n => k a n
  | .ex c d n => .ex c d n
  | .st => .st
/-- whether class c is class j or under it: 0.. the leaves, 10 the base, 11 the built-in one -/
def sbC (c j : Nat) : Bool := c == j || decide (10 ≤ j)
/-- the name of the attribute that a class's errors bear -/
def atN (c : Nat) : Str := if c = 0 then "at" else if c = 9 then "line" else "reason"
def hv (c : Nat) (d : D) : HE → Option D
  | .rsn f => if f = atN c then some d else none
  | .cst x => some x
  | .isI j => some (.bool (sbC c j))
  | .and a b => match hv c d a with
    | some (.bool true) => hv c d b
    | some (.bool false) => some (.bool false)
    | _ => none
  | .or a b => match hv c d a with
    | some (.bool false) => hv c d b
    | some (.bool true) => some (.bool true)
    | _ => none
  | .not a => match hv c d a with
    | some (.bool b) => some (.bool (!b))
    | _ => none
  | .ife t a b => match hv c d t with
    | some (.bool true) => hv c d a
    | some (.bool false) => hv c d b
    | _ => none
  | .add a b => match hv c d a, hv c d b with
    | some (.str x), some (.str y) => if fitL (x.length + y.length) then some (.str (x ++ y)) else none
    | _, _ => none
  | .eq a b => match hv c d a, hv c d b with
    | some x, some y => if SeqAt.shaped x && SeqAt.shaped y then some (.bool (PyData.eqv x y)) else none
    | _, _ => none
def putR (t : Tg) (r : R) (n : En) : Option En := match t with
  | .nm i => match n[i]? with
    | some (.pn _) => none
    | some _ => some (n.set i r.sl)
    | none => none
  | .tp is => (Tg.tp is).put r.d n
def augF : BOp → Option (Int → Int → Int)
  | .add => some fun x y => x + y
  | .sub => some fun x y => x - y
  | _ => none
/-- what a message may hold -/
def fmtOk : D → Bool
  | .str x => decide (x.length ≤ 1000)
  | .int i => decide (i.natAbs < 2 ^ 64)
  | _ => false
def frz1 : P → Option D
  | .dd d => some d
  | _ => none
/-- an owned list, and how it goes back -/
def ownAt (n : En) (i : Nat) : Option (List D × (List D → Sl)) := match n[i]? with
  | some (.ow (.list ds)) => some (ds, fun es => .ow (.list es))
  | some (.pn (.list ds)) => some (ds, fun es => .pn (.list es))
  | _ => none
def forGo (t : Tg) (b : En → Fl) : List D → En → Fl
  | [], n => .nx n
  | x :: xs, n => match t.put x n with
    | none => .st
    | some n1 => match b n1 with
      | .nx n2 => forGo t b xs n2
      | .ct n2 => forGo t b xs n2
      | .bk n2 => .nx n2
      | .rt r n2 => .rt r n2
      | .ex c d n2 => .ex c d n2
      | .st => .st
section
variable (T : Tb) (C : Nat → Option D)
def sv : S → En → Fl
  | .nil, n => .nx n
  | .cons s r, n => match sv s n with
    | .nx n1 => sv r n1
    | .rt v n1 => .rt v n1
    | .bk n1 => .bk n1
    | .ct n1 => .ct n1
    | .ex c d n1 => .ex c d n1
    | .st => .st
  | .doc, n => .nx n
  | .pass, n => .nx n
  | .brk, n => .bk n
  | .cnt, n => .ct n
  | .ret a, n => Fl.of ((ev T C a).e n) fun r n1 => .rt r n1
  | .retN, n => .rt (.fr .none) n
  | .set t a, n => Fl.of ((ev T C a).e n) fun r n1 => match putR t r n1 with
    | some n2 => .nx n2
    | none => .st
  | .setI i ix v, n => Fl.of ((ev T C v).e n) fun r n1 => match ownAt n1 i with
    | some _ => Fl.of (opd ix (ev T C ix).e n1) fun q n2 => match ownAt n2 i, rs n2 q with
      | some (ds, k), some (.int j) => match ixN ds.length j with
        | some m => .nx (n2.set i (k (ds.set m r.d)))
        | none => .st
      | _, _ => .st
    | none => .st
  | .app i a, n => match ownAt n i with
    | some _ => Fl.of ((ev T C a).e n) fun r n1 => match ownAt n1 i with
      | some (ds, k) => if decide (ds.length < sizeLine) then .nx (n1.set i (k (ds ++ [r.d]))) else .st
      | none => .st
    | none => .st
  | .aug i o a, n => match augF o with
    | some f => match n[i]? with
      | some (.fz (.int _)) => Fl.of ((ev T C a).e n) fun r n1 => match n1[i]?, r with
        | some (.fz (.int x)), .fr (.int y) => .nx (n1.set i (.fz (.int (f x y))))
        | _, _ => .st
      | _ => .st
    | none => .st
  | .ex a, n => Fl.of ((ev T C a).e n) fun _ n1 => .nx n1
  | .ife t a b, n => Fl.of ((ev T C t).t n) fun k n1 => if k then sv a n1 else sv b n1
  | .for_ t it b, n => Fl.of ((ev T C it).i n) fun xs n1 => forGo t (sv b) xs n1
  | .rai c a, n => Fl.of ((ev T C a).e n) fun r n1 => if fmtOk r.d then .ex c r.d n1 else .st
  | .try1 b i h, n => match sv b n with
    | .ex c d n1 => match hv c d h, n1[i]? with
      | some r, some _ => .rt (.fr r) n1
      | _, _ => .st
    | f => f
  | .rest, _ => .st
  | .ext i a, n => match ownAt n i with
    | some _ => Fl.of ((ev T C a).e n) fun r n1 => match ownAt n1 i, r.d with
      | some (ds, k), .list es => if decide (ds.length + es.length ≤ sizeLine) then .nx (n1.set i (k (ds ++ es))) else .st
      | _, _ => .st
    | none => .st
  | .par i j as, n => Fl.of ((ev T C as).l n) fun ps n1 => match frl ps with
    | some [x, y] => match setAll n1 [i, j] [x, y] with
      | some n2 => .nx n2
      | none => .st
    | _ => .st
/-- what the owned parameters hold behind the call -/
def finD : List Sl → En → List D
  | [], _ => []
  | .pn _ :: r, .pn d :: n => d :: finD r n
  | _ :: r, _ :: n => .none :: finD r n
  | _ :: r, [] => .none :: finD r []
/-- a def: m slots in all -/
def evDef (m : Nat) (b : S) (ss : List Sl) : Rt := match sv T C b (ss ++ List.replicate (m - ss.length) .un) with
  | .nx n => .ret (.fr .none) (finD ss n)
  | .rt r n => .ret r (finD ss n)
  | .ex c d n => .ex c d (finD ss n)
  | _ => .st
end

/-! ## pinned slots stay pinned -/
def isPn : Option Sl → Bool
  | some (.pn _) => true
  | _ => false
def PnE (n n' : En) : Prop := ∀ i : Nat, isPn n'[i]? = isPn n[i]?
theorem PnE.refl {n : En} : PnE n n := fun _ => rfl
theorem PnE.trans {n n1 n2 : En} (a : PnE n n1) (b : PnE n1 n2) : PnE n n2 := fun i => (b i).trans (a i)
theorem PnE.set {n : En} {i : Nat} {s t : Sl} (h : n[i]? = some t) (e : isPn (some s) = isPn (some t)) : PnE n (n.set i s) := fun j => by
  by_cases q : j = i
  · subst q; rw [List.getElem?_set_self (List.getElem?_eq_some_iff.mp h).1, h, e]
  · rw [List.getElem?_set_ne (Ne.symm q)]
def KpO {α : Type} (n : En) : Ou α → Prop
  | .ok _ n' => PnE n n'
  | .ex _ _ n' => PnE n n'
  | .st => True
theorem KpO.bd {α β : Type} {n : En} {m : Ou α} {f : α → En → Ou β} (h : KpO n m) (g : ∀ a n', PnE n n' → KpO n (f a n')) : KpO n (m.bd f) := by
  cases m with
  | ok a n' => exact g a n' h
  | ex c d n' => exact h
  | st => trivial
theorem KpO.trans {α : Type} {n n1 : En} {m : Ou α} (a : PnE n n1) (b : KpO n1 m) : KpO n m := by
  cases m with
  | ok _ n' => exact a.trans b
  | ex c d n' => exact a.trans b
  | st => trivial
theorem KpO.of {α : Type} {n n1 : En} {o : Option α} (h : PnE n n1) : KpO n (Ou.of o n1) := by
  cases o with
  | none => trivial
  | some a => exact h
theorem setAll_pn : ∀ {is : List Nat} {ds : List D} {n n' : En}, setAll n is ds = some n' → PnE n n'
  | [], [], n, n', e => by cases e; exact .refl
  | [], _ :: _, n, n', e => by cases e
  | i :: is, [], n, n', e => by cases e
  | i :: is, d :: ds, n, n', e => by
    have e : (match n[i]? with
      | some (.pn _) => none
      | some _ => setAll (n.set i (.fz d)) is ds
      | none => none) = some n' := e
    cases q : n[i]? with
    | none => rw [q] at e; cases e
    | some t =>
      rw [q] at e
      cases t with
      | pn x => cases e
      | un => exact (PnE.set (s := .fz d) q rfl).trans (setAll_pn (show setAll (n.set i (.fz d)) is ds = some n' from e))
      | fz x => exact (PnE.set (s := .fz d) q rfl).trans (setAll_pn (show setAll (n.set i (.fz d)) is ds = some n' from e))
      | ow x => exact (PnE.set (s := .fz d) q rfl).trans (setAll_pn (show setAll (n.set i (.fz d)) is ds = some n' from e))
      | er c x => exact (PnE.set (s := .fz d) q rfl).trans (setAll_pn (show setAll (n.set i (.fz d)) is ds = some n' from e))
theorem put_pn {t : Tg} {d : D} {n n' : En} (e : t.put d n = some n') : PnE n n' := by
  cases t with
  | nm i => exact setAll_pn e
  | tp is =>
    cases d <;> try (cases e; done)
    exact setAll_pn e
theorem noPn_ok {n : En} {vs : List Nat} (h : noPn n vs = true) : ∀ v ∈ vs, isPn n[v]? = false := fun v hv => by
  have q := List.all_eq_true.mp h v hv
  cases z : n[v]? with
  | none => rfl
  | some t =>
    rw [z] at q
    cases t <;> first | rfl | (cases q; done)
theorem wipe_pn {n : En} {vs : List Nat} (h : ∀ v ∈ vs, isPn n[v]? = false) : PnE n (wipeN n vs) := fun i => by
  by_cases hi : i ∈ vs
  · rw [h i hi]
    cases z : (wipeN n vs)[i]? with
    | none => rfl
    | some t => rw [wipeN_in hi z]; rfl
  · rw [wipeN_out hi]
theorem back_pn : ∀ {ps : List P} {ds : List D} {n n' : En}, putBack n ps ds = some n' → PnE n n'
  | [], ds, n, n', e => by cases e; exact .refl
  | p :: r, ds, n, n', e => by
    cases p with
    | dd x => cases ds with
      | nil => exact back_pn (ps := r) (ds := []) e
      | cons d ds => exact back_pn (ps := r) (ds := ds) e
    | sl x => cases ds with
      | nil => exact back_pn (ps := r) (ds := []) e
      | cons d ds => exact back_pn (ps := r) (ds := ds) e
    | io i =>
      cases ds with
      | nil => cases e
      | cons d ds =>
        have e : (match n[i]? with
          | some (.ow _) => putBack (n.set i (.ow d)) r ds
          | some (.pn _) => putBack (n.set i (.pn d)) r ds
          | _ => none) = some n' := e
        cases q : n[i]? with
        | none => rw [q] at e; cases e
        | some t =>
          rw [q] at e
          cases t with
          | ow x => exact (PnE.set (s := .ow d) q rfl).trans (back_pn (ps := r) (show putBack (n.set i (.ow d)) r ds = some n' from e))
          | pn x => exact (PnE.set (s := .pn d) q rfl).trans (back_pn (ps := r) (show putBack (n.set i (.pn d)) r ds = some n' from e))
          | un => cases e
          | fz x => cases e
          | er c x => cases e
theorem lcGo_pn {tg : Tg} {own : List Nat} {fc : En → Ou Bool} {fe : En → Ou R} (hc : ∀ n, KpO n (fc n)) (he : ∀ n, KpO n (fe n)) : ∀ {xs acc : List D} {n : En}, (∀ v ∈ own, isPn n[v]? = false) → KpO n (lcGo tg own fc fe xs acc n)
  | [], acc, n, h => PnE.refl
  | x :: xs, acc, n, h => by
    unfold lcGo
    cases q : tg.put x (wipeN n own) with
    | none => trivial
    | some n1 =>
      have p1 : PnE n n1 := (wipe_pn h).trans (put_pn q)
      refine (KpO.trans p1 (hc n1)).bd fun b n2 p2 => ?_
      have go : ∀ {acc : List D} {m : En}, PnE n m → KpO n (lcGo tg own fc fe xs acc m) := fun pm => KpO.trans pm (lcGo_pn hc he fun v hv => by rw [pm v]; exact h v hv)
      cases b with
      | false => rw [if_neg Bool.false_ne_true]; exact go p2
      | true =>
        rw [if_pos rfl]
        refine (KpO.trans p2 (he n2)).bd fun r n3 p3 => ?_
        by_cases hz : (decide (acc.length < sizeLine)) = true
        · rw [if_pos hz]; exact go p3
        · rw [if_neg hz]; trivial
section
variable {T : Tb} {C : Nat → Option D}
structure Kp (a : E) : Prop where
  e : ∀ n, KpO n ((ev T C a).e n)
  t : ∀ n, KpO n ((ev T C a).t n)
  l : ∀ n, KpO n ((ev T C a).l n)
  i : ∀ n, KpO n ((ev T C a).i n)
theorem opd_pn {a : E} (h : Kp (T := T) (C := C) a) (n : En) : KpO n (opd a (ev T C a).e n) := by
  cases a
  case pk i =>
    dsimp only [opd]
    cases z : n[i]? with
    | none => trivial
    | some t => cases t <;> first | trivial | exact PnE.refl
  case io i =>
    dsimp only [opd]
    cases z : n[i]? with
    | none => trivial
    | some t => cases t <;> first | trivial | exact PnE.refl
  all_goals exact (h.e n).bd (f := fun r n1 => .ok (P.dd r.d) n1) fun r n1 p => p
theorem Kp.val {a : E} {f : En → Ou R} (hf : ∀ n, KpO n (f n)) (e1 : (ev T C a).e = f) (e2 : (ev T C a).t = fun n => (f n).bd fun r n1 => .of (truD r.d) n1) (e3 : (ev T C a).l = fun _ => .st) (e4 : (ev T C a).i = fun n => (f n).bd fun r n1 => .of (seqD r.d) n1) : Kp (T := T) (C := C) a :=
  ⟨fun n => by rw [e1]; exact hf n, fun n => by rw [e2]; exact (hf n).bd fun r n1 p => KpO.of p, fun n => by rw [e3]; trivial, fun n => by rw [e4]; exact (hf n).bd fun r n1 p => KpO.of p⟩
theorem Kp.val2 {a : E} {f : En → Ou R} {g : En → Ou Bool} (hf : ∀ n, KpO n (f n)) (hg : ∀ n, KpO n (g n)) (e1 : (ev T C a).e = f) (e2 : (ev T C a).t = g) (e3 : (ev T C a).l = fun _ => .st) (e4 : (ev T C a).i = fun n => (f n).bd fun r n1 => .of (seqD r.d) n1) : Kp (T := T) (C := C) a :=
  ⟨fun n => by rw [e1]; exact hf n, fun n => by rw [e2]; exact hg n, fun n => by rw [e3]; trivial, fun n => by rw [e4]; exact (hf n).bd fun r n1 p => KpO.of p⟩
theorem Kp.no {a : E} (e : ev T C a = Ev.no) : Kp (T := T) (C := C) a := ⟨fun n => by rw [e]; trivial, fun n => by rw [e]; trivial, fun n => by rw [e]; trivial, fun n => by rw [e]; trivial⟩
theorem all_Kp : ∀ a : E, Kp (T := T) (C := C) a
  | .var i => Kp.val (f := zVar i) (fun n => by
      unfold zVar
      cases z : n[i]? with
      | none => trivial
      | some t => cases t <;> first | trivial | exact PnE.refl | exact PnE.set z rfl) rfl rfl rfl rfl
  | .pk i => ⟨fun _ => trivial, fun n => by
      show KpO n (zPkT i n)
      unfold zPkT
      cases (n[i]?).bind slD with
      | none => trivial
      | some d => exact KpO.of .refl, fun _ => trivial, fun _ => trivial⟩
  | .io _ => Kp.no rfl
  | .cst d => Kp.val (f := fun n => .ok (.fr d) n) (fun n => PnE.refl) rfl rfl rfl rfl
  | .glb g => Kp.val (f := fun n => match C g with
      | some d => .ok (.fr d) n
      | none => .st) (fun n => by
      cases z : C g with
      | none => trivial
      | some d => exact PnE.refl) rfl rfl rfl rfl
  | .op o as => Kp.val (f := zOp o (ev T C as).l) (fun n => by
      unfold zOp
      refine ((all_Kp as).l n).bd fun ps n1 p => ?_
      cases opdl o n1 ps with
      | none => trivial
      | some ds => exact KpO.of p) rfl rfl rfl rfl
  | .nil => ⟨fun _ => trivial, fun _ => trivial, fun _ => PnE.refl, fun _ => trivial⟩
  | .cons a r => ⟨fun _ => trivial, fun _ => trivial, fun n => (opd_pn (all_Kp a) n).bd fun q n1 p => (KpO.trans p ((all_Kp r).l n1)).bd fun ps n2 p2 => p2, fun _ => trivial⟩
  | .chn o1 o2 a b c => Kp.val (f := zChn o1 o2 (opd a (ev T C a).e) (opd b (ev T C b).e) (opd c (ev T C c).e)) (fun n => by
      refine (opd_pn (all_Kp a) n).bd fun pa n1 p1 => (KpO.trans p1 (opd_pn (all_Kp b) n1)).bd fun pb n2 p2 => ?_
      split
      · split
        · refine (KpO.trans p2 (opd_pn (all_Kp c) n2)).bd fun pc n3 p3 => ?_
          split
          · exact KpO.of p3
          · trivial
        · exact p2
        · trivial
      · trivial) rfl rfl rfl rfl
  | .slc a b c => Kp.val (f := zSlc (opd a (ev T C a).e) (opd b (ev T C b).e) (opd c (ev T C c).e)) (fun n => by
      refine (opd_pn (all_Kp a) n).bd fun pa n1 p1 => (KpO.trans p1 (opd_pn (all_Kp b) n1)).bd fun pb n2 p2 => ?_
      split
      · refine (KpO.trans p2 (opd_pn (all_Kp c) n2)).bd fun pc n3 p3 => ?_
        split
        · exact KpO.of p3
        · trivial
      · trivial) rfl rfl rfl rfl
  | .and a b => Kp.val2 (f := zAnd (ev T C a).e (ev T C b).e) (g := fun n => ((ev T C a).t n).bd fun k n1 => if k then (ev T C b).t n1 else .ok false n1) (fun n => by
      refine ((all_Kp a).e n).bd fun r n1 p => ?_
      split
      · exact KpO.trans p ((all_Kp b).e n1)
      · exact p
      · trivial) (fun n => ((all_Kp a).t n).bd fun k n1 p => by
        cases k with
        | true => exact KpO.trans p ((all_Kp b).t n1)
        | false => exact p) rfl rfl rfl rfl
  | .or a b => Kp.val2 (f := zOr (ev T C a).e (ev T C b).e) (g := fun n => ((ev T C a).t n).bd fun k n1 => if k then .ok true n1 else (ev T C b).t n1) (fun n => by
      refine ((all_Kp a).e n).bd fun r n1 p => ?_
      split
      · exact KpO.trans p ((all_Kp b).e n1)
      · exact p
      · trivial) (fun n => ((all_Kp a).t n).bd fun k n1 p => by
        cases k with
        | false => exact KpO.trans p ((all_Kp b).t n1)
        | true => exact p) rfl rfl rfl rfl
  | .not a => Kp.val2 (f := zNot (ev T C a).e) (g := fun n => ((ev T C a).t n).bd fun k n1 => .ok (!k) n1) (fun n => by
      refine ((all_Kp a).e n).bd fun r n1 p => ?_
      split
      · exact p
      · trivial) (fun n => ((all_Kp a).t n).bd fun k n1 p => p) rfl rfl rfl rfl
  | .ife t a b => Kp.val (f := fun n => ((ev T C t).t n).bd fun k n1 => if k then (ev T C a).e n1 else (ev T C b).e n1) (fun n => ((all_Kp t).t n).bd fun k n1 p => by
      cases k with
      | true => exact KpO.trans p ((all_Kp a).e n1)
      | false => exact KpO.trans p ((all_Kp b).e n1)) rfl rfl rfl rfl
  | .call f as => Kp.val (f := zCall (T f) (ev T C as).l) (fun n => by
      cases T f with
      | none => trivial
      | some m =>
        refine ((all_Kp as).l n).bd fun ps n1 p => ?_
        split
        · split
          · split
            · rename_i ss _ _
              cases m.2 ss with
              | st => trivial
              | ret r ds =>
                show KpO n (match putBack n1 ps ds with
                  | some n' => Ou.ok r n'
                  | none => .st)
                cases z : putBack n1 ps ds with
                | none => trivial
                | some n' => exact p.trans (back_pn z)
              | ex c d ds =>
                show KpO n (match putBack n1 ps ds with
                  | some n' => Ou.ex c d n'
                  | none => (.st : Ou R))
                cases z : putBack n1 ps ds with
                | none => trivial
                | some n' => exact p.trans (back_pn z)
            · trivial
          · trivial
        · trivial) rfl rfl rfl rfl
  | .lc elt tg it cond own => Kp.val (f := zLc tg own (ev T C it).i (ev T C cond).t (ev T C elt).e) (fun n => by
      refine ((all_Kp it).i n).bd fun xs n1 p => ?_
      split
      · rename_i h
        have h0 := noPn_ok h
        have w := wipe_pn h0
        have g := lcGo_pn (tg := tg) (own := own) (all_Kp cond).t (all_Kp elt).e (xs := xs) (acc := []) (n := wipeN n1 own) fun v hv => by rw [w v]; exact h0 v hv
        cases z : lcGo tg own (ev T C cond).t (ev T C elt).e xs [] (wipeN n1 own) with
        | st => trivial
        | ex c d n' => trivial
        | ok ds n2 =>
          rw [z] at g
          have g : PnE (wipeN n1 own) n2 := g
          have q : PnE n n2 := (p.trans w).trans g
          refine q.trans (wipe_pn fun v hv => ?_)
          rw [(w.trans g) v]; exact h0 v hv
      · trivial) rfl rfl rfl rfl
  | .yes => ⟨fun _ => trivial, fun _ => PnE.refl, fun _ => trivial, fun _ => trivial⟩
  | .rng1 a => ⟨fun _ => trivial, fun _ => trivial, fun _ => trivial, fun n => by
      refine (opd_pn (all_Kp a) n).bd fun pa n1 p1 => ?_
      split
      · split
        · exact p1
        · trivial
      · trivial⟩
  | .rng2 a b => ⟨fun _ => trivial, fun _ => trivial, fun _ => trivial, fun n => by
      refine (opd_pn (all_Kp a) n).bd fun pa n1 p1 => (KpO.trans p1 (opd_pn (all_Kp b) n1)).bd fun pb n2 p2 => ?_
      split
      · split
        · exact p2
        · trivial
      · trivial⟩
  | .enm a => ⟨fun _ => trivial, fun _ => trivial, fun _ => trivial, fun n => by
      refine ((all_Kp a).e n).bd fun r n1 p1 => ?_
      split
      · exact p1
      · trivial⟩
  | .zip a b => ⟨fun _ => trivial, fun _ => trivial, fun _ => trivial, fun n => by
      refine ((all_Kp a).e n).bd fun r n1 p1 => (KpO.trans p1 ((all_Kp b).e n1)).bd fun q n2 p2 => ?_
      split
      · exact p2
      · exact p2
      · trivial⟩
  | .eat i => Kp.val (f := zEat i) (fun n => by
      unfold zEat
      cases z : n[i]? with
      | none => trivial
      | some t => cases t <;> first | trivial | exact PnE.refl) rfl rfl rfl rfl
  | .eis _ _ => Kp.no rfl
  | .any => Kp.no rfl
  | .chn3 o1 o2 o3 a b c d => Kp.val (f := zChn3 o1 o2 o3 (opd a (ev T C a).e) (opd b (ev T C b).e) (opd c (ev T C c).e) (opd d (ev T C d).e)) (fun n => by
      refine (opd_pn (all_Kp a) n).bd fun pa n1 p1 => (KpO.trans p1 (opd_pn (all_Kp b) n1)).bd fun pb n2 p2 => ?_
      split
      · split
        · refine (KpO.trans p2 (opd_pn (all_Kp c) n2)).bd fun pc n3 p3 => ?_
          split
          · split
            · refine (KpO.trans p3 (opd_pn (all_Kp d) n3)).bd fun pd n4 p4 => ?_
              split
              · exact KpO.of p4
              · trivial
            · exact p3
            · trivial
          · trivial
        · exact p2
        · trivial
      · trivial) rfl rfl rfl rfl
  | .lrg1 a => Kp.val (f := zLrg1 (opd a (ev T C a).e)) (fun n => by
      refine (opd_pn (all_Kp a) n).bd fun pa n1 p1 => ?_
      split
      · split
        · exact p1
        · trivial
      · trivial) rfl rfl rfl rfl
  | .lrg2 a b => Kp.val (f := zLrg2 (opd a (ev T C a).e) (opd b (ev T C b).e)) (fun n => by
      refine (opd_pn (all_Kp a) n).bd fun pa n1 p1 => (KpO.trans p1 (opd_pn (all_Kp b) n1)).bd fun pb n2 p2 => ?_
      split
      · split
        · exact p2
        · trivial
      · trivial) rfl rfl rfl rfl
end
end Z

set_option Elab.async false
set_option linter.all false
set_option maxRecDepth 100000
set_option maxHeartbeats 8000000
namespace Z
open PySem PySem.Spec PyProof.Rows L2

/-! ## statements: what holds behind them -/
structure StepS (σ : L2.St) (F H : Hp) (n : En) (σ' : L2.St) (F' H' : Hp) (n' : En) : Prop where
  f : Same F F'
  h : ∀ a o, H a = some o → ¬ own σ n a → H' a = some o
  nf : ∀ a o, F' a = some o → F a = some o ∨ H a = none ∨ own σ n a
  ow : ∀ a, own σ' n' a → own σ n a ∨ H a = none
  dom : ∀ a, H' a = none → H a = none
  pn : ∀ i : Nat, isPn n[i]? = true → σ'[i]? = σ[i]? ∧ isPn n'[i]? = true
section
variable {σ σ1 σ2 : L2.St} {F H F1 H1 F2 H2 : Hp} {n n1 n2 : En}
theorem StepS.refl : StepS σ F H n σ F H n := ⟨.refl _, fun _ _ h _ => h, fun _ _ h => .inl h, fun _ h => .inl h, fun _ h => h, fun _ h => ⟨rfl, h⟩⟩
theorem StepS.trans (a : StepS σ F H n σ1 F1 H1 n1) (b : StepS σ1 F1 H1 n1 σ2 F2 H2 n2) : StepS σ F H n σ2 F2 H2 n2 where
  f := a.f.trans b.f
  h := fun x o h no => b.h x o (a.h x o h no) fun w => (a.ow x w).elim no fun z => by rw [h] at z; cases z
  nf := fun x o h => by
    rcases b.nf x o h with q | q | q
    · exact a.nf x o q
    · exact .inr (.inl (a.dom x q))
    · rcases a.ow x q with z | z
      · exact .inr (.inr z)
      · exact .inr (.inl z)
  ow := fun x h => by
    rcases b.ow x h with q | q
    · exact a.ow x q
    · exact .inr (a.dom x q)
  dom := fun x h => a.dom x (b.dom x h)
  pn := fun i h => by
    obtain ⟨h1, h2⟩ := a.pn i h
    obtain ⟨h3, h4⟩ := b.pn i h2
    exact ⟨h3.trans h1, h4⟩
theorem StepS.of (a : Step σ F H n F1 H1 n1) (p : PnE n n1) : StepS σ F H n σ F1 H1 n1 := ⟨a.f, a.h, a.nf, fun x h => .inl (a.ow x h), a.dom, fun i h => ⟨rfl, by rw [p i]; exact h⟩⟩
end
def PoS (k : Ck) (fl : Fl) (σ : L2.St) (F H : Hp) (n : En) (D : Ends) : Prop := match fl with
  | .nx n' => ∀ σ' F' H', SO k.K F' H' σ' n' → StepS σ F H n σ' F' H' n' → D.nx σ' H'
  | .bk n' => ∀ σ' F' H', SO k.K F' H' σ' n' → StepS σ F H n σ' F' H' n' → D.bk σ' H'
  | .ct n' => ∀ σ' F' H', SO k.K F' H' σ' n' → StepS σ F H n σ' F' H' n' → D.ct σ' H'
  | .rt r n' => ∀ v σ' F' H', SO k.K F' H' σ' n' → StepS σ F H n σ' F' H' n' → rvOk k.K H F' H' v r → D.rt v H'
  | .ex c d n' => ∀ cls dd σ' F' H', SO k.K F' H' σ' n' → StepS σ F H n σ' F' H' n' → ExOk k.K k.X9 F' H' c d cls dd → k.W cls dd σ' H'
  | .st => False
def tS (k : Ck) (f : En → Fl) : TS := fun D σ H => ∃ F n, SO k.K F H σ n ∧ PoS k (f n) σ F H n D
section
variable {α β : Type} {ρ : Rho α β} {k : Ck} {σ σ1 : L2.St} {F H F1 H1 : Hp} {n n1 : En} {D : Ends}
theorem rvOk_mono {K : PySem.W.Frag} {H0 H1 F H : Hp} {v : V} {r : R} (h : ∀ a, H1 a = none → H0 a = none) (x : rvOk K H1 F H v r) : rvOk K H0 F H v r := by
  cases r with
  | fr d => exact x
  | nw d => obtain ⟨a, e, m, z⟩ := x; exact ⟨a, e, m, h a z⟩
theorem PoS.shift {fl : Fl} (h : PoS k fl σ F H n D) (t : StepS σ F H n σ1 F1 H1 n1) : PoS k fl σ1 F1 H1 n1 D := by
  cases fl with
  | nx n' => exact fun σ' F' H' s u => h σ' F' H' s (t.trans u)
  | bk n' => exact fun σ' F' H' s u => h σ' F' H' s (t.trans u)
  | ct n' => exact fun σ' F' H' s u => h σ' F' H' s (t.trans u)
  | rt r n' => exact fun v σ' F' H' s u x => h v σ' F' H' s (t.trans u) (rvOk_mono t.dom x)
  | ex c d n' => exact fun cls dd σ' F' H' s u x => h cls dd σ' F' H' s (t.trans u) x
  | st => exact h
/-- an expression, then the rest -/
theorem PoS.of {m : Ou α} {f : α → En → Fl} (kp : KpO n m) (h : PoS k (Fl.of m f) σ F H n D) :
    Po ρ k m σ F H n fun b H1 => ∃ F1 n1 a, SO k.K F1 H1 σ n1 ∧ Step σ F H n F1 H1 n1 ∧ PnE n n1 ∧ ρ.r H F1 H1 σ n1 b a ∧ PoS k (f a n1) σ F H n D := by
  cases m with
  | ok a n1 => exact fun b F1 H1 s t r => ⟨F1, n1, a, s, t, kp, r, h⟩
  | ex c d n' => exact fun cls dd F' H' s t x => h cls dd σ F' H' s (StepS.of t kp) x
  | st => exact h
/-- statements, then the rest -/
theorem PoS.sq {fl : Fl} {g : En → Fl} (h : PoS k (match fl with
    | .nx n1 => g n1
    | .rt v n1 => .rt v n1
    | .bk n1 => .bk n1
    | .ct n1 => .ct n1
    | .ex c d n1 => .ex c d n1
    | .st => .st) σ F H n D) : PoS k fl σ F H n { D with nx := fun σ' H' => tS k g D σ' H' } := by
  cases fl with
  | nx n1 => exact fun σ' F' H' s t => ⟨F', n1, s, PoS.shift h t⟩
  | rt v n1 => exact h
  | bk n1 => exact h
  | ct n1 => exact h
  | ex c d n1 => exact h
  | st => exact h

/-! ## slots that are set -/
theorem getset {α : Type} {l : List α} {i j : Nat} {x t : α} (hi : i < l.length) (e : (l.set i x)[j]? = some t) : (j = i ∧ t = x) ∨ (j ≠ i ∧ l[j]? = some t) := by
  by_cases q : j = i
  · subst q; rw [List.getElem?_set_self hi] at e; exact .inl ⟨rfl, (Option.some.inj e).symm⟩
  · rw [List.getElem?_set_ne (Ne.symm q)] at e; exact .inr ⟨q, e⟩
/-- a name set to what an expression gave; H0: the heap ahead of it -/
theorem put_so {K : PySem.W.Frag} {i : Nat} {v : V} {r : R} {n' : En} {F0 H0 : Hp} {n0 : En} (s0 : SO K F0 H0 σ n0) (s : SO K F H σ n) (t : Step σ F0 H0 n0 F H n) (p : PnE n0 n) (e : putR (.nm i) r n = some n') (x : rvOk K H0 F H v r) :
    SO K F H (σ.set i (some v)) n' ∧ StepS σ F0 H0 n0 (σ.set i (some v)) F H n' := by
  have e : (match n[i]? with
    | some (.pn _) => none
    | some _ => some (n.set i r.sl)
    | none => none) = some n' := e
  obtain ⟨t0, q, np, rfl⟩ : ∃ t0, n[i]? = some t0 ∧ isPn (some t0) = false ∧ n' = n.set i r.sl := by
    cases q : n[i]? with
    | none => rw [q] at e; cases e
    | some t0 =>
      rw [q] at e
      cases t0 with
      | pn _ => cases e
      | un => exact ⟨_, rfl, rfl, (Option.some.inj e).symm⟩
      | fz _ => exact ⟨_, rfl, rfl, (Option.some.inj e).symm⟩
      | ow _ => exact ⟨_, rfl, rfl, (Option.some.inj e).symm⟩
      | er _ _ => exact ⟨_, rfl, rfl, (Option.some.inj e).symm⟩
  have hi : i < n.length := (List.getElem?_eq_some_iff.mp q).1
  have hs : i < σ.length := by rw [← s.len]; exact hi
  have hpn : ∀ j : Nat, isPn n0[j]? = true → (σ.set i (some v))[j]? = σ[j]? ∧ isPn (n.set i r.sl)[j]? = true := fun j hj => by
    have h2 : isPn n[j]? = true := by rw [p j]; exact hj
    have ji : j ≠ i := fun z => by
      subst z
      rw [q, np] at h2; cases h2
    exact ⟨List.getElem?_set_ne (Ne.symm ji), by rw [List.getElem?_set_ne (Ne.symm ji)]; exact h2⟩
  cases r with
  | fr d =>
    obtain ⟨s1, o1⟩ := so_set s hi x
    exact ⟨s1, t.f, t.h, t.nf, fun a o => .inl (t.ow a (o1 a o)), t.dom, hpn⟩
  | nw d =>
    obtain ⟨a, rfl, m, z⟩ := x
    -- the fresh list is none of the owned ones
    have no : ∀ (j : Nat) (u : Sl) (b : Addr), n[j]? = some u → isOwn u → σ[j]? = some (some (V.ref b)) → b ≠ a := fun j u b hj ou hb hab => by
      subst hab
      obtain ⟨_, xs, w⟩ := own_lst s0 (t.ow b ⟨j, u, hj, ou, hb⟩)
      rw [z] at w; cases w
    refine ⟨⟨s.sub, by simp [s.len], fun j u hj => ?_, fun j l u w hjl hj hl ou ow => ?_⟩, t.f, t.h, t.nf, fun b o => ?_, t.dom, hpn⟩
    · rcases getset hi hj with ⟨rfl, rfl⟩ | ⟨hji, hj⟩
      · exact ⟨a, List.getElem?_set_self hs, m⟩
      · rw [List.getElem?_set_ne (Ne.symm hji)]; exact s.sl j u hj
    · rcases getset hi hj with ⟨rfl, rfl⟩ | ⟨hji, hj⟩
      · rcases getset hi hl with ⟨hlj, _⟩ | ⟨hli, hl⟩
        · exact absurd hlj.symm hjl
        · rw [List.getElem?_set_self hs, List.getElem?_set_ne (Ne.symm hli)]
          intro z2
          exact no l w a hl ow z2.symm rfl
      · rcases getset hi hl with ⟨hlj, _⟩ | ⟨hli, hl⟩
        · rw [hlj, List.getElem?_set_self hs, List.getElem?_set_ne (Ne.symm hji)]
          intro z2
          exact no j u a hj ou z2 rfl
        · rw [List.getElem?_set_ne (Ne.symm hji), List.getElem?_set_ne (Ne.symm hli)]
          exact s.ap j l u w hjl hj hl ou ow
    · obtain ⟨j, u, hj, ou, hb⟩ := o
      rcases getset hi hj with ⟨rfl, rfl⟩ | ⟨hji, hj⟩
      · rw [List.getElem?_set_self hs] at hb; cases hb; exact .inr z
      · rw [List.getElem?_set_ne (Ne.symm hji)] at hb
        exact .inl (t.ow b ⟨j, u, hj, ou, hb⟩)
/-- an owned list that is written -/
theorem ownAt_ok {K : PySem.W.Frag} {i : Nat} {ds : List PyData} {kf : List PyData → Sl} (s : SO K F H σ n) (e : ownAt n i = some (ds, kf)) :
    ∃ a xs, σ[i]? = some (some (.ref a)) ∧ F a = none ∧ H a = some (.lst xs) ∧ DzAll K F xs ds ∧ ∀ ys es, DzAll K F ys es → SO K F (upd H a (.lst ys)) σ (n.set i (kf es)) ∧ StepS σ F H n σ F (upd H a (.lst ys)) (n.set i (kf es)) := by
  have main : ∀ (t : Sl), n[i]? = some t → isOwn t → (∀ es, isOwn (kf es)) → (∀ es, isPn (some (kf es)) = isPn (some t)) → (∀ (F H : Hp) o es, (∃ a, o = some (some (V.ref a)) ∧ Mo K F H a (.list es)) → SlOk K F H o (kf es)) → (∃ a, σ[i]? = some (some (.ref a)) ∧ Mo K F H a (.list ds)) →
      ∃ a xs, σ[i]? = some (some (.ref a)) ∧ F a = none ∧ H a = some (.lst xs) ∧ DzAll K F xs ds ∧ ∀ ys es, DzAll K F ys es → SO K F (upd H a (.lst ys)) σ (n.set i (kf es)) ∧ StepS σ F H n σ F (upd H a (.lst ys)) (n.set i (kf es)) := by
    rintro t ht ot ok pk mk ⟨a, ha, m0, ds', xs, e1, m1, m2⟩
    cases e1
    have hi : i < n.length := (List.getElem?_eq_some_iff.mp ht).1
    refine ⟨a, xs, ha, m0, m1, m2, fun ys es hd => ?_⟩
    have oa : own σ n a := ⟨i, t, ht, ot, ha⟩
    have back : ∀ {j : Nat} {u : Sl}, (n.set i (kf es))[j]? = some u → isOwn u → ∃ w, n[j]? = some w ∧ isOwn w := fun {j u} hj ou => by
      rcases getset hi hj with ⟨rfl, _⟩ | ⟨_, hj⟩
      · exact ⟨t, ht, ot⟩
      · exact ⟨u, hj, ou⟩
    refine ⟨⟨fun b o q => ?_, by rw [List.length_set, s.len], fun j u hj => ?_, fun j l u w hjl hj hl ou ow => ?_⟩, .refl _, fun b o q no => ?_, fun b o q => .inl q, fun b o => ?_, fun b q => ?_, fun j hj => ⟨rfl, ?_⟩⟩
    · rw [upd_ne (show b ≠ a from fun z => by rw [z, m0] at q; cases q)]; exact s.sub b o q
    · rcases getset hi hj with ⟨rfl, rfl⟩ | ⟨hji, hj⟩
      · exact mk _ _ _ _ ⟨a, ha, m0, es, ys, rfl, upd_same, hd⟩
      · have y := s.sl j u hj
        have mo : ∀ {b d}, isOwn u → σ[j]? = some (some (V.ref b)) → Mo K F H b d → Mo K F (upd H a (.lst ys)) b d := by
          rintro b d ou hb ⟨k0, fs, zs, rfl, k1, k2⟩
          refine ⟨k0, fs, zs, rfl, ?_, k2⟩
          rw [upd_ne (show b ≠ a from fun z => s.ap j i u t hji hj ht ou ot (by rw [hb, ha, z]))]
          exact k1
        cases u with
        | un => trivial
        | fz d => exact y
        | ow d => obtain ⟨b, y1, y2⟩ := y; exact ⟨b, y1, mo trivial y1 y2⟩
        | pn d => obtain ⟨b, y1, y2⟩ := y; exact ⟨b, y1, mo trivial y1 y2⟩
        | er c d => exact y
    · obtain ⟨u', h1, o1⟩ := back hj ou
      obtain ⟨w', h2, o2⟩ := back hl ow
      exact s.ap j l u' w' hjl h1 h2 o1 o2
    · rw [upd_ne (show b ≠ a from fun z => no (z ▸ oa))]; exact q
    · obtain ⟨j, u, hj, ou, hb⟩ := o
      obtain ⟨u', h1, o1⟩ := back hj ou
      exact .inl ⟨j, u', h1, o1, hb⟩
    · by_cases z : b = a
      · subst z; rw [upd_same] at q; cases q
      · rw [upd_ne z] at q; exact q
    · by_cases z : j = i
      · subst z; rw [List.getElem?_set_self hi, pk, ← ht]; exact hj
      · rw [List.getElem?_set_ne (Ne.symm z)]; exact hj
  unfold ownAt at e
  split at e
  · rename_i ds' q
    cases e
    exact main _ q trivial (fun _ => trivial) (fun _ => rfl) (fun _ _ _ _ h => h) (s.sl i _ q)
  · rename_i ds' q
    cases e
    exact main _ q trivial (fun _ => trivial) (fun _ => rfl) (fun _ _ _ _ h => h) (s.sl i _ q)
  · cases e
theorem StepS.val (a : StepS σ F H n σ1 F1 H1 n1) {K : PySem.W.Frag} {F2 H2 : Hp} {v : V} {r : R} (x : rvOk K H1 F2 H2 v r) : rvOk K H F2 H2 v r := rvOk_mono a.dom x
/-- a value that is kept in a list is frozen -/
theorem frzS {K : PySem.W.Frag} {r : R} {v : V} {F0 H0 : Hp} {n0 : En} (s0 : SO K F0 H0 σ n0) (s : SO K F H σ n) (t : Step σ F0 H0 n0 F H n) (x : rvOk K H0 F H v r) : ∃ F2, SO K F2 H σ n ∧ Step σ F0 H0 n0 F2 H n ∧ Dz K F2 v r.d := by
  cases r with
  | fr d => exact ⟨F, s, t, x⟩
  | nw d =>
    obtain ⟨a, rfl, m, z⟩ := x
    obtain ⟨F2, s2, t2, d2, _⟩ := frz_so (k := ⟨K, fun _ => (0, ⟨#[]⟩), fun _ _ _ _ => False⟩) s0 s t m z
    exact ⟨F2, s2, t2, d2⟩
theorem StepS.put {K : PySem.W.Frag} {t : Tg} {d : PyData} {n' : En} {σ' : L2.St} (e : t.put d n = some n') (ho : ∀ a, own σ' n' a → own σ n a) (hk : ∀ j : Nat, j ∉ t.slots → σ'[j]? = σ[j]? ∧ n'[j]? = n[j]?) (hf : ∀ j : Nat, j ∈ t.slots → ∃ d, n'[j]? = some (.fz d)) : StepS σ F H n σ' F H n' :=
  ⟨.refl _, fun _ _ h _ => h, fun _ _ h => .inl h, fun a o => .inl (ho a o), fun _ h => h, fun j hj => by
    by_cases q : j ∈ t.slots
    · have p := put_pn e j
      obtain ⟨d', hd⟩ := hf j q
      rw [hd] at p
      rw [hj] at p; cases p
    · obtain ⟨h1, h2⟩ := hk j q
      exact ⟨h1, by rw [h2]; exact hj⟩⟩
end
end Z

set_option Elab.async false
set_option linter.all false
set_option maxRecDepth 100000
set_option maxHeartbeats 8000000
namespace Z
open PySem PySem.Spec PyProof.Rows L2

/-! ## what stands in an except suite -/
/-- what the classes' part of the heap says; rc: the base of all; cv: a class as a value -/
structure XF (K : PySem.W.Frag) (X9 : Nat → Addr × Str) (rc : Addr) (cv : Nat → Value) : Prop where
  at_ : ∀ c, (X9 c).2 ≠ ⟨#[]⟩ → (X9 c).2 = atN c
  xf : ∀ c, (X9 c).2 ≠ ⟨#[]⟩ → XfC K (X9 c).1
  no : ∀ c, (X9 c).2 ≠ ⟨#[]⟩ → PySem.W.findIn K (.ref (X9 c).1) (atN c) = some none
  exm : ∀ c, (X9 c).2 ≠ ⟨#[]⟩ → PySem.W.exmOne K (.ref (X9 c).1) (.ref rc) = some true
  kit : ∀ c j, (X9 c).2 ≠ ⟨#[]⟩ → (10 ≤ j ∨ (X9 j).2 ≠ ⟨#[]⟩) → PySem.W.kitOne K (.ref (X9 c).1) (cv j) = some (sbC c j)
  exc : ∀ c, (X9 c).2 ≠ ⟨#[]⟩ → ExcC K (X9 c).1
structure Ch where
  e : PySem.Expr → Bool
  t : PySem.Expr → Bool
def Ch.pl (f : PySem.Expr → Bool) : Ch := ⟨f, fun c => plainT c && f c⟩
def ckH (nx : Nx) (sc : Scope) (i : Nat) : HE → Ch
  | .rsn f => .pl fun
    | .Attribute o g _ => decide (f = g) && nameB nx sc i o
    | _ => false
  | .cst d => .pl (constB d)
  | .isI j => .pl fun
    | .Call (.Name f _) [o, .Name g _] [] _ => decide (f = "isinstance") && (glB sc f && (nameB nx sc i o && (glB sc g && (decide (g ≠ "__name__") && (if j = 11 then decide (g = "ValueError") else decide (nx.xc j = some g))))))
    | _ => false
  | .and a b => ⟨fun
    | .BoolOp .And [x, y] _ => (ckH nx sc i a).e x && (ckH nx sc i b).e y
    | _ => false, fun
    | .BoolOp .And [x, y] _ => (ckH nx sc i a).t x && (ckH nx sc i b).t y
    | _ => false⟩
  | .or a b => ⟨fun
    | .BoolOp .Or [x, y] _ => (ckH nx sc i a).e x && (ckH nx sc i b).e y
    | _ => false, fun
    | .BoolOp .Or [x, y] _ => (ckH nx sc i a).t x && (ckH nx sc i b).t y
    | _ => false⟩
  | .not a => ⟨fun
    | .UnaryOp .Not x _ => (ckH nx sc i a).e x
    | _ => false, fun
    | .UnaryOp .Not x _ => (ckH nx sc i a).t x
    | _ => false⟩
  | .ife t a b => .pl fun
    | .IfExp c x y _ => (ckH nx sc i t).t c && ((ckH nx sc i a).e x && (ckH nx sc i b).e y)
    | _ => false
  | .add a b => .pl fun
    | .BinOp x op y _ => decide (op = .Add) && ((ckH nx sc i a).e x && (ckH nx sc i b).e y)
    | _ => false
  | .eq a b => ⟨fun
    | .Compare x [op] [y] _ => decide (op = .Eq) && (noSet y && ((ckH nx sc i a).e x && (ckH nx sc i b).e y))
    | _ => false, fun
    | .Compare x [op] [y] _ => decide (op = .Eq) && (noSet y && ((ckH nx sc i a).e x && (ckH nx sc i b).e y))
    | _ => false⟩
section
variable {nx : Nx} {X : Cx} {X9 : Nat → Addr × Str} {rc : Addr} {cv : Nat → Value} {a : Addr} {oe : Obj} {cls : Value} {dd : Option Addr} {pn : List (Addr × Obj)} {i : Nat}
def tH (K : PySem.W.Frag) (X9 : Nat → Addr × Str) (i : Nat) (a : Addr) (cls : Value) (dd : Option Addr) (h : HE) : TE := fun σ H Q => ∃ F c d r, σ[i]? = some (some (.ref a)) ∧ Same F H ∧ ExOk K X9 F H c d cls dd ∧ hv c d h = some r ∧ ∀ v F' H', Ext F H F' H' → Dz K F' v r → Q v H'
theorem exOk_ext {K : PySem.W.Frag} {F H F' H' : Hp} {c : Nat} {d : D} (e : Ext F H F' H') (x : ExOk K X9 F H c d cls dd) : ExOk K X9 F' H' c d cls dd := by
  obtain ⟨h1, b, v, h2, h3, h4, h5⟩ := x
  exact ⟨h1, b, v, h2, e.h _ _ h3, dp_mono e.f h4, h5⟩
theorem Ext.trans {F H F1 H1 F2 H2 : Hp} (a : Ext F H F1 H1) (b : Ext F1 H1 F2 H2) : Ext F H F2 H2 := ⟨a.f.trans b.f, a.h.trans b.h, fun x o q => by
  rcases b.nf x o q with z | z
  · exact a.nf x o z
  · refine .inr ?_
    cases w : H x with
    | none => rfl
    | some u => exact absurd z (by rw [a.h x u w]; exact fun y => by cases y), b.sub⟩
/-- isinstance of the caught error -/
theorem call_isD {C : Addr} (E : ExcC X.K C) (hz : Zc (.ref C) dd oe) (hf : ∃ vs, oe.data = .fields vs) : CallR (X.suite a ((a, oe) :: pn)) (.builtin "isinstance") (fun xs H Q => ∃ (c : V) (w : Value) (b : Bool) (d : Addr) (fs : List (Str × V)), dd = some d ∧ H d = some (.xd fs) ∧ xs = [.ref a, c] ∧ (∀ u, RelV c u → u = w) ∧ PySem.W.kitOne X.K (.ref C) w = some b ∧ Q (.bl b) H) := by
  intro pins s σ H xs us Q I r h
  obtain ⟨c, w, b, d, fs, rfl, hd, rfl, hcv, e, q⟩ := h
  obtain ⟨u1, u2, rfl, r1, r2⟩ := vals2 r
  obtain rfl : u1 = Value.ref a := r1
  obtain rfl := hcv _ r2
  obtain ⟨hget, _⟩ := I.pin (a, oe) (List.mem_append.mpr (.inl List.mem_cons_self))
  obtain ⟨vs, hv⟩ := hf
  have hx : ObjOk X.prog X.w H s.heap d (.xd fs) := I.hok d _ hd
  obtain ⟨mA, hns, _⟩ := hx
  obtain ⟨od, ho, _⟩ := lookIn_ns hns
  have J : PySem.W.InstAt s.heap a oe C (some od) := ⟨hget, hz.1, by unfold PySem.W.notCls; rw [hv] <;> rfl, by rw [hz.2]; exact ho⟩
  have cs : (PySem.W.clsIn X.K C).isSome = true := by
    obtain ⟨cd, hc, _⟩ := PySem.W.any_some E.hd
    rw [hc]; rfl
  exact PySem.W.kia_one (PySem.W.kitx_exc cs E.hg E.hk E.hs E.ha E.hn E.ht E.hm) I.kIn J e (fun z => nomatch z) fun tk => ⟨.bl b, H, I.kept (t' := tk) fun _ _ z => z, rfl, q⟩
/-- what a suite knows -/
structure Su (nx : Nx) (X9 : Nat → Addr × Str) (rc : Addr) (cv : Nat → Value) (X : Cx) : Prop where
  eN : X.N = nx.N
  un : X.A.units + 65 < cLine
  xf : XF X.K X9 rc cv
  isi : X.mg "isinstance" = none
  ve : X.mg "ValueError" = none
  cvV : cv 11 = .type "ValueError"
  nm : ∀ j x, nx.xc j = some x → j ≠ 11 → X.mg x = some (cv j) ∧ (∃ b, cv j = .ref b) ∧ (j = 10 ∨ (X9 j).2 ≠ ⟨#[]⟩)
theorem h_ext {K : PySem.W.Frag} {h : HE} {σ : L2.St} {H : Hp} {Q : VK} {F : Hp} {c : Nat} {d r : D} (h1 : σ[i]? = some (some (.ref a))) (h2 : Same F H) (h3 : ExOk K X9 F H c d cls dd) (h4 : hv c d h = some r) (h5 : ∀ v F' H', Ext F H F' H' → Dz K F' v r → Q v H') : tH K X9 i a cls dd h σ H Q :=
  ⟨F, c, d, r, h1, h2, h3, h4, h5⟩
theorem h_name (S : Su nx X9 rc cv X) {o : PySem.Expr} (h : nameB nx X.env.scope i o = true) : PE (X.suite a ((a, oe) :: pn)) o (tVar i) := by
  cases o <;> try (cases h; done)
  rename_i x pos
  obtain ⟨h1, h2⟩ := ba (show (decide (nx.N[i]? = some x) && visB X.env.scope x) = true from h)
  obtain ⟨v, d1, d2⟩ := vis_ok (X := X) h2
  exact pe_var (X := X.suite a ((a, oe) :: pn)) (by show X.N[i]? = _; rw [S.eN]; exact of_decide_eq_true h1) v d1 d2
structure Hj (nx : Nx) (X9 : Nat → Addr × Str) (X : Cx) (a : Addr) (oe : Obj) (cls : Value) (dd : Option Addr) (pn : List (Addr × Obj)) (i : Nat) (h : HE) : Prop where
  e : ∀ x, (ckH nx X.env.scope i h).e x = true → PE (X.suite a ((a, oe) :: pn)) x (tH X.K X9 i a cls dd h)
  t : ∀ x, (ckH nx X.env.scope i h).t x = true → PT (X.suite a ((a, oe) :: pn)) x (tB (tH X.K X9 i a cls dd h))
theorem Hj.pl {h : HE} {f : PySem.Expr → Bool} (e1 : ckH nx X.env.scope i h = .pl f) (g : ∀ x, f x = true → PE (X.suite a ((a, oe) :: pn)) x (tH X.K X9 i a cls dd h)) : Hj nx X9 X a oe cls dd pn i h :=
  ⟨fun x q => g x (by rw [e1] at q; exact q), fun x q => by
    rw [e1] at q
    obtain ⟨q1, q2⟩ := ba q
    exact pt_val (g x q2) (isTrue_ok q1)⟩
theorem tB_and {K : PySem.W.Frag} {x y : HE} {σ : L2.St} {H : Hp} {Q : Bool → Hp → Prop} (q : tB (tH K X9 i a cls dd (.and x y)) σ H Q) : tAnd (tB (tH K X9 i a cls dd x)) (tB (tH K X9 i a cls dd y)) σ H Q := by
  obtain ⟨F, c, d, r, e1, e2, e3, e4, q⟩ := q
  have e4 : (match hv c d x with
    | some (.bool true) => hv c d y
    | some (.bool false) => some (.bool false)
    | _ => none) = some r := e4
  split at e4
  · rename_i z
    refine h_ext e1 e2 e3 z fun v F' H' ex dv => ?_
    cases dv
    exact ⟨true, rfl, by dsimp only; rw [if_pos rfl]; exact h_ext e1 ex.sub (exOk_ext ex e3) e4 fun v F2 H2 ex2 dv => q v F2 H2 (ex.trans ex2) dv⟩
  · rename_i z
    cases e4
    refine h_ext e1 e2 e3 z fun v F' H' ex dv => ?_
    cases dv
    obtain ⟨b, e, q⟩ := q (.bl false) F' H' ex (.bl _)
    cases e
    exact ⟨false, rfl, by dsimp only; rw [if_neg Bool.false_ne_true]; exact q⟩
  · cases e4
theorem tB_or {K : PySem.W.Frag} {x y : HE} {σ : L2.St} {H : Hp} {Q : Bool → Hp → Prop} (q : tB (tH K X9 i a cls dd (.or x y)) σ H Q) : tOr (tB (tH K X9 i a cls dd x)) (tB (tH K X9 i a cls dd y)) σ H Q := by
  obtain ⟨F, c, d, r, e1, e2, e3, e4, q⟩ := q
  have e4 : (match hv c d x with
    | some (.bool false) => hv c d y
    | some (.bool true) => some (.bool true)
    | _ => none) = some r := e4
  split at e4
  · rename_i z
    refine h_ext e1 e2 e3 z fun v F' H' ex dv => ?_
    cases dv
    exact ⟨false, rfl, by dsimp only; rw [if_neg Bool.false_ne_true]; exact h_ext e1 ex.sub (exOk_ext ex e3) e4 fun v F2 H2 ex2 dv => q v F2 H2 (ex.trans ex2) dv⟩
  · rename_i z
    cases e4
    refine h_ext e1 e2 e3 z fun v F' H' ex dv => ?_
    cases dv
    obtain ⟨b, e, q⟩ := q (.bl true) F' H' ex (.bl _)
    cases e
    exact ⟨true, rfl, by dsimp only; rw [if_pos rfl]; exact q⟩
  · cases e4
theorem tB_not {K : PySem.W.Frag} {x : HE} {σ : L2.St} {H : Hp} {Q : Bool → Hp → Prop} (q : tB (tH K X9 i a cls dd (.not x)) σ H Q) : tNot (tB (tH K X9 i a cls dd x)) σ H Q := by
  obtain ⟨F, c, d, r, e1, e2, e3, e4, q⟩ := q
  have e4 : (match hv c d x with
    | some (.bool b) => some (.bool (!b))
    | _ => none) = some r := e4
  split at e4
  · rename_i b z
    cases e4
    refine h_ext e1 e2 e3 z fun v F' H' ex dv => ?_
    cases dv
    obtain ⟨b', e, q⟩ := q (.bl (!b)) F' H' ex (.bl _)
    cases e
    exact ⟨b, rfl, q⟩
  · cases e4
theorem h_eq {K : PySem.W.Frag} {x y : HE} {σ : L2.St} {H : Hp} {Q : VK} (q : tH K X9 i a cls dd (.eq x y) σ H Q) : tOp (rCmp K .eq) (tH K X9 i a cls dd x) (tH K X9 i a cls dd y) σ H Q := by
  obtain ⟨F, c, d, r, e1, e2, e3, e4, q⟩ := q
  have e4 : (match hv c d x, hv c d y with
    | some x, some y => if SeqAt.shaped x && SeqAt.shaped y then some (.bool (PyData.eqv x y)) else none
    | _, _ => none) = some r := e4
  split at e4
  · rename_i u w zu zw
    obtain ⟨e5, e6⟩ := ite_some e4
    subst e6
    refine h_ext e1 e2 e3 zu fun v F' H' ex dv => ?_
    refine h_ext e1 ex.sub (exOk_ext ex e3) zw fun v2 F2 H2 ex2 dv2 => ?_
    refine ⟨F2, u, w, PyData.eqv u w, ex2.sub, .inl (dp_mono ex2.f dv), .inl dv2, (by show (if _ then _ else _) = _; rw [if_pos e5]), ?_⟩
    exact q _ F2 H2 (ex.trans ex2) (.bl _)
  · cases e4
theorem he_ok (S : Su nx X9 rc cv X) (hz : Zc cls dd oe) (hf : ∃ vs, oe.data = .fields vs) : ∀ (h : HE), Hj nx X9 X a oe cls dd pn i h
  | .rsn f => .pl rfl fun e h => by
    cases e <;> try (cases h; done)
    rename_i o g pos
    obtain ⟨h1, h2⟩ := ba (show (decide (f = g) && nameB nx X.env.scope i o) = true from h)
    have := of_decide_eq_true h1
    subst this
    refine ⟨fun pins s σ H Q I q => ?_⟩
    obtain ⟨F, c, d, r, e1, e2, ⟨rfl, b, v, rfl, e5, e6, pr⟩, e7, q⟩ := q
    have e7 : (if f = atN c then some d else none) = some r := e7
    by_cases e8 : f = atN c
    case neg => rw [if_neg e8] at e7; cases e7
    rw [if_pos e8] at e7
    cases e7
    subst e8
    have hb : attributeBase o (atN c) X.env (eval o X.env) = eval o X.env := by
      cases o <;> first | rfl | (cases h2; done)
    refine (pe_xf (X := X) (pn := pn) (S.xf.xf c pr) (S.xf.no c pr) hz hf (h_name (oe := oe) (a := a) (pn := pn) S h2) hb).run pins s σ H Q I ⟨.ref a, e1, rfl, rfl, b, _, v, rfl, e5, ?_, q v F H (Ext.refl e2) e6⟩
    rw [S.xf.at_ c pr]
    simp [List.lookup]
  | .cst d => .pl rfl fun e h => by
    refine PE.imp (z_cst (X := X.suite a ((a, oe) :: pn)) (X9 := X9) (W := fun _ _ _ _ => False) (show constB d e = true from h)) ?_
    rintro σ H Q ⟨F, c, d', r, e1, e2, e3, e4, q⟩
    have e4 : some d = some r := e4
    cases e4
    refine ⟨F, List.replicate σ.length .un, ⟨e2, by simp, fun j t ht => ?_, fun j l t u _ hj _ ot _ => ?_⟩, fun v F' H' s t x => ?_⟩
    · have := List.mem_of_getElem? ht
      rw [(List.mem_replicate.mp this).2]; trivial
    · have := List.mem_of_getElem? hj
      rw [(List.mem_replicate.mp this).2] at ot; exact ot.elim
    · have no : ∀ b, ¬ own σ (List.replicate σ.length Sl.un) b := fun b ⟨j, t, hj, ot, _⟩ => by
        have := List.mem_of_getElem? hj
        rw [(List.mem_replicate.mp this).2] at ot; exact ot.elim
      refine q v F' H' ⟨t.f, fun b o ho => t.h b o ho (no b), fun b o ho => ?_, s.sub⟩ x
      rcases t.nf b o ho with z | z | z
      · exact .inl z
      · exact .inr z
      · exact absurd z (no b)
  | .isI j => .pl rfl fun e h => by
    split at h
    · rename_i f fp o g gp pos
      obtain ⟨h1, h⟩ := ba h
      obtain ⟨h2, h⟩ := ba h
      obtain ⟨h3, h⟩ := ba h
      obtain ⟨h4, h⟩ := ba h
      obtain ⟨h5, h6⟩ := ba h
      have e1 := of_decide_eq_true h1
      subst e1
      refine ⟨fun pins s σ H Q I q => ?_⟩
      obtain ⟨F, c, d, r, e1, e2, ⟨rfl, b, v, rfl, e5, e6, pr⟩, e7, q⟩ := q
      have e7 : some (PyData.bool (sbC c j)) = some r := e7
      cases e7
      -- the class that is asked
      have pg : (10 ≤ j ∨ (X9 j).2 ≠ ⟨#[]⟩) ∧ ∃ w, (∀ u, RelV w u → u = cv j) ∧ PE (X.suite a ((a, oe) :: pn)) (.Name g gp) (tC w) := by
        obtain ⟨gg, gd⟩ := gl_ok (X := X) h4
        by_cases hj : j = 11
        · rw [if_pos hj] at h6
          have := of_decide_eq_true h6
          subst this
          subst hj
          refine ⟨.inl (by omega), .ty "ValueError", fun u r => ?_, pe_bltn (X := X.suite a ((a, oe) :: pn)) gg S.ve (u := .type "ValueError") (by decide +kernel) rfl (of_decide_eq_true h5) gd⟩
          rw [S.cvV]; exact r
        · rw [if_neg hj] at h6
          obtain ⟨m1, ⟨b2, m2⟩, m3⟩ := S.nm j g (of_decide_eq_true h6) hj
          exact ⟨m3.imp_left fun z => by omega, .ref b2, fun u r => (show u = Value.ref b2 from r).trans m2.symm, pe_glob (X := X.suite a ((a, oe) :: pn)) gg (by rw [m2] at m1; exact m1) rfl gd⟩
      obtain ⟨prj, w, hw, pw⟩ := pg
      have st : notStar o = true := by cases o <;> first | rfl | (cases h3; done)
      obtain ⟨ig, idb⟩ := gl_ok (X := X) h2
      refine (pe_callB (X := X.suite a ((a, oe) :: pn)) (call_isD (X := X) (S.xf.exc c pr) hz hf) ig S.isi (by decide +kernel) (pa_cons (h_name S h3) (pa_cons pw pa_nil (by rfl)) (star_ok st)) (by decide) idb (star_ok st) (by rfl)).run pins s σ H Q I ?_
      exact ⟨.ref a, e1, w, cv j, sbC c j, b, _, rfl, e5, rfl, hw, S.xf.kit c j pr prj, q _ F H (Ext.refl e2) (.bl _)⟩
    · cases h
  | .and x y => by
   refine ⟨fun e h => ?_, fun e h => ?_⟩
   · dsimp only [ckH] at h
     split at h
     · obtain ⟨h1, h2⟩ := ba h
       refine PE.imp (pe_and ((he_ok S hz hf x).e _ h1) (pe_one ((he_ok S hz hf y).e _ h2))) ?_
       rintro σ H Q ⟨F, c, d, r, e1, e2, e3, e4, q⟩
       have e4 : (match hv c d x with
         | some (.bool true) => hv c d y
         | some (.bool false) => some (.bool false)
         | _ => none) = some r := e4
       split at e4
       · rename_i z
         refine h_ext e1 e2 e3 z fun v F' H' ex dv => ?_
         cases dv
         exact ⟨true, rfl, by rw [if_pos rfl]; exact h_ext e1 ex.sub (exOk_ext ex e3) e4 fun v F2 H2 ex2 dv => q v F2 H2 (ex.trans ex2) dv⟩
       · rename_i z
         cases e4
         refine h_ext e1 e2 e3 z fun v F' H' ex dv => ?_
         cases dv
         exact ⟨false, rfl, by rw [if_neg Bool.false_ne_true]; exact q _ F' H' ex (.bl _)⟩
       · cases e4
     · cases h
   · dsimp only [ckH] at h
     split at h
     · obtain ⟨h1, h2⟩ := ba h
       exact PT.imp (pw_and ((he_ok S hz hf x).t _ h1) (pw_and1 ((he_ok S hz hf y).t _ h2))).pt fun σ H Q q => tB_and q
     · cases h
  | .or x y => by
   refine ⟨fun e h => ?_, fun e h => ?_⟩
   · dsimp only [ckH] at h
     split at h
     · obtain ⟨h1, h2⟩ := ba h
       refine PE.imp (pe_or ((he_ok S hz hf x).e _ h1) (pe_one ((he_ok S hz hf y).e _ h2))) ?_
       rintro σ H Q ⟨F, c, d, r, e1, e2, e3, e4, q⟩
       have e4 : (match hv c d x with
         | some (.bool false) => hv c d y
         | some (.bool true) => some (.bool true)
         | _ => none) = some r := e4
       split at e4
       · rename_i z
         refine h_ext e1 e2 e3 z fun v F' H' ex dv => ?_
         cases dv
         exact ⟨false, rfl, by rw [if_neg Bool.false_ne_true]; exact h_ext e1 ex.sub (exOk_ext ex e3) e4 fun v F2 H2 ex2 dv => q v F2 H2 (ex.trans ex2) dv⟩
       · rename_i z
         cases e4
         refine h_ext e1 e2 e3 z fun v F' H' ex dv => ?_
         cases dv
         exact ⟨true, rfl, by rw [if_pos rfl]; exact q _ F' H' ex (.bl _)⟩
       · cases e4
     · cases h
   · dsimp only [ckH] at h
     split at h
     · obtain ⟨h1, h2⟩ := ba h
       exact PT.imp (pw_or ((he_ok S hz hf x).t _ h1) (pw_or1 ((he_ok S hz hf y).t _ h2))).pt fun σ H Q q => tB_or q
     · cases h
  | .not x => by
   refine ⟨fun e h => ?_, fun e h => ?_⟩
   · dsimp only [ckH] at h
     split at h
     · refine PE.imp (pe_not ((he_ok S hz hf x).e _ h)) ?_
       rintro σ H Q ⟨F, c, d, r, e1, e2, e3, e4, q⟩
       have e4 : (match hv c d x with
         | some (.bool b) => some (.bool (!b))
         | _ => none) = some r := e4
       split at e4
       · rename_i b z
         cases e4
         refine h_ext e1 e2 e3 z fun v F' H' ex dv => ?_
         cases dv
         exact ⟨b, rfl, q _ F' H' ex (.bl _)⟩
       · cases e4
     · cases h
   · dsimp only [ckH] at h
     split at h
     · exact PT.imp (pt_not ((he_ok S hz hf x).t _ h)) fun σ H Q q => tB_not q
     · cases h
  | .ife t x y => .pl rfl fun e h => by
    split at h
    · rename_i c0 x0 y0 pos
      obtain ⟨h2, h⟩ := ba h
      obtain ⟨h3, h4⟩ := ba h
      refine PE.imp (pe_ifExp ((he_ok S hz hf t).t _ h2) ((he_ok S hz hf x).e _ h3) ((he_ok S hz hf y).e _ h4)) ?_
      rintro σ H Q ⟨F, c, d, r, e1, e2, e3, e4, q⟩
      have e4 : (match hv c d t with
        | some (.bool true) => hv c d x
        | some (.bool false) => hv c d y
        | _ => none) = some r := e4
      split at e4
      · rename_i z
        refine h_ext e1 e2 e3 z fun v F' H' ex dv => ?_
        cases dv
        exact ⟨true, rfl, by dsimp only; rw [if_pos rfl]; exact h_ext e1 ex.sub (exOk_ext ex e3) e4 fun v F2 H2 ex2 dv => q v F2 H2 (ex.trans ex2) dv⟩
      · rename_i z
        refine h_ext e1 e2 e3 z fun v F' H' ex dv => ?_
        cases dv
        exact ⟨false, rfl, by dsimp only; rw [if_neg Bool.false_ne_true]; exact h_ext e1 ex.sub (exOk_ext ex e3) e4 fun v F2 H2 ex2 dv => q v F2 H2 (ex.trans ex2) dv⟩
      · cases e4
    · cases h
  | .add x y => .pl rfl fun e h => by
    split at h
    · obtain ⟨h1, h⟩ := ba h
      obtain ⟨h2, h3⟩ := ba h
      have := of_decide_eq_true h1
      subst this
      refine PE.imp (pe_op (op_bin (X := X.suite a ((a, oe) :: pn)) .add) ((he_ok S hz hf x).e _ h2) ((he_ok S hz hf y).e _ h3)) ?_
      rintro σ H Q ⟨F, c, d, r, e1, e2, e3, e4, q⟩
      have e4 : (match hv c d x, hv c d y with
        | some (.str x), some (.str y) => if fitL (x.length + y.length) then some (.str (x ++ y)) else none
        | _, _ => none) = some r := e4
      split at e4
      · rename_i u w zu zw
        obtain ⟨e5, e6⟩ := ite_some e4
        subst e6
        refine h_ext e1 e2 e3 zu fun v F' H' ex dv => ?_
        refine h_ext e1 ex.sub (exOk_ext ex e3) zw fun v2 F2 H2 ex2 dv2 => ?_
        refine ⟨F2, _, _, _, ex2.sub, .inl (dp_mono ex2.f dv), .inl dv2, (show binD .add (.str u) (.str w) = some (.fr (.str (u ++ w))) by show (if _ then _ else _) = _; rw [if_pos e5]), fun v3 F3 H3 ex3 x3 => ?_⟩
        exact q v3 F3 H3 ((ex.trans ex2).trans ex3) x3
      · cases e4
    · cases h
  | .eq x y => by
    have inv : ∀ e, (ckH nx X.env.scope i (.eq x y)).e e = true → ∃ u w pos, e = .Compare u [.Eq] [w] pos ∧ noSet w = true ∧ (ckH nx X.env.scope i x).e u = true ∧ (ckH nx X.env.scope i y).e w = true := by
      intro e h
      dsimp only [ckH] at h
      split at h
      · obtain ⟨h1, h⟩ := ba h
        obtain ⟨h2, h⟩ := ba h
        obtain ⟨h3, h4⟩ := ba h
        have := of_decide_eq_true h1
        subst this
        exact ⟨_, _, _, rfl, h2, h3, h4⟩
      · cases h
    refine ⟨fun e h => ?_, fun e h => ?_⟩
    · obtain ⟨u, w, pos, rfl, h2, h3, h4⟩ := inv e h
      exact PE.imp (pe_cmpR (op_cmp (X := X.suite a ((a, oe) :: pn)) S.un .eq) ((he_ok S hz hf x).e _ h3) ((he_ok S hz hf y).e _ h4) (mark_ok h2)) fun σ H Q q => h_eq q
    · obtain ⟨u, w, pos, rfl, h2, h3, h4⟩ := inv e h
      exact PT.imp (pt_cmpR (op_cmp (X := X.suite a ((a, oe) :: pn)) S.un .eq) ((he_ok S hz hf x).e _ h3) ((he_ok S hz hf y).e _ h4) (mark_ok h2)) fun σ H Q q => h_eq q
end
end Z

set_option Elab.async false
set_option linter.all false
set_option maxRecDepth 100000
set_option maxHeartbeats 8000000
namespace Z
open PySem PySem.Spec PyProof.Rows L2

/-! ## the text of statements -/
structure Cst where
  s : PySem.Stmt → Bool
  l : List PySem.Stmt → Bool
def Cst.one (f : PySem.Stmt → Bool) : Cst := ⟨f, fun _ => false⟩
def plainR : PySem.Expr → Bool
  | .ListComp _ _ _ _ => false
  | .SetComp _ _ _ _ => false
  | .DictComp _ _ _ _ _ => false
  | _ => true
def noTup : PySem.Expr → Bool
  | .Tuple _ _ _ => false
  | _ => true
/-- a name's store: of a plain value, of a list comprehension where the name is a local on the same line, or a cell -/
def setB (sc : Scope) (py : Pos) (x : Str) (e : PySem.Expr) : Bool := plainR e || (match e with
  | .ListComp _ _ cs pos => (kB sc x .local && ((py.line == pos.line) && !(cs.names.any fun (n, k) => n == x && (k == .local || k == .cell)))) || kB sc x .cell
  | _ => false)
/-- a pair of names, one of them no plain local: stored in their order -/
def cellT (sc : Scope) : PySem.Expr → Bool
  | .Tuple [.Name x _, .Name y _] _ _ => kB sc x .cell || kB sc y .cell
  | _ => false
def ckS (nx : Nx) (sc : Scope) : S → Cst
  | .rest => ⟨fun _ => true, fun _ => true⟩
  | .nil => ⟨fun _ => false, fun sts => sts.isEmpty⟩
  | .cons s r => ⟨fun _ => false, fun
    | st :: sts => (ckS nx sc s).s st && (ckS nx sc r).l sts
    | [] => false⟩
  | .doc => .one fun
    | .Expr (.Constant (.str _) _ _) _ => true
    | _ => false
  | .pass => .one fun
    | .Pass _ => true
    | _ => false
  | .brk => .one fun
    | .Break _ => true
    | _ => false
  | .cnt => .one fun
    | .Continue _ => true
    | _ => false
  | .ret a => .one fun
    | .Return (some e) _ => (ck nx a sc).e e
    | _ => false
  | .retN => .one fun
    | .Return none _ => true
    | _ => false
  | .set t a => .one fun
    | .Assign [tg] e _ => (ck nx a sc).e e && (tgB nx (locB sc) t tg && (match tg with
      | .Name x p => setB sc p x e
      | _ => plainR e && (noTup e || cellT sc tg)))
    | _ => false
  | .setI i ix v => .one fun
    | .Assign [.Subscript o ie _] e _ => (ck nx v sc).e e && (nameB nx sc i o && ((ck nx ix sc).o ie && (plainR e && plainIx ie)))
    | _ => false
  | .app i a => .one fun
    | .Expr (.Call (.Attribute o m apos) [e] [] cpos) _ => decide (m = "append") && (nameB nx sc i o && ((ck nx a sc).e e && (notStar e && (apos.endLine == cpos.line))))
    | _ => false
  | .ext i a => .one fun
    | .Expr (.Call (.Attribute o m apos) [e] [] cpos) _ => decide (m = "extend") && (nameB nx sc i o && ((ck nx a sc).e e && (notStar e && (apos.endLine == cpos.line))))
    | _ => false
  | .par i j as => .one fun
    | .Assign [.Tuple [.Name x px, .Name y py] _ _] (.Tuple [a, b] _ _) _ => decide (nx.N[i]? = some x) && (decide (nx.N[j]? = some y) && (decide (i ≠ j) && (kB sc x .local && (kB sc y .local && (decide (py.line = px.line) && (decide (x ≠ y) &&
      (notStar a && (notStar b && (!(foldedForSure 8 a && foldedForSure 8 b) && (!(constantsAlone 8 a && constantsAlone 8 b) && (ck nx as sc).l [a, b]))))))))))
    | _ => false
  | .aug i o a => .one fun
    | .AugAssign (.Name x _) op e _ => decide (nx.N[i]? = some x) && (locB sc x && ((ck nx a sc).e e && decide (op = o.py)))
    | _ => false
  | .ex a => .one fun
    | .Expr e _ => (ck nx a sc).e e && plainR e
    | _ => false
  | .ife t a b => .one fun
    | .If c x y _ => (ck nx t sc).t c && ((ckS nx sc a).l x && (ckS nx sc b).l y)
    | _ => false
  | .for_ t it b => .one fun
    | .For tg iter body [] _ => (ck nx it sc).i iter && (noSet iter && (tgB nx (locB sc) t tg && (ezB it tg && (ckS nx sc b).l body)))
    | _ => false
  | .rai c a => .one fun
    | .Raise (some (.Call (.Name x _) [e] [] _)) none _ => decide (nx.xc c = some x) && (glB sc x && (notStar e && (decide (c < 10) && (ck nx a sc).e e)))
    | _ => false
  | .try1 b i h => .one fun
    | .Try body [.ExceptHandler (some (.Name x _)) (some n) [.Return (some e) _] _] [] [] _ => decide (nx.xc 10 = some x) && (glB sc x && (decide (nx.N[i]? = some n) && (kB sc n .local && ((ckS nx sc b).l body && (ckH nx sc i h).e e))))
    | _ => false

/-! ## what a def's body knows -/
def fmtV (v : V) : Prop := (∃ x : Str, v = .str x ∧ x.length ≤ 1000) ∨ ∃ i : Int, v = .int i ∧ i.natAbs < 2 ^ 64
/-- errors of class C are made so -/
def MkOk (X : Cx) (x : Str) (C : Addr) (f : Str) : Prop := ∀ (e : PySem.Expr) (te : TE) (p pos : Pos), glB X.env.scope x = true → notStar e = true → PE X e te →
  L2.PMk X (.Call (.Name x p) [e] [] pos) (fun σ H Q => te σ H fun v H1 => fmtV v ∧ ∀ d, H1 d = none → Q (.ref C) (some d) (upd H1 d (.xd [(f, v)])))
structure BdS (nx : Nx) (T : Tb) (C : Nat → Option D) (X9 : Nat → Addr × Str) (rc : Addr) (cv : Nat → Value) (lv : Nat) (X : Cx) (W : WX) : Prop extends Bd nx T C X9 lv X W where
  su : Su nx X9 rc cv X
  hs : X.stack = X.env :: X.outer
  hf : X.env.frame = some X.env.locals
  po : PassesOwn (model X.prog X.w) X.A X.env X.xe
  kf : X.env.scope.kind = .function
  fnT : ∀ y, X.fn y = true
  mkx : ∀ (pn : List (Addr × Obj)) (xe : Value → Shared → Prop) c x, c < 10 → nx.xc c = some x → (X9 c).2 ≠ ⟨#[]⟩ ∧ MkOk (X.tr pn xe) x (X9 c).1 (X9 c).2
  rcn : ∀ x, nx.xc 10 = some x → X.mg x = some (.ref rc)
section
variable {nx : Nx} {T : Tb} {C : Nat → Option D} {X9 : Nat → Addr × Str} {rc : Addr} {cv : Nat → Value} {lv : Nat} {X : Cx} {W : WX}
theorem BdS.tr (B : BdS nx T C X9 rc cv lv X W) {W' : WX} {pn : List (Addr × Obj)} {xe : Value → Shared → Prop} (tk : Takes (X.tr pn xe) W') (po : PassesOwn (model X.prog X.w) X.A X.env xe) : BdS nx T C X9 rc cv lv (X.tr pn xe) W' where
  toBd := ⟨B.eN, B.nd, B.calm, B.gd, B.room, tk, B.fn, B.gl, B.bi⟩
  su := ⟨B.su.eN, B.su.un, B.su.xf, B.su.isi, B.su.ve, B.su.cvV, B.su.nm⟩
  hs := B.hs
  hf := B.hf
  po := po
  kf := B.kf
  fnT := B.fnT
  mkx := fun pn' xe' c x h1 h2 => B.mkx pn' xe' c x h1 h2
  rcn := B.rcn
theorem BdS.loc (B : BdS nx T C X9 rc cv lv X W) : ∀ y, locB X.env.scope y = true → Loc X.env.scope y ∧ (X.fn y = true ∨ X.env.scope.names.lookup y = some .local) := fun y h => ⟨locB_ok h, .inl (B.fnT y)⟩

theorem dzAll_set {K : PySem.W.Frag} {F : Hp} {vs : List V} {ds : List PyData} (h : DzAll K F vs ds) {v : V} {d : PyData} (x : Dz K F v d) : ∀ m : Nat, DzAll K F (vs.set m v) (ds.set m d) := by
  induction ds generalizing vs with
  | nil => cases h; intro m; exact .nil
  | cons y ds ih => cases h with | cons a b => intro m; cases m with
    | zero => exact .cons x b
    | succ m => exact .cons a (ih b m)
theorem fmt_ok {K : PySem.W.Frag} {F : Hp} {v : V} {d : PyData} (x : Dz K F v d) (h : fmtOk d = true) : fmtV v := by
  cases x <;> try (cases h; done)
  · exact .inr ⟨_, rfl, of_decide_eq_true h⟩
  · exact .inl ⟨_, rfl, of_decide_eq_true h⟩
theorem sw_par {x y : Str} {px py pt pt2 : Pos} {kt k2} {a b : PySem.Expr} {env : Env} (hk : env.scope.kind = .function) (hx : env.scope.names.lookup x = some .local) (hy : env.scope.names.lookup y = some .local) (hl : py.line = px.line) (hn : x ≠ y) (sa : notStar a = true) (sb : notStar b = true)
    (f1 : foldedForSure 8 a = true → foldedForSure 8 b = false) (f2 : constantsAlone 8 a = true → constantsAlone 8 b = false) : swappedStores [.Tuple [.Name x px, .Name y py] kt pt] (.Tuple [a, b] k2 pt2) env = pure (some [x, y]) := by
  have bk : env.blockKind = .function := by unfold Env.blockKind; rw [hk]; rfl
  have s1 : ([a, b].any fun | .Starred .. => true | _ => false) = false := by
    cases a <;> first | (cases sa; done) | (cases b <;> first | (cases sb; done) | rfl)
  have g1 : (foldedForSure 8 a && foldedForSure 8 b) = false := by
    cases q : foldedForSure 8 a
    · rfl
    · rw [f1 q]; rfl
  have g2 : (constantsAlone 8 a && constantsAlone 8 b) = false := by
    cases q : constantsAlone 8 a
    · rfl
    · rw [f2 q]; rfl
  have hn2 : (y == x) = false := by simpa using fun z => hn z.symm
  have kx : env.kindOf x = some .local := hx
  have ky : env.kindOf y = some .local := hy
  unfold swappedStores
  simp only [List.length_cons, List.length_nil, List.head?_cons, Option.map_some, Option.getD_some, PySem.Expr.pos, bk, s1, List.all_cons, List.all_nil, Bool.and_true, g1, g2, List.filterMap_cons, List.filterMap_nil, kx, ky, hl]
  simp [List.eraseDups, List.eraseDupsBy, List.eraseDupsBy.loop, hn2]
  rintro (z | z)
  · cases a <;> first | (cases sa; done) | (cases z; done)
  · cases b <;> first | (cases sb; done) | (cases z; done)
theorem len1 {α β : Type} {f : α → Option β} {a b : α} (h : f a = none ∨ f b = none) : (List.filterMap f [a, b]).length ≠ 2 := by
  cases ha : f a <;> cases hb : f b
  · simp [ha, hb]
  · simp [ha, hb]
  · simp [ha, hb]
  · rw [ha, hb] at h; rcases h with h | h <;> cases h
theorem sw_cell {t e : PySem.Expr} {env : Env} (h : cellT env.scope t = true) : swappedStores [t] e env = pure none := by
  unfold cellT at h
  split at h
  · rename_i x px y py k pt
    have key : (List.filterMap (fun
        | .Name id pos => if (env.kindOf id == some .local && pos.line == px.line) = true then some id else none
        | _ => none) [PySem.Expr.Name x px, .Name y py]).length ≠ 2 := by
      refine len1 ?_
      rcases Bool.or_eq_true_iff.mp h with z | z
      · have kx : env.kindOf x = some .cell := kB_ok z
        refine .inl ?_
        dsimp only
        rw [kx]
        rfl
      · have ky : env.kindOf y = some .cell := kB_ok z
        refine .inr ?_
        dsimp only
        rw [ky]
        rfl
    cases e <;> try rfl
    rename_i vs kk pp
    unfold swappedStores
    dsimp only
    split
    · rfl
    · split
      · rfl
      · rw [if_pos]
        simp only [List.length_cons, List.length_nil, List.head?_cons, Option.map_some, Option.getD_some, PySem.Expr.pos]
        have := key
        simp only [bne_iff_ne, ne_eq, Bool.or_eq_true]
        left
        exact this
  · cases h
/-! ## one by one -/
theorem swN {e tg : PySem.Expr} {l : Nat} {env : Env} (h : plainR e = true) : swapsWith e (some tg) l env = pure false := by
  cases e <;> first | rfl | (cases h; done)
theorem swN0 {e : PySem.Expr} {l : Nat} {env : Env} (h : plainR e = true) : swapsWith e none l env = pure false := by
  cases e <;> first | rfl | (cases h; done)
theorem swS {e tg : PySem.Expr} {env : Env} (h : noTup e = true) : swappedStores [tg] e env = pure none := by
  cases e <;> first | (cases h; done) | (cases tg <;> rfl)
/-- a value, then a target -/
theorem s_asg {t : Tg} {f : En → Ou R} (hk : ∀ n, KpO n (f n)) {D : Ends} {σ : L2.St} {H : Hp} (q : tS (kk X X9 W) (fun n => Fl.of (f n) fun r n1 => match putR t r n1 with
    | some n2 => .nx n2
    | none => .st) D σ H) : tAsg (tz (rV X.K) (kk X X9 W) f) (gTg X.K t) D σ H := by
  obtain ⟨F, n, s, q0⟩ := q
  refine ⟨F, n, s, Po.mono (PoS.of (ρ := rV X.K) (hk n) q0) ?_⟩
  clear q0
  rintro v H1 ⟨F1, n1, r, s1, t1, p1, rv, q⟩
  cases z : putR t r n1 with
  | none => rw [z] at q; exact q.elim
  | some n2 =>
    rw [z] at q
    cases t with
    | nm i =>
      obtain ⟨s2, t2⟩ := put_so s s1 t1 p1 z rv
      exact q _ F1 H1 s2 t2
    | tp is =>
      obtain ⟨F2, s2, t2, dv⟩ := frzS s s1 t1 rv
      refine tg_ok s2 z dv fun σ' s3 o3 l3 k3 f3 => ?_
      exact q σ' F2 H1 s3 ((StepS.of t2 p1).trans (StepS.put (K := X.K) (t := .tp is) (d := r.d) z o3 k3 f3))
theorem swC {elt : PySem.Expr} {gs : List Comprehension} {scope : Scope} {pos py : Pos} {y : Str} {l : Nat} {env : Env} (hy : env.scope.names.lookup y = some .cell) : swapsWith (.ListComp elt gs scope pos) (some (.Name y py)) l env = pure false := by
  have ky : env.kindOf y = some .cell := hy
  unfold swapsWith
  simp only [ky]
  have e : (some NameKind.cell == some NameKind.local) = false := rfl
  simp only [e, Bool.and_false, Bool.false_and]
theorem PS.imp {st : PySem.Stmt} {t t' : TS} (h : PS X st t) (i : ∀ D σ H, t' D σ H → t D σ H) : PS X st t' := ⟨fun pins s σ H D I q => h.run pins s σ H D I (i _ _ _ q)⟩
theorem PSs.imp {st : List PySem.Stmt} {t t' : TS} (h : PSs X st t) (i : ∀ D σ H, t' D σ H → t D σ H) : PSs X st t' := ⟨fun pins s σ H D I q => h.run pins s σ H D I (i _ _ _ q)⟩
/-- x = [..], x a local on that line -/
theorem z_setLc {elt it cond : E} {tg : Tg} {vs : List Nat} {e : PySem.Expr} {i : Nat} {y : Str} {py spos : Pos} (B : BdS nx T C X9 rc cv lv X W) (h : lcB nx (ck nx elt) (ck nx it) (ck nx cond) cond it tg vs X.env.scope e = true) (hy : X.N[i]? = some y)
    (hl : X.env.scope.names.lookup y = some .local) (hsw : swapsWith e (some (.Name y py)) spos.line X.env = pure true) :
    PS X (.Assign [.Name y py] e spos) (tAsg (tz (rV X.K) (kk X X9 W) (zLc tg vs (ev T C it).i (ev T C cond).t (ev T C elt).e)) (gName i)) := by
  obtain ⟨x, tge, iter, ifs, scope, pos, rfl, h1, h2, h3, h4, h5, h6, h7, h8⟩ := lcB_inv h
  have ok : BlkOk X.N X.env.scope scope (ownN nx vs) := by rw [B.eN]; exact blkOk_by h1
  refine PS.imp (ps_setLc (te := tz (rV X.K) (kk X X9 fun _ _ _ _ => False) (ev T C elt).e) (tt := tz rB (kk X X9 fun _ _ _ _ => False) (ev T C cond).t) (g := gTg X.K tg) B.calm B.nd hy hl hsw ((all_J it X W B.toBd).i tge iter h8 h2) ok ?_ ?_ ?_ (fold_ok h3)) ?_
  · intro s H c cl fp
    exact pg_tg (nx := nx) (X := X.blk s H scope (compEnvC scope cl c X.env) fp) B.calm B.eN B.nd (fun y hy => locB_rel hy) h4
  · intro s H c cl fp
    have Bb := B.toBd.blk (s := s) (H := H) (scope := scope) (cenv := compEnvC scope cl c X.env) (fp := fp)
    have Jc := all_J cond _ _ Bb
    rcases ifs with _ | ⟨y, _ | ⟨y2, ys⟩⟩
    · have := ifsB_nil h6
      subst this
      refine ⟨fun pins s1 σ H1 Q I q => ?_⟩
      obtain ⟨F, n, so, q⟩ := q
      exact pts_nil.run pins s1 σ H1 Q I (q true F H1 so Step.refl rfl)
    · exact pts_one (Jc.t y (ifsB_one h6))
    · cases h6
  · intro s H c cl fp
    have Bb := B.toBd.blk (s := s) (H := H) (scope := scope) (cenv := compEnvC scope cl c X.env) (fp := fp)
    exact (all_J elt _ _ Bb).e x h7
  · intro D σ H q
    rw [ownN_slots]
    exact lc_tz (fun i hi => of_decide_eq_true (List.all_eq_true.mp h5 i hi)) q
theorem ck_lc {a : E} {sc : Scope} {x : PySem.Expr} {gs : List Comprehension} {cs : Scope} {pos : Pos} (h : (ck nx a sc).e (.ListComp x gs cs pos) = true) : ∃ el tg it cond vs, a = .lc el tg it cond vs := by
  cases a
  case lc el tg it cond vs => exact ⟨_, _, _, _, _, rfl⟩
  case op o as => cases o <;> cases h
  case cst d => cases d <;> cases h
  all_goals cases h
/-- an assignment -/
theorem s_set {t : Tg} {a : E} {tge e : PySem.Expr} {pos : Pos} (B : BdS nx T C X9 rc cv lv X W) (h : ((ck nx a X.env.scope).e e && (tgB nx (locB X.env.scope) t tge && (match tge with
      | .Name x p => setB X.env.scope p x e
      | _ => plainR e && (noTup e || cellT X.env.scope tge)))) = true) : PS X (.Assign [tge] e pos) (tAsg (tz (rV X.K) (kk X X9 W) (ev T C a).e) (gTg X.K t)) := by
  obtain ⟨h1, g⟩ := ba h
  clear h
  obtain ⟨h2, h3⟩ := ba g
  clear g
  have pe := (all_J a X W B.toBd).e e h1
  cases t with
  | tp is =>
    have hg := pg_tg (X := X) (nx := nx) (tg := .tp is) (e := tge) B.calm B.eN B.nd B.loc h2
    cases tge <;> try (cases h2; done)
    rename_i es k tp
    obtain ⟨h4, h5⟩ := ba (show (plainR e && (noTup e || cellT X.env.scope (.Tuple es k tp))) = true from h3)
    have hw : swappedStores [.Tuple es k tp] e X.env = pure none := by
      rcases Bool.or_eq_true_iff.mp h5 with z | z
      · exact swS z
      · exact sw_cell z
    exact ps_asg pe hg (show swapsWith e (some (.Tuple es k tp)) pos.line X.env = pure false from swN h4) hw rfl
  | nm i =>
    cases tge <;> try (cases h2; done)
    rename_i x p
    obtain ⟨h4, h5⟩ := ba (show (decide (nx.N[i]? = some x) && locB X.env.scope x) = true from h2)
    have hN : X.N[i]? = some x := by rw [B.eN]; exact of_decide_eq_true h4
    obtain ⟨l1, l2⟩ := B.loc x h5
    rcases Bool.or_eq_true_iff.mp (show setB X.env.scope p x e = true from h3) with h6 | h6
    · exact ps_set B.nd hN l1 pe (swN h6) l2
    · cases e <;> try (cases h6; done)
      rename_i elt gs cs cpos
      rcases Bool.or_eq_true_iff.mp h6 with h7 | h7
      · obtain ⟨h7, h8⟩ := ba h7
        obtain ⟨h8, h9⟩ := ba h8
        have hsw : swapsWith (.ListComp elt gs cs cpos) (some (.Name x p)) pos.line X.env = pure true := sw_true B.kf (kB_ok h7) h8 (by simpa using h9)
        obtain ⟨el, tg, it, cond, vs, rfl⟩ := ck_lc h1
        exact z_setLc B h1 hN (kB_ok h7) hsw
      · exact ps_set B.nd hN l1 pe (swC (kB_ok h7)) l2
end
end Z

set_option Elab.async false
set_option linter.all false
set_option maxRecDepth 100000
set_option maxHeartbeats 8000000
namespace Z
open PySem PySem.Spec PyProof.Rows L2
section
variable {nx : Nx} {T : Tb} {C : Nat → Option D} {X9 : Nat → Addr × Str} {rc : Addr} {cv : Nat → Value} {lv : Nat} {X : Cx} {W : WX}
structure Js (nx : Nx) (T : Tb) (C : Nat → Option D) (X9 : Nat → Addr × Str) (X : Cx) (W : WX) (c : S) : Prop where
  s : ∀ st, (ckS nx X.env.scope c).s st = true → PS X st (tS (kk X X9 W) (sv T C c))
  l : ∀ sts, (ckS nx X.env.scope c).l sts = true → PSs X sts (tS (kk X X9 W) (sv T C c))
theorem Js.one {c : S} {f : PySem.Stmt → Bool} (e : ckS nx X.env.scope c = .one f) (h : ∀ st, f st = true → PS X st (tS (kk X X9 W) (sv T C c))) : Js nx T C X9 X W c :=
  ⟨fun st q => h st (by rw [e] at q; exact q), fun sts q => by rw [e] at q; cases q⟩
theorem PoS.now {k : Ck} {σ : L2.St} {F H : Hp} {n : En} {D : Ends} (s : SO k.K F H σ n) (q : PoS k (.nx n) σ F H n D) : D.nx σ H := q σ F H s StepS.refl
/-- xs.extend(ys), ys tracked or locked -/
theorem mt_extR {X : Cx} : MtM X "list.extend" fun x vs H Q => ∃ l b xs zs, x = .ref l ∧ vs = [.ref b] ∧ H l = some (.lst xs) ∧ Rd H b (.lst zs) ∧ xs.length + zs.length ≤ sizeLine ∧ Q .non (upd H l (.lst (xs ++ zs))) := by
  intro pins s σ H x vs v us Q I rx rv h
  obtain ⟨l, b, xs, zs, rfl, rfl, hl, hb, hz, q⟩ := h
  cases rx
  obtain ⟨u, rfl, ru⟩ := rv.one
  cases ru
  obtain ⟨_, i1, n1, r1, g1, e1⟩ := I.lstM hl
  obtain ⟨_, i2, n2, r2, e2⟩ := hb.ok I.hok
  have l2 := r2.length
  have a1 : i1.toArray.size + i2.toArray.size ≤ sizeLine := by rw [List.size_toArray, List.size_toArray]; omega
  have a2 : ¬ (!i1.toArray.isEmpty && Builtin.List.listTooLong (i1.toArray.size + i2.toArray.size)) = true := by rw [notLongL a1, Bool.and_false]; decide
  have big : i2.toArray.size ≤ sizeLine := by rw [List.size_toArray]; omega
  refine call_meets F.slot_list_extend ⟨_, e1, rfl⟩ F.entry_list_extend (F.args_list_extend_2 _ _) (AutoSeq1.list_extend_list_list_0 l i1.toArray n1 b i2.toArray n2 a2 (by rw [List.size_toArray]; omega) (by omega)) ⟨e1, e2, ?_⟩
  exact ⟨.non, _, I.lset (its' := i1 ++ i2) hl e1 (by simp) (r1.append r2) (by rw [List.length_append]; omega), rfl, q⟩
/-- a turn's wishes -/
theorem forGo_po {k : Ck} {t : Tg} {b : En → Fl} {xs : List PyData} {n1 : En} {σ : L2.St} {F H : Hp} {n : En} {D : Ends} (F0 : Hp) (h0 : Same F0 F) (q : PoS k (match b n1 with
      | .nx n2 => forGo t b xs n2
      | .ct n2 => forGo t b xs n2
      | .bk n2 => .nx n2
      | .rt r n2 => .rt r n2
      | .ex c d n2 => .ex c d n2
      | .st => .st) σ F H n D) :
    PoS k (b n1) σ F H n { D with nx := fun σ' H' => ∃ F' n', SO k.K F' H' σ' n' ∧ Same F0 F' ∧ PoS k (forGo t b xs n') σ' F' H' n' D, ct := fun σ' H' => ∃ F' n', SO k.K F' H' σ' n' ∧ Same F0 F' ∧ PoS k (forGo t b xs n') σ' F' H' n' D, bk := D.nx } := by
  cases e : b n1 with
  | nx n2 => rw [e] at q; exact fun σ' F' H' s u => ⟨F', n2, s, h0.trans u.f, PoS.shift q u⟩
  | ct n2 => rw [e] at q; exact fun σ' F' H' s u => ⟨F', n2, s, h0.trans u.f, PoS.shift q u⟩
  | bk n2 => rw [e] at q; exact q
  | rt r n2 => rw [e] at q; exact q
  | ex c d n2 => rw [e] at q; exact q
  | st => rw [e] at q; exact q
theorem s_for {t : Tg} {fi : En → Ou (List PyData)} {b : En → Fl} (hk : ∀ n, KpO n (fi n)) {D : Ends} {σ : L2.St} {H : Hp} (q : tS (kk X X9 W) (fun n => Fl.of (fi n) fun xs n1 => forGo t b xs n1) D σ H) :
    tFor (tz (rI X.K) (kk X X9 W) fi) (gTg X.K t) (tS (kk X X9 W) b) D σ H := by
  obtain ⟨F, n, s, q0⟩ := q
  refine ⟨F, n, s, Po.mono (PoS.of (ρ := rI X.K) (hk n) q0) ?_⟩
  clear q0
  rintro J H1 ⟨F1, n1, ds, s1, t1, p1, it, q⟩
  have q : PoS (kk X X9 W) (forGo t b ds n1) σ F1 H1 n1 D := PoS.shift q (StepS.of t1 p1)
  refine ⟨fun i m σc Hc => m = ds.length - i ∧ i ≤ ds.length ∧ ∃ Fc nc, SO X.K Fc Hc σc nc ∧ Same F1 Fc ∧ PoS (kk X X9 W) (forGo t b (ds.drop i) nc) σc Fc Hc nc D, ⟨ds.length, rfl, Nat.zero_le _, F1, n1, s1, .refl _, q⟩, ?_⟩
  rintro i m σc Hc ⟨rfl, hi, Fc, nc, sc, fc, qc⟩
  rcases (Nat.lt_or_ge i ds.length).symm with hge | hlt
  · have ei : i = ds.length := by omega
    subst ei
    rw [List.drop_length] at qc
    exact .inl ⟨it.stop Hc Fc fc sc.sub, PoS.now sc qc⟩
  · refine .inr ⟨it.go i Hc Fc fc sc.sub hlt, fun σ' H' => ∃ F' n', SO X.K F' H' σ' n' ∧ Same F1 F' ∧ PoS (kk X X9 W) (forGo t b (ds.drop (i + 1)) n') σ' F' H' n' D, fun σ' H' p' => ⟨ds.length - (i + 1), by omega, rfl, hlt, p'⟩, fun x H' y => ?_⟩
    obtain ⟨F2, d, ex, ed, dx⟩ := it.yld i Hc Fc x H' fc sc.sub hlt y
    have e0 : ds.drop i = d :: ds.drop (i + 1) := by
      rw [List.drop_eq_getElem_cons hlt]
      rw [List.getElem?_eq_getElem hlt] at ed
      rw [Option.some.inj ed]
    rw [e0] at qc
    have qc : PoS (kk X X9 W) (match t.put d nc with
      | none => .st
      | some n1 => match b n1 with
        | .nx n2 => forGo t b (ds.drop (i + 1)) n2
        | .ct n2 => forGo t b (ds.drop (i + 1)) n2
        | .bk n2 => .nx n2
        | .rt r n2 => .rt r n2
        | .ex c d n2 => .ex c d n2
        | .st => .st) σc Fc Hc nc D := qc
    cases hp : t.put d nc with
    | none => rw [hp] at qc; exact qc.elim
    | some np =>
      rw [hp] at qc
      have s2 := sc.ext ex
      refine tg_ok s2 hp dx fun σ' s3 o3 l3 k3 f3 => ⟨F2, np, s3, ?_⟩
      have st : StepS σc Fc Hc nc σ' F2 H' np := (StepS.of (Step.ext ex) .refl).trans (StepS.put (K := X.K) hp o3 k3 f3)
      exact forGo_po F1 (fc.trans ex.f) (PoS.shift qc st)
theorem s_aug {i : Nat} {o : BOp} {a : E} {x : Str} {e : PySem.Expr} {p pos : Pos} (B : BdS nx T C X9 rc cv lv X W) (hN : X.N[i]? = some x) (l1 : Loc X.env.scope x) (l2 : X.fn x = true ∨ X.env.scope.names.lookup x = some .local) (pe : PE X e (tz (rV X.K) (kk X X9 W) (ev T C a).e)) :
    PS X (.AugAssign (.Name x p) o.py e pos) (tS (kk X X9 W) (sv T C (.aug i o a))) := by
  have main : ∀ (f : Int → Int → Int), augF o = some f → PIp X o.py (ipI f) → PS X (.AugAssign (.Name x p) o.py e pos) (tS (kk X X9 W) (sv T C (.aug i o a))) := by
    intro f hf ip
    refine PS.imp (ps_aug B.nd hN l1 pe ip l2) ?_
    rintro D σ H ⟨F, n, s, q⟩
    have q : PoS (kk X X9 W) (match augF o with
      | some f => match n[i]? with
        | some (.fz (.int _)) => Fl.of ((ev T C a).e n) fun r n1 => match n1[i]?, r with
          | some (.fz (.int x)), .fr (.int y) => .nx (n1.set i (.fz (.int (f x y))))
          | _, _ => .st
        | _ => .st
      | none => .st) σ F H n D := q
    rw [hf] at q
    dsimp only at q
    split at q
    · rename_i k ek
      obtain ⟨v, e1, e2⟩ := s.sl i _ ek
      cases e2
      refine ⟨.int k, e1, F, n, s, Po.mono (PoS.of (ρ := rV X.K) ((all_Kp a).e n) q) ?_⟩
      clear q
      rintro y H1 ⟨F1, n1, r, s1, t1, p1, rv, q⟩
      split at q
      · rename_i k2 m ek2
        obtain ⟨v, e3, e4⟩ := s1.sl i _ ek2
        rw [e1] at e3; cases e3
        cases e4
        have rv : Dz X.K F1 y (.int m) := rv
        cases rv
        have ep : putR (.nm i) (.fr (.int (f k m))) n1 = some (n1.set i (.fz (.int (f k m)))) := by
          unfold putR
          dsimp only
          rw [ek2]
          rfl
        obtain ⟨s2, t2⟩ := put_so s s1 t1 p1 ep (show rvOk X.K H F1 H1 (.int (f k m)) (.fr (.int (f k m))) from Dz.int (f k m))
        exact ⟨k, m, rfl, rfl, q _ F1 H1 s2 t2⟩
      · exact q.elim
    · exact q.elim
  cases o
  case add => exact main _ rfl ip_add
  case sub => exact main _ rfl ip_sub
  all_goals
    refine ⟨fun pins s σ H D I q => ?_⟩
    obtain ⟨F, n, s, q⟩ := q
    exact q.elim
theorem all_S : ∀ (c : S) (X : Cx) (W : WX), BdS nx T C X9 rc cv lv X W → Js nx T C X9 X W c
  | .nil, X, W, B => by
    refine ⟨fun st h => (by cases h), fun sts h => ?_⟩
    cases sts with
    | cons _ _ => cases h
    | nil =>
      refine PSs.imp pss_nil ?_
      rintro D σ H ⟨F, n, s, q⟩
      exact PoS.now s q
  | .cons c r, X, W, B => by
    refine ⟨fun st h => (by cases h), fun sts h => ?_⟩
    cases sts with
    | nil => cases h
    | cons st sts =>
      obtain ⟨h1, h2⟩ := ba h
      refine PSs.imp (pss_cons ((all_S c X W B).s st h1) ((all_S r X W B).l sts h2)) ?_
      rintro D σ H ⟨F, n, s, q⟩
      exact ⟨F, n, s, PoS.sq q⟩
  | .doc, X, W, B => .one rfl fun st h => by
    split at h
    · refine PS.imp ps_doc ?_
      rintro D σ H ⟨F, n, s, q⟩
      exact PoS.now s q
    · cases h
  | .pass, X, W, B => .one rfl fun st h => by
    split at h
    · refine PS.imp ps_pass ?_
      rintro D σ H ⟨F, n, s, q⟩
      exact PoS.now s q
    · cases h
  | .brk, X, W, B => .one rfl fun st h => by
    split at h
    · refine PS.imp ps_break ?_
      rintro D σ H ⟨F, n, s, q⟩
      exact q σ F H s StepS.refl
    · cases h
  | .cnt, X, W, B => .one rfl fun st h => by
    split at h
    · refine PS.imp ps_continue ?_
      rintro D σ H ⟨F, n, s, q⟩
      exact q σ F H s StepS.refl
    · cases h
  | .ret a, X, W, B => .one rfl fun st h => by
    split at h
    · refine PS.imp (ps_ret ((all_J a X W B.toBd).e _ h)) ?_
      rintro D σ H ⟨F, n, s, q0⟩
      refine ⟨F, n, s, Po.mono (PoS.of (ρ := rV X.K) ((all_Kp a).e n) q0) ?_⟩
      clear q0
      rintro v H1 ⟨F1, n1, r, s1, t1, p1, rv, q⟩
      exact q v σ F1 H1 s1 (StepS.of t1 p1) rv
    · cases h
  | .retN, X, W, B => .one rfl fun st h => by
    split at h
    · refine PS.imp ps_retN ?_
      rintro D σ H ⟨F, n, s, q⟩
      exact q .non σ F H s StepS.refl .non
    · cases h
  | .set t a, X, W, B => .one rfl fun st h => by
    split at h
    · exact PS.imp (s_set B h) fun D σ H q => s_asg (t := t) (all_Kp a).e q
    · cases h
  | .setI i ix v, X, W, B => .one rfl fun st h => by
    split at h
    · rename_i o ie sp e pos
      obtain ⟨h1, g1⟩ := ba h
      obtain ⟨h2, g2⟩ := ba g1
      obtain ⟨h3, g3⟩ := ba g2
      obtain ⟨h4, h5⟩ := ba g3
      clear h g1 g2 g3
      have hg : PG X (.Subscript o ie sp) (gSub (tVar i) (tz (rP X.K) (kk X X9 W) (opd ix (ev T C ix).e)) rSetL) := pg_sub (z_name B.toBd h2) ((all_J ix X W B.toBd).o _ h3) set_list (by
        intro v
        cases ie <;> first | rfl | (cases h5; done))
      refine PS.imp (ps_asg ((all_J v X W B.toBd).e _ h1) hg (show swapsWith e (some (.Subscript o ie sp)) pos.line X.env = pure false from swN h4) (by cases e <;> rfl) rfl) ?_
      rintro D σ H ⟨F, n, s, q0⟩
      refine ⟨F, n, s, Po.mono (PoS.of (ρ := rV X.K) ((all_Kp v).e n) q0) ?_⟩
      clear q0
      rintro x H1 ⟨F1, n1, r, s1, t1, p1, rv, q⟩
      obtain ⟨F2, s2, t2, dv⟩ := frzS s s1 t1 rv
      have q := PoS.shift q (StepS.of t2 p1)
      cases eo : ownAt n1 i with
      | none => rw [eo] at q; exact q.elim
      | some w =>
        rw [eo] at q
        obtain ⟨es, ks⟩ := w
        obtain ⟨a, xs, ha, _⟩ := ownAt_ok s2 eo
        refine ⟨.ref a, ha, F2, n1, s2, Po.mono (PoS.of (ρ := rP X.K) (opd_pn (all_Kp ix) n1) q) ?_⟩
        clear q
        rintro y H3 ⟨F3, n3, p, s3, t3, p3, pv, q⟩
        have q := PoS.shift q (StepS.of t3 p3)
        split at q
        · rename_i ds kf j eo3 er
          split at q
          · rename_i m em
            obtain ⟨a3, xs3, ha3, f3, hh3, dz3, up3⟩ := ownAt_ok s3 eo3
            rw [ha] at ha3; cases ha3
            have hl := dpAll_len dz3
            refine ⟨a, xs3, j, m, rfl, rs_int s3 pv er, hh3, by rw [hl]; exact em, ?_⟩
            obtain ⟨so, su⟩ := up3 (xs3.set m x) (ds.set m r.d) (dzAll_set dz3 (dp_mono t3.f dv) m)
            exact PoS.now so (PoS.shift q su)
          · exact q.elim
        · exact q.elim
    · cases h
  | .app i a, X, W, B => .one rfl fun st h => by
    split at h
    · rename_i o mm apos e cpos pos
      obtain ⟨h0, g0⟩ := ba h
      obtain ⟨h1, g1⟩ := ba g0
      obtain ⟨h2, g2⟩ := ba g1
      obtain ⟨h3, h4⟩ := ba g2
      clear h g0 g1 g2
      have := of_decide_eq_true h0
      subst this
      have hb : attributeBase o "append" X.env (eval o X.env) = eval o X.env := by cases o <;> first | rfl | (cases h1; done)
      refine PS.imp (ps_expr (pe_bm F.plainAttrs_list F.slot_list_append rfl mt_append (z_name B.toBd h1) (pa_cons ((all_J a X W B.toBd).e _ h2) pa_nil (star_ok h3)) hb (by rw [star_ok h3]; rfl) h4 (star_ok h3) rfl)) ?_
      rintro D σ H ⟨F, n, s, q⟩
      have q : PoS (kk X X9 W) (match ownAt n i with
        | some _ => Fl.of ((ev T C a).e n) fun r n1 => match ownAt n1 i with
          | some (ds, k) => if decide (ds.length < sizeLine) then .nx (n1.set i (k (ds ++ [r.d]))) else .st
          | none => .st
        | none => .st) σ F H n D := q
      cases eo : ownAt n i with
      | none => rw [eo] at q; exact q.elim
      | some w =>
        rw [eo] at q
        obtain ⟨es, ks⟩ := w
        obtain ⟨l, xs, hl, _, hx, _⟩ := ownAt_ok s eo
        refine ⟨.ref l, hl, .inl ⟨rfl, xs, .inl (.inl hx)⟩, F, n, s, Po.mono (PoS.of (ρ := rV X.K) ((all_Kp a).e n) q) ?_⟩
        clear q
        rintro x H1 ⟨F1, n1, r, s1, t1, p1, rv, q⟩
        obtain ⟨F2, s2, t2, dv⟩ := frzS s s1 t1 rv
        have q := PoS.shift q (StepS.of t2 p1)
        split at q
        · rename_i ds kf eo1
          by_cases hz : (decide (ds.length < sizeLine)) = true
          · rw [if_pos hz] at q
            obtain ⟨a3, xs3, ha3, f3, hh3, dz3, up3⟩ := ownAt_ok s2 eo1
            rw [hl] at ha3; cases ha3
            obtain ⟨so, su⟩ := up3 (xs3 ++ [x]) (ds ++ [r.d]) (dpAll_app dz3 (.cons dv .nil))
            exact ⟨l, xs3, x, rfl, rfl, hh3, by rw [dpAll_len dz3]; exact of_decide_eq_true hz, PoS.now so (PoS.shift q su)⟩
          · rw [if_neg hz] at q; exact q.elim
        · exact q.elim
    · cases h
  | .rest, X, W, B => by
    refine ⟨fun st h => ⟨fun pins s σ H D I q => ?_⟩, fun sts h => ⟨fun pins s σ H D I q => ?_⟩⟩
    all_goals
      obtain ⟨F, n, _, q⟩ := q
      exact q.elim
  | .ext i a, X, W, B => .one rfl fun st h => by
    split at h
    · rename_i o mm apos e cpos pos
      obtain ⟨h0, g0⟩ := ba h
      obtain ⟨h1, g1⟩ := ba g0
      obtain ⟨h2, g2⟩ := ba g1
      obtain ⟨h3, h4⟩ := ba g2
      clear h g0 g1 g2
      have := of_decide_eq_true h0
      subst this
      have hb : attributeBase o "extend" X.env (eval o X.env) = eval o X.env := by cases o <;> first | rfl | (cases h1; done)
      refine PS.imp (ps_expr (pe_bm F.plainAttrs_list F.slot_list_extend rfl mt_extR (z_name B.toBd h1) (pa_cons ((all_J a X W B.toBd).e _ h2) pa_nil (star_ok h3)) hb (by rw [star_ok h3]; rfl) h4 (star_ok h3) rfl)) ?_
      rintro D σ H ⟨F, n, s, q⟩
      have q : PoS (kk X X9 W) (match ownAt n i with
        | some _ => Fl.of ((ev T C a).e n) fun r n1 => match ownAt n1 i, r.d with
          | some (ds, k), .list es => if decide (ds.length + es.length ≤ sizeLine) then .nx (n1.set i (k (ds ++ es))) else .st
          | _, _ => .st
        | none => .st) σ F H n D := q
      cases eo : ownAt n i with
      | none => rw [eo] at q; exact q.elim
      | some w =>
        rw [eo] at q
        obtain ⟨es, ks⟩ := w
        obtain ⟨l, xs, hl, _, hx, _⟩ := ownAt_ok s eo
        refine ⟨.ref l, hl, .inl ⟨rfl, xs, .inl (.inl hx)⟩, F, n, s, Po.mono (PoS.of (ρ := rV X.K) ((all_Kp a).e n) q) ?_⟩
        clear q
        rintro x H1 ⟨F1, n1, r, s1, t1, p1, rv, q⟩
        obtain ⟨F2, s2, t2, dv⟩ := frzS s s1 t1 rv
        have q := PoS.shift q (StepS.of t2 p1)
        split at q
        · rename_i ds kf es2 eo1 er
          by_cases hz : (decide (ds.length + es2.length ≤ sizeLine)) = true
          · rw [if_pos hz] at q
            obtain ⟨a3, xs3, ha3, f3, hh3, dz3, up3⟩ := ownAt_ok s2 eo1
            rw [hl] at ha3; cases ha3
            rw [er] at dv
            cases dv with
            | lst r1 d1 =>
              rename_i b zs
              obtain ⟨so, su⟩ := up3 (xs3 ++ zs) (ds ++ es2) (dpAll_app dz3 d1)
              exact ⟨l, b, xs3, zs, rfl, rfl, hh3, rd_mono s2.sub r1, by rw [dpAll_len dz3, dpAll_len d1]; exact of_decide_eq_true hz, PoS.now so (PoS.shift q su)⟩
          · rw [if_neg hz] at q; exact q.elim
        · exact q.elim
    · cases h
  | .par i j as, X, W, B => .one rfl fun st h => by
    split at h
    · rename_i x px y py kt pt a b k2 pt2 pos
      obtain ⟨h1, h⟩ := ba h
      obtain ⟨h2, h⟩ := ba h
      obtain ⟨h3, h⟩ := ba h
      obtain ⟨h4, h⟩ := ba h
      obtain ⟨h5, h⟩ := ba h
      obtain ⟨h6, h⟩ := ba h
      obtain ⟨h7, h⟩ := ba h
      obtain ⟨h8, h⟩ := ba h
      obtain ⟨h9, h⟩ := ba h
      obtain ⟨h10, h⟩ := ba h
      obtain ⟨h11, h12⟩ := ba h
      have hw := sw_par (kt := kt) (pt := pt) (k2 := k2) (pt2 := pt2) B.kf (kB_ok h4) (kB_ok h5) (of_decide_eq_true h6) (of_decide_eq_true h7) h8 h9 (fun z => by rw [z, Bool.true_and] at h10; simpa using h10) (fun z => by rw [z, Bool.true_and] at h11; simpa using h11)
      refine PS.imp (ps_par B.calm B.nd (by rw [B.eN]; exact of_decide_eq_true h1) (by rw [B.eN]; exact of_decide_eq_true h2) (of_decide_eq_true h3) (kB_ok h4) (kB_ok h5) (pa_all rfl ((all_J as X W B.toBd).l _ h12)) hw rfl) ?_
      rintro D σ H ⟨F, n, s, q0⟩
      refine ⟨F, n, s, Po.mono (PoS.of (ρ := rL X.K) ((all_Kp as).l n) q0) ?_⟩
      clear q0
      rintro vs H1 ⟨F1, n1, ps, s1, t1, p1, pv, q⟩
      have q := PoS.shift q (StepS.of t1 p1)
      cases hf : frl ps with
      | none => rw [hf] at q; exact q.elim
      | some ds =>
        rw [hf] at q
        rcases ds with _ | ⟨d1, _ | ⟨d2, _ | ⟨d3, ds⟩⟩⟩
        · exact q.elim
        · exact q.elim
        · have dz := frl_ok pv hf
          dsimp only at q
          cases hs : setAll n1 [i, j] [d1, d2] with
          | none => rw [hs] at q; exact q.elim
          | some n2 =>
            rw [hs] at q
            obtain ⟨v, r, e1, w, r2, e2, e3, qq⟩ := gs_ok (is := [i, j]) (Q := fun σ' H' => D.nx σ' H') s1 hs dz fun σ' s3 o3 l3 k3 f3 => q σ' F1 H1 s3 (StepS.put (K := X.K) (t := .tp [i, j]) (d := .tuple [d1, d2]) hs o3 k3 f3)
            subst e1 e2 e3
            exact ⟨v, w, rfl, qq⟩
        · exact q.elim
    · cases h
  | .aug i o a, X, W, B => .one rfl fun st h => by
    split at h
    · rename_i x p op e pos
      obtain ⟨h1, g1⟩ := ba h
      obtain ⟨h2, g2⟩ := ba g1
      obtain ⟨h3, h4⟩ := ba g2
      clear h g1 g2
      have := of_decide_eq_true h4
      subst this
      obtain ⟨l1, l2⟩ := B.loc x h2
      have hN : X.N[i]? = some x := by rw [B.eN]; exact of_decide_eq_true h1
      exact s_aug B hN l1 l2 ((all_J a X W B.toBd).e _ h3)
    · cases h
  | .ex a, X, W, B => .one rfl fun st h => by
    split at h
    · obtain ⟨h1, h2⟩ := ba h
      refine PS.imp (ps_expr ((all_J a X W B.toBd).e _ h1) (swN0 h2)) ?_
      rintro D σ H ⟨F, n, s, q0⟩
      refine ⟨F, n, s, Po.mono (PoS.of (ρ := rV X.K) ((all_Kp a).e n) q0) ?_⟩
      clear q0
      rintro v H1 ⟨F1, n1, r, s1, t1, p1, rv, q⟩
      exact q σ F1 H1 s1 (StepS.of t1 p1)
    · cases h
  | .ife t a b, X, W, B => .one rfl fun st h => by
    split at h
    · obtain ⟨h1, h⟩ := ba h
      obtain ⟨h2, h3⟩ := ba h
      refine PS.imp (ps_if ((all_J t X W B.toBd).t _ h1) ((all_S a X W B).l _ h2) ((all_S b X W B).l _ h3)) ?_
      rintro D σ H ⟨F, n, s, q0⟩
      refine ⟨F, n, s, Po.mono (PoS.of (ρ := rB) ((all_Kp t).t n) q0) ?_⟩
      clear q0
      rintro v H1 ⟨F1, n1, r, s1, t1, p1, rfl, q⟩
      have q := PoS.shift q (StepS.of t1 p1)
      cases v with
      | true => rw [if_pos rfl]; exact ⟨F1, n1, s1, q⟩
      | false => rw [if_neg Bool.false_ne_true]; exact ⟨F1, n1, s1, q⟩
    · cases h
  | .for_ t it b, X, W, B => .one rfl fun st h => by
    split at h
    · obtain ⟨h1, h⟩ := ba h
      obtain ⟨h2, h⟩ := ba h
      obtain ⟨h3, h⟩ := ba h
      obtain ⟨hz, h4⟩ := ba h
      exact PS.imp (ps_for B.po B.calm ((all_J it X W B.toBd).i _ _ hz h1) (pg_tg B.calm B.eN B.nd B.loc h3) ((all_S b X W B).l _ h4) (fold_ok h2)) fun D σ H q => s_for (all_Kp it).i q
    · cases h
  | .rai c a, X, W, B => .one rfl fun st h => by
    split at h
    · obtain ⟨h1, h⟩ := ba h
      obtain ⟨h2, h⟩ := ba h
      obtain ⟨h3, h⟩ := ba h
      obtain ⟨h4, h5⟩ := ba h
      obtain ⟨pr, mk⟩ := B.mkx X.pn X.xe c _ (of_decide_eq_true h4) (of_decide_eq_true h1)
      refine PS.imp (ps_raise B.calm B.tk (mk _ _ _ _ h2 h3 ((all_J a X W B.toBd).e _ h5))) ?_
      rintro D σ H ⟨F, n, s, q0⟩
      refine ⟨F, n, s, Po.mono (PoS.of (ρ := rV X.K) ((all_Kp a).e n) q0) ?_⟩
      clear q0
      rintro v H1 ⟨F1, n1, r, s1, t1, p1, rv, q⟩
      obtain ⟨F2, s2, t2, dv⟩ := frzS s s1 t1 rv
      have q := PoS.shift q (StepS.of t2 p1)
      by_cases hz : fmtOk r.d = true
      · rw [if_pos hz] at q
        refine ⟨fmt_ok dv hz, fun d hd => ?_⟩
        have ex : Ext F2 H1 F2 (upd H1 d (.xd [((X9 c).2, v)])) := ⟨.refl _, same_upd hd, fun a o q => .inl q, s2.sub.trans (same_upd hd)⟩
        exact q _ _ σ F2 _ (s2.ext ex) (StepS.of (Step.ext ex) .refl) ⟨rfl, d, v, rfl, upd_same, dv, pr⟩
      · rw [if_neg hz] at q; exact q.elim
    · cases h
  | .try1 b i hh, X, W, B => .one rfl fun st h => by
    split at h
    · rename_i body x np n e rp pos' pos
      obtain ⟨h1, g1⟩ := ba h
      obtain ⟨h2, g2⟩ := ba g1
      obtain ⟨h3, g3⟩ := ba g2
      obtain ⟨h4, g4⟩ := ba g3
      obtain ⟨h5, h6⟩ := ba g4
      clear h g1 g2 g3 g4
      obtain ⟨g, dbg⟩ := gl_ok h2
      have hi : X.N[i]? = some n := by rw [B.eN]; exact of_decide_eq_true h3
      refine PS.imp (ps_try_as (i := i) (n := n) (c := .ref rc) (Wout := W) (tb := fun W' => tS (kk X X9 W') (sv T C b)) (ts := fun a cls d => tSeq (tRet (tH X.K X9 i a cls d hh)) tNext) B.hs B.hf B.nd hi (kB_ok h4) ⟨g, dbg, .inl (B.rcn x (of_decide_eq_true h1))⟩ B.tk
        (fun W' pn xe tk po => (all_S b (X.tr pn xe) W' (B.tr tk po)).l _ h5) (fun a oe cls d pn hz hf => pss_cons (ps_ret ((he_ok B.su hz hf hh).e e h6)) pss_nil)) ?_
      rintro D σ H ⟨F, n, s, q⟩
      refine ⟨F, n, s, ?_⟩
      have q : PoS (kk X X9 W) (match sv T C b n with
        | .ex c d n1 => match hv c d hh, n1[i]? with
          | some r, some _ => .rt (.fr r) n1
          | _, _ => .st
        | f => f) σ F H n D := q
      cases ef : sv T C b n with
      | nx n1 => rw [ef] at q; exact q
      | bk n1 => rw [ef] at q; exact q
      | ct n1 => rw [ef] at q; exact q
      | rt r n1 => rw [ef] at q; exact q
      | st => rw [ef] at q; exact q
      | ex c d n1 =>
        rw [ef] at q
        intro cls dd σ' F' H' s' t' x
        have q : PoS (kk X X9 W) (match hv c d hh, n1[i]? with
          | some r, some _ => .rt (.fr r) n1
          | _, _ => .st) σ F H n D := q
        split at q
        · rename_i r u eh eu
          refine ⟨true, ?_, fun _ a ha => ?_, fun z => by cases z⟩
          · obtain ⟨x1, _, _, _, _, _, pr⟩ := x
            rw [x1]; exact B.su.xf.exm c pr
          · have hlen : i < σ'.length := by rw [← s'.len]; exact (List.getElem?_eq_some_iff.mp eu).1
            exact ⟨F', c, d, r, List.getElem?_set_self hlen, s'.sub, x, eh, fun v F2 H2 ex dv => q v σ' F2 H2 (s'.ext ex) (t'.trans (StepS.of (Step.ext ex) .refl)) dv⟩
        · exact q.elim
    · cases h
end
end Z

set_option Elab.async false
set_option linter.all false
set_option maxRecDepth 100000
set_option maxHeartbeats 8000000
namespace Z
open PySem PySem.Spec PyProof.Rows L2

/-! ## a def -/
theorem startSO {K : PySem.W.Frag} {F H : Hp} {N : List Str} {vs : List V} {ss : List Sl} (s : SO K F H (vs.map some) ss) (hl : vs.length ≤ N.length) : SO K F H (start N vs) (ss ++ List.replicate (N.length - ss.length) .un) := by
  have l1 : ss.length = vs.length := by rw [s.len, List.length_map]
  have at1 : ∀ {i : Nat} {t : Sl}, (ss ++ List.replicate (N.length - ss.length) Sl.un)[i]? = some t → (ss[i]? = some t ∧ (start N vs)[i]? = (vs.map some)[i]?) ∨ t = .un := fun {i t} h => by
    by_cases hi : i < ss.length
    · rw [List.getElem?_append_left hi] at h
      exact .inl ⟨h, by unfold L2.start; rw [List.getElem?_append_left (by rw [List.length_map, ← l1]; exact hi)]⟩
    · rw [List.getElem?_append_right (by omega)] at h
      exact .inr (List.mem_replicate.mp (List.mem_of_getElem? h)).2
  refine ⟨s.sub, by unfold L2.start; simp; omega, fun i t h => ?_, fun i j t u hij hi hj ot ou => ?_⟩
  · rcases at1 h with ⟨a, b⟩ | rfl
    · rw [b]; exact s.sl i t a
    · trivial
  · rcases at1 hi with ⟨a, b⟩ | rfl
    · rcases at1 hj with ⟨c, d⟩ | rfl
      · rw [b, d]; exact s.ap i j t u hij a c ot ou
      · exact ou.elim
    · exact ot.elim
theorem finD_get : ∀ {ss : List Sl} {n : En} {i : Nat} {d d' : PyData}, ss[i]? = some (.pn d) → n[i]? = some (.pn d') → (finD ss n)[i]? = some d'
  | [], n, i, d, d', h, _ => by simp at h
  | s :: r, [], i, d, d', _, h => by simp at h
  | s :: r, t :: n, 0, d, d', h1, h2 => by
    simp at h1 h2
    subst h1 h2
    rfl
  | s :: r, t :: n, i + 1, d, d', h1, h2 => by
    have ih := finD_get (ss := r) (n := n) (i := i) (d := d) (d' := d') (by simpa using h1) (by simpa using h2)
    cases s <;> cases t <;> exact ih
/-- what the caller wants, from what the body leaves -/
theorem afterS {K : PySem.W.Frag} {F H F' H' : Hp} {N : List Str} {vs : List V} {ss : List Sl} {σ' : L2.St} {n' : En} (s : SO K F H (vs.map some) ss) (ok : ∀ t ∈ ss, argOk t) (s' : SO K F' H' σ' n')
    (t : StepS (start N vs) F H (ss ++ List.replicate (N.length - ss.length) .un) σ' F' H' n') : After K F H vs ss F' H' (finD ss n') := by
  have l1 : ss.length = vs.length := by rw [s.len, List.length_map]
  have pin : ∀ {i : Nat} {d : PyData}, ss[i]? = some (.pn d) → ∃ a d', vs[i]? = some (.ref a) ∧ n'[i]? = some (.pn d') ∧ Mo K F' H' a d' := by
    intro i d hi
    have li : i < ss.length := (List.getElem?_eq_some_iff.mp hi).1
    have hp : (ss ++ List.replicate (N.length - ss.length) Sl.un)[i]? = some (.pn d) := by rw [List.getElem?_append_left li]; exact hi
    obtain ⟨h1, h2⟩ := t.pn i (by rw [hp]; rfl)
    obtain ⟨a, ha, m⟩ := s.sl i _ hi
    have hv : vs[i]? = some (.ref a) := by
      cases q : vs[i]? with
      | none => simp [q] at ha
      | some v => simp [q] at ha; rw [ha]
    cases q : n'[i]? with
    | none => rw [q] at h2; cases h2
    | some u =>
      rw [q] at h2
      cases u with
      | pn d' =>
        obtain ⟨b, hb, mb⟩ := s'.sl i _ q
        have e : σ'[i]? = (vs.map some)[i]? := by
          rw [h1]
          unfold L2.start
          rw [List.getElem?_append_left (by rw [List.length_map, ← l1]; exact li)]
        rw [e, ha] at hb
        cases hb
        exact ⟨a, d', hv, rfl, mb⟩
      | un => cases h2
      | fz _ => cases h2
      | ow _ => cases h2
      | er _ _ => cases h2
  have own0 : ∀ {a : Addr}, own (start N vs) (ss ++ List.replicate (N.length - ss.length) .un) a → ∃ (i : Nat) (d : PyData), ss[i]? = some (.pn d) ∧ vs[i]? = some (.ref a) := by
    rintro a ⟨i, u, hi, ou, hs⟩
    by_cases li : i < ss.length
    · rw [List.getElem?_append_left li] at hi
      have k := ok u (List.mem_of_getElem? hi)
      unfold L2.start at hs
      rw [List.getElem?_append_left (by rw [List.length_map, ← l1]; exact li)] at hs
      have hv : vs[i]? = some (.ref a) := by
        cases q : vs[i]? with
        | none => simp [q] at hs
        | some v => simp [q] at hs; rw [hs]
      cases u with
      | pn d => exact ⟨i, d, hi, hv⟩
      | fz _ => exact ou.elim
      | un => exact ou.elim
      | er _ _ => exact ou.elim
      | ow _ => exact k.elim
    · rw [List.getElem?_append_right (by omega)] at hi
      rw [(List.mem_replicate.mp (List.mem_of_getElem? hi)).2] at ou
      exact ou.elim
  refine ⟨s'.sub, t.f, fun a o ha no => t.h a o ha fun w => ?_, fun a o ha => ?_, t.dom, fun i d hi => ?_⟩
  · obtain ⟨i, d, h1, h2⟩ := own0 w
    exact no i d h1 h2
  · rcases t.nf a o ha with z | z | z
    · exact .inl z
    · exact .inr z
    · obtain ⟨i, d, h1, h2⟩ := own0 z
      obtain ⟨b, d', h3, h4, m⟩ := pin h1
      rw [h2] at h3; cases h3
      rw [m.1] at ha; cases ha
  · obtain ⟨a, d', h1, h2, m⟩ := pin hi
    exact ⟨a, d', h1, finD_get hi h2, m⟩

/-! ## the module -/
/-- what all bodies lean on -/
structure Md (P : Program) (w : World) (K : PySem.W.Frag) (mg : Str → Option Value) (base : Heap) (X9 : Nat → Addr × Str) (rc : Addr) (cv : Nat → Value) (xc : Nat → Option Str) (lv : Nat) : Prop where
  bi : ∀ x ∈ biNames, mg x = none
  ve : mg "ValueError" = none
  xf : XF K X9 rc cv
  cvV : cv 11 = .type "ValueError"
  nm : ∀ j x, xc j = some x → j ≠ 11 → mg x = some (cv j) ∧ (∃ b, cv j = .ref b) ∧ (j = 10 ∨ (X9 j).2 ≠ ⟨#[]⟩)
  rcn : ∀ x, xc 10 = some x → mg x = some (.ref rc)
  mkx : ∀ (X : Cx), X.prog = P → X.w = w → X.K = K → X.mg = mg → X.base = base → Room lv X.A → ∀ c x, c < 10 → xc c = some x → (X9 c).2 ≠ ⟨#[]⟩ ∧ MkOk X x (X9 c).1 (X9 c).2
section
variable {P : Program} {w : World} {K : PySem.W.Frag} {mg : Str → Option Value} {base : Heap} {X9 : Nat → Addr × Str} {rc : Addr} {cv : Nat → Value} {nx : Nx} {T : Tb} {C : Nat → Option PyData} {lv : Nat}
theorem bd_start {ps : List Str} {qual : Str} {scope : Scope} {f : Addr} {cdv : Value} {A : Around} {outer : List Env} {s : Shared} {H : Hp} {E : XK} (S : FnScope nx.N ps scope) (M : Md P w K mg base X9 rc cv nx.xc lv)
    (fn : ∀ id m fm, T id = some (m, fm) → ∃ x f fd ps, ps.length = m ∧ nx.fn[id]? = some x ∧ mg x = some (.ref f) ∧ PySem.W.keepIn K (.ref f) = true ∧ Binds K fd ps [] ∧ FnG P w K mg base lv f fd ps (spOf K X9 m fm))
    (gl : ∀ g d, C g = some d → ∃ x u v, nx.gc[g]? = some x ∧ mg x = some u ∧ RelV v u ∧ Dz K (fun _ => none) v d) (hg : A.guards = some []) (hr : Room lv (A.deeper (envOfC qual scope s.heap.objs.size f cdv))) :
    BdS nx T C X9 rc cv lv (cxOf (L2.CX P w) P w K mg base nx.N qual scope f cdv A outer s H E) (fun c d _ H => E c d H) where
  toBd := ⟨rfl, S.nd, rfl, hg, hr, takes_of rfl rfl rfl rfl, fn, gl, M.bi⟩
  su := ⟨rfl, by have := hr.un; show (A.deeper (envOfC qual scope s.heap.objs.size f cdv)).units + 65 < cLine; omega, M.xf, M.bi _ (by decide +kernel), M.ve, M.cvV, M.nm⟩
  hs := rfl
  hf := rfl
  po := passes_of rfl
  kf := S.kind
  fnT := fun _ => rfl
  mkx := fun pn xe c x h1 h2 => M.mkx _ rfl rfl rfl rfl rfl hr c x h1 h2
  rcn := M.rcn
theorem def_ok {x qual : Str} {params : Arguments} {stmts : List Stmt} {scope : Scope} {dvs : List V} {kws : List (Str × V)} {f : Addr} {fd : FuncData} {ps : List Str} {m : Nat} {body : S} (D : FunD K x qual params stmts scope dvs kws f fd) (S0 : FnScope nx.N ps scope)
    (hl : ps.length = m) (hm : m ≤ nx.N.length) (hc : (ckS nx scope body).l stmts = true) (M : Md P w K mg base X9 rc cv nx.xc lv)
    (fn : ∀ id m fm, T id = some (m, fm) → ∃ x f fd ps, ps.length = m ∧ nx.fn[id]? = some x ∧ mg x = some (.ref f) ∧ PySem.W.keepIn K (.ref f) = true ∧ Binds K fd ps [] ∧ FnG P w K mg base lv f fd ps (spOf K X9 m fm))
    (gl : ∀ g d, C g = some d → ∃ x u v, nx.gc[g]? = some x ∧ mg x = some u ∧ RelV v u ∧ Dz K (fun _ => none) v d) :
    FnG P w K mg base (lv + 1) f fd ps (spOf K X9 m (evDef T C nx.N.length body)) := by
  obtain ⟨oc, od, dV, kV, doc, pm, an, cdv, ct, osl, rfl, lk, hcd, _, _⟩ := D.ex
  refine FnG.of lk hcd S0 (fun vs H Q E h => by rw [hl]; exact h.1) fun A outer s H vs Q E hg hr h => ?_
  have B := bd_start (E := E) (H := H) (outer := outer) (s := s) (A := A) (f := f) (cdv := cdv) (qual := qual) S0 M fn gl hg hr
  refine ⟨_, (all_S body _ _ B).l stmts hc, ?_⟩
  obtain ⟨hv, F, ss, so, ok, q⟩ := h
  have l1 : ss.length = vs.length := by rw [so.len, List.length_map]
  have s0 := startSO (N := nx.N) so (by omega)
  refine ⟨F, _, s0, ?_⟩
  unfold evDef at q
  cases e : sv T C body (ss ++ List.replicate (nx.N.length - ss.length) .un) with
  | nx n => rw [e] at q; exact fun σ' F' H' s' t => q .non F' H' (afterS so ok s' t) .non
  | rt r n => rw [e] at q; exact fun v σ' F' H' s' t x => q v F' H' (afterS so ok s' t) x
  | ex c d n => rw [e] at q; exact fun cls dd σ' F' H' s' t x => q cls dd F' H' (afterS so ok s' t) x
  | bk n => rw [e] at q; exact q.elim
  | ct n => rw [e] at q; exact q.elim
  | st => rw [e] at q; exact q.elim
end
end Z

set_option Elab.async false
set_option linter.all false
set_option maxRecDepth 100000
set_option maxHeartbeats 8000000
namespace Z
open PySem PySem.Spec PyProof.Rows L2

/-! ## the law's call -/
def notList (o : Obj) : Bool := match o.cls with
  | .type c => !decide (c = "list")
  | _ => true
def scr (K : PySem.W.Frag) (a : Addr) (vs : List Value) (ns : List Int) : Hp := fun b => if b = a then some (.frz { cls := .type "list", data := .seq vs.toArray } (.lst (ns.map V.int))) else none
theorem dzInts {K : PySem.W.Frag} {H : Hp} : ∀ ns : List Int, DzAll K H (ns.map V.int) (ns.map PyData.int)
  | [] => .nil
  | n :: ns => .cons (.int n) (dzInts ns)
section
variable {P : Program} {w : World} {K : PySem.W.Frag} {mg mb : Str → Option Value} {X9 : Nat → Addr × Str} {k : Nat} {fa a : Addr} {fd : FuncData} {x : Str} {fm : Fm} {s₁ : Shared} {vs : List Value} {ns : List Int}
theorem callG (KX : K.In s₁.heap) (hK : ∀ b o, K.lookup b = some o → notList o = true) (hns : s₁.heap.Ns mainGlobals mg) (hb : s₁.heap.Ns builtinsNs mb) (hbb : ∀ x : Str, x ≠ "__name__" → mb x = bootBuiltins x) (hlim : s₁.heap.NoLimit) (hg : s₁.gens = #[])
    (ha : s₁.heap.get? a = some { cls := .type "list", data := .seq vs.toArray }) (hi : IntsAre vs ns) (hl : ns.length ≤ sizeLine) (hr : Room k callerA)
    (F : ∀ base : Heap, K.In base → base.Ns mainGlobals mg → FnG P w K mg base k fa fd [x] (spOf K X9 1 fm)) (hbind : ∀ (s : Shared) (u : Value), BindsTo s fd ⟨[u], []⟩ [(x, u)])
    (hfm : ∃ ds, fm [.fz (.list (ns.map PyData.int))] = .ret (.fr (.bool true)) ds) :
    codeAny (model P w) callerA (.call (.ref fa) ⟨[.ref a], []⟩) (fun r s' => r = .ok (.ret (.bool true)) ∧ OldK s₁.heap s'.heap ∧ s'.os = s₁.os ∧ AllBare s'.gens) s₁ := by
  have off : K.lookup a = none := by
    cases q : K.lookup a with
    | none => rfl
    | some o =>
      have h1 := KX a o q
      rw [ha] at h1
      cases h1
      exact absurd (hK a _ q) (fun h => by have h2 : (!decide (("list" : String) = "list")) = true := h; simp at h2)
  have rv := vals_ints hi
  have at_a : scr K a vs ns a = some (.frz { cls := .type "list", data := .seq vs.toArray } (.lst (ns.map V.int))) := if_pos rfl
  have off_a : ∀ {b : Addr}, b ≠ a → scr K a vs ns b = none := fun h => if_neg h
  have only : ∀ {b : Addr} {u : HO}, scr K a vs ns b = some u → b = a ∧ u = .frz { cls := .type "list", data := .seq vs.toArray } (.lst (ns.map V.int)) := fun {b u} h => by
    by_cases e : b = a
    · subst e; rw [at_a] at h; exact ⟨rfl, (Option.some.inj h).symm⟩
    · rw [off_a e] at h; cases h
  have hok : HOk P w (scr K a vs ns) s₁.heap := fun b u h => by
    obtain ⟨rfl, rfl⟩ := only h
    exact ⟨ha, by rw [List.length_map]; exact hl, vs, _, rv, ha⟩
  -- what is no list stays below
  have low : ∀ {b : Addr} {o : Obj}, s₁.heap.get? b = some o → b ≠ a → (hidT s₁.heap (scr K a vs ns)).get? b = some o := fun e n => hidT_get e (off_a n)
  have nsK : ∀ {b : Addr} {m : Str → Option Value}, s₁.heap.Ns b m → (hidT s₁.heap (scr K a vs ns)).Ns b m := fun {b m} ⟨o, es, ep, e, d, r⟩ => ⟨o, es, ep, low e (fun z => by
    subst z
    rw [ha] at e; cases e
    cases d), d, r⟩
  have hKb : K.In (hidT s₁.heap (scr K a vs ns)) := fun b o e => low (KX b o e) fun z => by rw [z, off] at e; cases e
  have hM : Mod K mg (hidT s₁.heap (scr K a vs ns)) := ⟨hKb, nsK hns, ⟨mb, nsK hb, hbb⟩, let ⟨mc, h1, h2⟩ := hlim; ⟨mc, nsK h1, h2⟩⟩
  have e0 : Env0 P w K mg (hidT s₁.heap (scr K a vs ns)) callerA [] s₁ (scr K a vs ns) :=
    ⟨rfl, hM, fun b o e => of_hidT e, Nat.le_of_eq (hidT_size _ _), trivial, fun b hb => absurd (show b ∈ ([] : List Addr) from hb) (by simp), hok, .of_eq hg⟩
  obtain ⟨ds, hfm⟩ := hfm
  have so : SO K (scr K a vs ns) (scr K a vs ns) ([V.ref a].map some) [.fz (.list (ns.map PyData.int))] := by
    refine ⟨.refl _, rfl, fun i t h => ?_, fun i j t u hij h1 h2 o1 o2 => ?_⟩
    · cases i with
      | zero => simp at h; subst h; exact ⟨.ref a, rfl, .lst (.inr ⟨_, at_a⟩) (dzInts ns)⟩
      | succ i => simp at h
    · cases i with
      | zero => simp at h1; subst h1; exact o1.elim
      | succ i => simp at h1
  have sp : spOf K X9 1 fm [.ref a] (scr K a vs ns) (fun v H' => v = .bl true ∧ ∀ b u, scr K a vs ns b = some u → H' b = some u) (fun _ _ _ => False) := by
    refine ⟨rfl, _, _, so, fun t h => ?_, ?_⟩
    · rw [List.mem_singleton.mp h]; trivial
    · rw [hfm]
      intro v F' H' A x
      have x : Dz K F' v (.bool true) := x
      cases x
      refine ⟨rfl, fun b u h => A.h b u h fun i d hi => ?_⟩
      cases i with
      | zero => simp at hi
      | succ i => simp at hi
  refine codeAny_mono ((F _ hKb (nsK hns)).go callerA [] s₁ (scr K a vs ns) ⟨[.ref a], []⟩ [.ref a] [.ref a] _ _ rfl hr e0 (hbind s₁ (.ref a)) (.cons rfl .nil) sp) fun r s' h => ?_
  cases r with
  | error e =>
    obtain ⟨_, _, _, _, _, _, _, _, _, _, _, _, q⟩ := h
    exact q.elim
  | ok fl =>
    cases fl with
    | next => exact h.elim
    | brk => exact h.elim
    | cont => exact h.elim
    | ret u =>
      obtain ⟨v, H', os, bare, un, hok', r', rfl, q⟩ := h
      obtain rfl : u = Value.bool true := r'
      refine ⟨rfl, OldK.of_keep fun b o e => ?_, os, bare⟩
      by_cases z : b = a
      · subst z
        obtain ⟨e2, _⟩ := hok' b _ (q b _ at_a)
        rw [ha] at e; cases e
        exact e2
      · exact un.keep b o e (off_a z) (by intro z; exact absurd (show b ∈ ([] : List Addr) from z) (by simp)) (by simp)
end
/-- the end of a law's proof -/
theorem walkG {l : PySem.W.OpenLaw} {n k : Nat} {q : Program} {loose : List Str} {XP : (Str → Option Value) → Heap → Prop} {YP : World → Heap → Prop} {d : DefRec} {x : Str} {fm : Fm} (hn : l.most = some n) (hn2 : n ≤ sizeLine) (hdf : d.params.defaults = []) (hr : Room k callerA)
    (hfm : ∀ ns : List Int, ns.length ≤ n → ∃ ds, fm [.fz (.list (ns.map PyData.int))] = .ret (.fr (.bool true)) ds)
    (F : ∀ (w : World) (mg : Str → Option Value) (fa : Addr) (h : Heap), YP w h → h.Ns mainGlobals mg → mg d.name = some (.ref fa) →
      ∃ (K : PySem.W.Frag) (fd : FuncData) (X9 : Nat → Addr × Str), K.In h ∧ (∀ b o, K.lookup b = some o → notList o = true) ∧ (∀ (s : Shared) (u : Value), BindsTo s fd ⟨[u], []⟩ [(x, u)]) ∧
        ∀ base : Heap, K.In base → base.Ns mainGlobals mg → FnG l.prog w K mg base k fa fd [x] (spOf K X9 1 fm)) : PySem.W.WalkO q loose XP YP l.row.toRowW d [] (fun f vs => PySem.call f vs) := by
  refine Att.attach_call hn hdf fun w s₀ s₁ mg mb fa o pm cd doc a vs ns G Y ho hd hcd hmg hobj hints hlen hg => ?_
  obtain ⟨K, fd, X9, KX, hK, hb, hF⟩ := F w mg fa _ Y G.T.g hmg
  exact callG KX hK G.T.g G.T.b G.T.builtins G.T.nolimit hg hobj hints (Nat.le_trans hlen hn2) hr hF hb (hfm ns hlen)
end Z

set_option Elab.async false
set_option linter.all false
set_option maxRecDepth 100000
set_option maxHeartbeats 4000000
namespace Z
open PySem PySem.Spec PySem.W PySem.Calls PyProof.Rows PySem.HandSPX

/-! ## the own error classes: __init__ -/
def inA (fld : Str) (p1 p2 : Pos) : Arguments := { posonlyargs := [], args := [{ arg := "self", annotation := none, pos := p1 }, { arg := fld, annotation := none, pos := p2 }], vararg := none, kwonlyargs := [], kw_defaults := [], kwarg := none, defaults := [] }
def inB (fld msg : Str) (k : Nat) (q : Nat → Pos) : List Stmt :=
  [.Expr (.Call (.Attribute (.Call (.Name "super" (q 0)) [] [] (q 1)) "__init__" (q 2)) [.JoinedStr [.Constant (.str msg) k (q 3), .FormattedValue (.Name fld (q 4)) (-1) none (q 5)] (q 6)] [] (q 7)) (q 8),
    .Assign [.Attribute (.Name "self" (q 9)) fld (q 10)] (.Name fld (q 11)) (q 12)]
structure InTxt (P : Program) (K : Frag) (mg : Str → Option Value) (C fI : Addr) (fld : Str) : Prop where
  cls : ∃ nm q N bs bm sn sub ab col dd k0 k1 k2 k3 k5, K.lookup C = some (excClassObj nm q C N bs bm true sn sub ab col dd k0 k1 k2 k3 k5 "ValueError.__new__") ∧ refsVE bm = true
  sa : findIn K (.ref C) "__setattr__" = some (some (.builtin "object.__setattr__"))
  no : findIn K (.ref C) fld = some none
  iC : findIn K (.ref C) "__init__" = some (some (.ref fI))
  tC : typeIn K (.ref fI) = some (.type "function")
  kC : keepIn K (.ref C) = true
  exC : subIn K (.ref C) (.type "BaseException") = some true
  veC : subIn K (.ref C) (.type "ValueError") = some true
  meC : mroIn K C (.ref C) = some true
  tyC : typeIn K (.ref C) = some (.type "type")
  sup : ks_superIn K C C "__init__" = some (some (.builtin "ValueError.__init__"))
  ei : excInitIn K C [.type "ValueError", .type "Exception", .type "BaseException", .type "object"] "ValueError.__new__" = true
  thp : nsIn K cStatics "thirdparty.any" = some none
  fn : ∃ (oc : Value) (od : Option Addr) (doc pm : Value) (an : Option Addr) (ct : Value) (osl : Array (Option Value)) (cc cda : Addr) (qual msg : Str) (scope : Scope) (p1 p2 : Pos) (k : Nat) (q : Nat → Pos),
    K.lookup fI = some ⟨oc, od, .func (ksFn "__init__" qual (inA fld p1 p2) (inB fld msg k q) scope .none .none doc pm an (.ref cda) ct cc), osl⟩ ∧ codeIn K (.ref cda) qual = true ∧ msg.length ≤ 1000 ∧
    scope.kind = .function ∧ scope.isCoroutine = false ∧ scope.isGenerator = false ∧ (∀ y ∈ scope.names, y.2 ≠ .cell) ∧ scope.names.lookup ("self" : Str) = some .local ∧ scope.names.lookup fld = some .local ∧
    scope.names.lookup ("super" : Str) = some .globalImplicit ∧ scope.names.lookup ("__class__" : Str) = some .free ∧ fld ≠ "self" ∧ (fld == ("__debug__" : Str)) = false ∧ ((q 2).endLine == (q 7).line) = true ∧
    (∀ u z : Value, bindArgs (ksFn "__init__" qual (inA fld p1 p2) (inB fld msg k q) scope .none .none doc pm an (.ref cda) ct cc) ⟨[u, z], []⟩ = pure [(("self" : Str), u), (fld, z)]) ∧
    (∃ (cl : Value) (cld : Option Addr) (csl : Array (Option Value)), K.lookup cc = some ⟨cl, cld, .cell (some (.ref C)), csl⟩) ∧
    ∃ (ccl : Value) (cdd : Option Addr) (vs : Array Value) (ccs : Array (Option Value)) (file : Str) (tf : Tok), K.lookup cda = some ⟨ccl, cdd, .fields vs, ccs⟩ ∧ vs[2]? = some (.str file tf) ∧ ((P.main.file : Str) == file) = true
  noS : mg "super" = none
  top : (P.main.scope.names.lookup ("super" : Str)).isSome = false
structure InEnd (h h' : Heap) (x C dx t1 : Addr) (fld : Str) (v : Value) : Prop where
  keep : ∀ b o, b ≠ x → h.get? b = some o → h'.get? b = some o
  obj : h'.get? x = some { cls := .ref C, dict := some dx, data := .fields #[.ref t1, .none, .none, .none, .bool false, .none] }
  dbig : h.objs.size ≤ dx
  dne : dx ≠ x
  ns : h'.Ns1 dx (fun y => if y = fld then some v else none)
/-- what the message holds -/
def FmtU (v : Value) : Prop := (∃ x t, v = .str x t ∧ x.length ≤ 1000) ∨ ∃ i t, v = .int i t ∧ i.natAbs < 2 ^ 64
section
variable {P : Program} {w : World} {A : Around} {E : Value → Shared → Prop} {R : Result → Shared → Prop} {s : Shared} {K : Frag} {mg mb : Str → Option Value} {C fI : Addr} {fld : Str}
theorem sizeL : (1000 : Nat) + 1000 ≤ sizeLine := by rw [sizeLine_eq]; decide
/-- the message -/
theorem msg_run {M : Shared → Shared} {env : Env} {fld msg : Str} {k : Nat} {p1 p2 p3 p4 : Pos} {m : Str → Option Value} {v : Value} {Q : Value → Shared → Prop} (hv : FmtU v) (hmsg : msg.length ≤ 1000) (hk : env.scope.kind = .function) (hl : env.kindOf fld = some .local) (hn : s.heap.Ns env.locals m) (hm : m fld = some v)
    (hdb : (fld == ("__debug__" : Str)) = false) (h : ∀ out t tk, Q (.str out t) { s with toks := tk }) : wpAny (model P w) A (eval (.JoinedStr [.Constant (.str msg) k p1, .FormattedValue (.Name fld p2) (-1) none p3] p4) env) Q E s := by
  have z := sizeL
  refine wpAny_JoinedStr ?_
  show wpAny _ _ (eval (.Constant (.str msg) k p1) env) _ _ _
  refine Calls.Constant_str ⟨msg, _, rfl, by rw [show (Str.empty ++ msg).length = Str.empty.length + msg.length from Str.length_append _ _]; show 0 + msg.length ≤ _; omega, ?_⟩
  show wpAny _ _ (eval (.FormattedValue (.Name fld p2) (-1) none p3) env) _ _ _
  refine wpAny_FormattedValue_plain (wpAny_Name (wpAny_loadName_local hk hl (show ({ s with toks := s.toks + 1 } : Shared).heap.Ns env.locals m from hn) hm ?_) hdb)
  have fin : ∀ y t tk, y.length ≤ 1000 → ∃ y' t', (Value.str y t) = .str y' t' ∧ ((Str.empty ++ msg) ++ y').length ≤ sizeLine ∧ Joins (model P w) A E [] ((Str.empty ++ msg) ++ y') (fun out s₁ => out.length ≤ sizeLine ∧ Q (.str out s₁.toks) { s₁ with toks := s₁.toks + 1 }) { s with toks := tk } := fun y t tk hy => by
    have e : ((Str.empty ++ msg) ++ y).length ≤ sizeLine := by
      rw [Str.length_append, Str.length_append]
      show 0 + msg.length + y.length ≤ _
      omega
    exact ⟨y, t, rfl, e, e, h _ _ _⟩
  rcases hv with ⟨y, t, rfl, hy⟩ | ⟨i, t, rfl, hi⟩
  · exact wpAny_formatField_str (fin y t _ hy) (fin y _ _ hy) (by omega)
  · have hl2 : i.natAbs.log2 < 1920 := by
      by_cases h0 : i.natAbs = 0
      · rw [h0]; decide
      · exact Nat.lt_trans ((Nat.log2_lt h0).mpr hi) (by decide)
    refine wpAny_formatField_int hl2 (fin _ _ _ ?_)
    have h64 : i.natAbs.log2 < 64 := by
      by_cases h0 : i.natAbs = 0
      · rw [h0]; decide
      · exact (Nat.log2_lt h0).mpr hi
    have e := int_text_length_le (k := 64) (by decide) h64
    rw [PySem.ofString_length]
    omega
theorem in_run (T : InTxt P K mg C fI fld) {x t0 : Addr} {v : Value} (hv : FmtU v) (X : K.In s.heap) (hg : s.heap.Ns mainGlobals mg) (hbn : s.heap.Ns builtinsNs mb) (hbb : ∀ x : Str, x ≠ "__name__" → mb x = bootBuiltins x) (hlim : s.heap.NoLimit)
    (hx : s.heap.get? x = some (excO C t0)) (hnx : K.lookup x = none) (hroom : A.depth < recursionLimit) (hq : ∀ h' tk dx t1, InEnd s.heap h' x C dx t1 fld v → R (.ok (.ret .none)) { s with heap := h', toks := tk }) :
    codeAny (model P w) A (.call (.ref fI) ⟨[.ref x, v], []⟩) R s := by
  obtain ⟨oc, od, doc, pm, an, ct, osl, cc, cda, qual, msg, scope, p1, p2, k, q, ho, hcd, hmsg, hk, hco, hgen, hcell, hself, hfld, hsup, hcls, hne, hdb, hline, hbi, ⟨cl, cld, csl, hcc⟩, ccl, cdd, vs, ccs, file, tf, hcda, hvs, hfile⟩ := T.fn
  obtain ⟨nm, qn, N, bs, bm, sn, sub, ab, col, dd, k0, k1, k2, k3, k5, hC, hbm⟩ := T.cls
  have hcl : clsIn K C = some { name := nm, bases := bs, mro := .ref C :: bm, ns := N, qualname := qn, hasDict := true, slotNames := sn, subclasses := sub, abstract := ab, collection := col, hasDel := false } := by unfold clsIn; rw [hC] <;> rfl
  have hxL : x ≠ s.heap.objs.size := Nat.ne_of_lt (Heap.lt_size hx)
  refine ks_codeAny_call_defAt (fd := ksFn "__init__" qual (inA fld p1 p2) (inB fld msg k q) scope .none .none doc pm an (.ref cda) ct cc) (body := inB fld msg k q) (binds := [("self", .ref x), (fld, v)]) hroom (X _ _ ho) rfl hlim (codeRec_of X hcd) rfl ?hbind hcell ?hloc (fun h₁ hns hk₁ => ?_) hco hgen hk
  case hbind => exact BindsTo.of_eq (hbi _ _)
  case hloc =>
    intro y hy
    rcases List.mem_cons.mp hy with rfl | hy
    · exact hself
    · rcases List.mem_cons.mp hy with rfl | hy
      · exact hfld
      · cases hy
  have vself : (fun y => [(("self" : Str), Value.ref x), (fld, v)].reverse.lookup y) ("self" : Str) = some (.ref x) := by
    show List.lookup ("self" : Str) [(fld, v), ("self", .ref x)] = _
    have e : (("self" : Str) == fld) = false := by simpa using fun z => hne z.symm
    rw [List.lookup_cons, e]; rfl
  have vfld : (fun y => [(("self" : Str), Value.ref x), (fld, v)].reverse.lookup y) fld = some v := by
    show List.lookup fld [(fld, v), ("self", .ref x)] = _
    rw [List.lookup_cons]; simp
  generalize (fun y => [(("self" : Str), Value.ref x), (fld, v)].reverse.lookup y) = m at hns vself vfld
  have X₁ : K.In h₁ := X.keeps hk₁
  have hx₁ := hk₁ _ _ hx
  obtain ⟨hp, g, d, tk, os⟩ := s
  -- super()
  generalize hen : callEnv (ksFn "__init__" qual (inA fld p1 p2) (inB fld msg k q) scope .none .none doc pm an (.ref cda) ct cc) (⟨hp, g, d, tk, os⟩ : Shared).heap.objs.size fI = en
  have he : eval (.Call (.Attribute (.Call (.Name "super" (q 0)) [] [] (q 1)) "__init__" (q 2)) [.JoinedStr [.Constant (.str msg) k (q 3), .FormattedValue (.Name fld (q 4)) (-1) none (q 5)] (q 6)] [] (q 7)) en = (do
      let ov ← attributeBase (.Call (.Name "super" (q 0)) [] [] (q 1)) "__init__" en (eval (.Call (.Name "super" (q 0)) [] [] (q 1)) en)
      standAt (q 2).atName
      let (f, first) ← holding [ov] (getMethod ov "__init__" (do return (← importBound (.Call (.Name "super" (q 0)) [] [] (q 1)) en).getD true))
      callWith (q 7) f first (backTo (q 7) (starEach [.JoinedStr [.Constant (.str msg) k (q 3), .FormattedValue (.Name fld (q 4)) (-1) none (q 5)] (q 6)] en)) []) := by
    have hpos : methodCallPos true (.Call (.Name "super" (q 0)) [] [] (q 1)) en (q 2) (q 7) = pure (q 7) := by unfold methodCallPos; simp [hline]
    rw [arm_eval_Call]
    congr 1
    funext ov
    congr 1
    funext _
    unfold methodCall
    have hform : methodCallForm (([.JoinedStr [.Constant (.str msg) k (q 3), .FormattedValue (.Name fld (q 4)) (-1) none (q 5)] (q 6)] : List Expr).length + ([] : List Keyword).length) (backTo (q 7) (starEach [.JoinedStr [.Constant (.str msg) k (q 3), .FormattedValue (.Name fld (q 4)) (-1) none (q 5)] (q 6)] en)) (backToKw (q 7) (keywordEach [] en)) = true := by rfl
    rw [hform, hpos]
    rfl
  have e1 : en.kindOf "super" = some .globalImplicit := by subst hen; exact hsup
  have e2 : en.kindOf "__class__" = some .free := by subst hen; exact hcls
  have e3 : en.func = some fI := by subst hen; rfl
  have e4 : en.code = .ref cda := by subst hen; rfl
  have e5 : en.scope.kind = .function := by subst hen; exact hk
  have e6 : en.globals = mainGlobals := by subst hen; rfl
  have e7 : en.builtins = builtinsNs := by subst hen; rfl
  have e8 : en.cells.lookup ("__class__" : Str) = some cc := by subst hen; rfl
  have e9 : en.locals = hp.objs.size := by subst hen; rfl
  have e10 : en.kindOf "self" = some .local := by subst hen; exact hself
  have e11 : en.kindOf fld = some .local := by subst hen; exact hfld
  have e12 : interactive en = false := by simp [interactive, e5]
  have hnL : h₁.Ns en.locals m := by rw [e9]; exact hns
  clear hen
  -- super()
  refine ks_wpAt_execs_cons (ks_wpAt_Expr_any (ks_wpAt_MethodCall (ks_wpAt_super_base e1 e2 rfl e3 (hk₁ _ _ (X _ _ ho)) rfl rfl e4 (X₁ _ _ hcda) rfl hvs hfile T.top ?_) he) e12 (by rfl))
  refine ks_loadName_global e5 e1 (loadGlobal_builtin (by rw [e6]; exact hg.keeps hk₁) T.noS (by rw [e7]; exact hbn.keeps hk₁) ((hbb _ (by decide +kernel)).trans (show bootBuiltins "super" = some (.type "super") by decide +kernel)) ⟨rfl, ?_⟩)
  refine wpAny_loadName_free e5 e2 e8 ⟨_, X₁ _ _ hcc, rfl⟩ ?_
  refine wpAny_loadName_local e5 e10 hnL vself ?_
  refine ks_wpAny_isType_cls (X₁ _ _ hC) rfl ⟨rfl, ?_⟩
  refine ks_wpAny_call_super (X₁ _ _ hC) rfl hx₁ rfl (fun c e => by cases e) (looks_mroIn X₁ T.meC) (fun h2 hso k2 => ?_)
  have X₂ : K.In h2 := X₁.keeps k2
  have hI : Looks (model P w) h2 (isInstance (.ref x) (.type "ValueError")) true := Looks.andThen (a := Value.ref C) (fun A Q E s k q => wpAny_typeOf_ref (k _ _ (k2 _ _ hx₁)) q) (looks_subIn X₂ T.veC)
  have hms := T.sup
  unfold ks_superIn at hms
  rw [hcl] at hms
  have hxC : x ≠ C := fun z => by rw [z, hC] at hnx; cases hnx
  refine kxs_getMethod kxs_ValueError hso (looks_opaque X₂ T.thp) (l₀ := .ref C :: bm) (fun A Q E s k q => wpAny_bind ((looks_clsIn X₂ hcl) A _ E s k (wpAny_pure q))) rfl X₂ hms hI hxC (by decide +kernel) ?_
  -- the wrapper, called
  have hxb : x < hp.objs.size := Heap.lt_size hx
  have b12 : h₁.objs.size ≤ h2.objs.size := by
    have this : h₁.objs.size < h2.objs.size := Heap.lt_size hso
    omega
  have bL : hp.objs.size < h₁.objs.size := hns.lt
  have k3 : ∀ b o, hp.get? b = some o → (h2.push (kxs_mw "ValueError.__init__" x)).get? b = some o := fun b o e => Heap.get?_push_of_some _ (k2 _ _ (hk₁ _ _ e))
  have fr3 : Fr (hideAll hp [x]) hp.objs.size (h2.push (kxs_mw "ValueError.__init__" x)) m := ⟨(hns.keeps k2).keeps fun b o e => Heap.get?_push_of_some _ e, fun b o e => k3 b o (of_hideAll _ e), Nat.le_of_eq (hideAll_size _ _)⟩
  have nw3 : News (hideAll hp [x]) hp.objs.size (h2.push (kxs_mw "ValueError.__init__" x)) [(h2.objs.size, kxs_mw "ValueError.__init__" x), (x, excObj C t0 none .none)] := by
    intro p hpm
    rcases List.mem_cons.mp hpm with rfl | hpm
    · refine ⟨Heap.get?_push_at rfl rfl, fun z => ?_, ?_⟩
      · have z : h2.objs.size = hp.objs.size := z
        omega
      · cases z : (hideAll hp [x]).get? h2.objs.size with
        | none => rfl
        | some o =>
          have := Heap.lt_size (of_hideAll _ z)
          have this : h2.objs.size < hp.objs.size := this
          omega
    · rcases List.mem_cons.mp hpm with rfl | hpm
      · exact ⟨k3 _ _ hx, hxL, hideAll_none _ (List.mem_cons_self)⟩
      · cases hpm
  have X0 : K.In (hideAll hp [x]) := fun b o e => hideAll_get _ (X b o e) (by
    intro z
    rcases List.mem_cons.mp z with rfl | z
    · rw [hnx] at e; cases e
    · cases z)
  refine kxs_callWith1 (i := "ValueError.__init__") (x := x) nw3 (List.mem_cons_self) (spliced_more (msg_run (M := id) hv hmsg e5 e11 (by rw [e9]; exact fr3.ns) vfld hdb fun out t tk2 => spliced_none ⟨?_, ?_⟩))
  · exact Heap.get?_push_at rfl rfl
  refine kxs_call (m := m) fr3 X0 nw3 F.excBase_ValueError T.ei (List.mem_cons_self) (.tail (Nat.ne_of_gt (Nat.lt_of_lt_of_le hxb (Nat.le_trans (Nat.le_of_lt bL) b12))) (.head fun p hp => by cases hp)) (by show 1 ≤ sizeLine; have := sizeL; omega) fun t' h4 F4 N4 _ => ?_
  have hx4 : h4.get? x = some (excO C t') := (N4 (x, excObj C t' none .none) (by simp)).1
  have X4 : K.In h4 := X0.keeps F4.keep
  -- self.f = v
  refine wpAt_of_wpAny ?_
  refine wpAny_execs_cons (plainObj_wpAny_Assign_Attribute ?_)
  refine wpAny_Name (wpAny_loadName_local e5 e11 (show (Shared.mk h4 g d tk2 os).heap.Ns en.locals m by rw [e9]; exact F4.ns) vfld ?_) hdb
  refine wpAny_Name (wpAny_loadName_local e5 e10 (show (Shared.mk h4 g d tk2 os).heap.Ns en.locals m by rw [e9]; exact F4.ns) vself ?_) (by decide +kernel)
  refine set_plain X4 (ox := excO C t') (od := none) ⟨hx4, rfl, rfl, trivial⟩ T.sa ?_
  refine exc_osa X4 hx4 hcl (show refsVE (.ref C :: bm) = true from hbm) rfl T.no (fun h5 tk5 dx k5 dn dne hx5 hn5 => ?_)
  refine wpAny_execs_nil (hq h5 tk5 dx t' ⟨fun b o hb e => k5 b o hb (F4.keep b o (hideAll_get _ e fun z => ?_)), hx5, ?_, dne, hn5⟩)
  · rcases List.mem_cons.mp z with z | z
    · exact hb z
    · cases z
  · have : hp.objs.size < h4.objs.size := F4.ns.lt
    have dn : h4.objs.size ≤ dx := dn
    show hp.objs.size ≤ dx
    omega
end
end Z

set_option Elab.async false
set_option linter.all false
set_option maxRecDepth 100000
set_option maxHeartbeats 4000000
namespace Z
open PySem PySem.Spec PySem.W PySem.Calls PyProof.Rows PySem.HandSPX

/-- an error that was made -/
structure Made (h h' : Heap) (e C d : Addr) (fld : Str) (v : Value) : Prop where
  keep : ∀ b o, h.get? b = some o → h'.get? b = some o
  new : h.objs.size ≤ e
  obj : ∃ t1 : Addr, h'.get? e = some { cls := .ref C, dict := some d, data := .fields #[.ref t1, .none, .none, .none, .bool false, .none] }
  dbig : h.objs.size ≤ d
  dne : d ≠ e
  ns : h'.Ns1 d (fun y => if y = fld then some v else none)
section
variable {P : Program} {w : World} {A : Around} {R : Result → Shared → Prop} {s : Shared} {K : Frag} {mg mb : Str → Option Value} {C fI : Addr} {fld : Str}
theorem made_run (T : InTxt P K mg C fI fld) {v : Value} (hv : FmtU v) (X : K.In s.heap) (hg : s.heap.Ns mainGlobals mg) (hbn : s.heap.Ns builtinsNs mb) (hbb : ∀ x : Str, x ≠ "__name__" → mb x = bootBuiltins x) (hlim : s.heap.NoLimit)
    (hroom : A.depth + 1 < recursionLimit) (hq : ∀ h' tk e d, Made s.heap h' e C d fld v → R (.ok (.ret (.ref e))) { s with heap := h', toks := tk }) : codeAny (model P w) A (.call (.ref C) ⟨[v], []⟩) R s := by
  obtain ⟨nm, q, N, bs, bm, sn, sub, ab, col, dd, k0, k1, k2, k3, k5, hC, hbm⟩ := T.cls
  obtain ⟨hp, g, dr, tk, os⟩ := s
  have k : ∀ b o, hp.get? b = some o → ((hp.push (kdv_tup [v])).push (excO C hp.objs.size)).get? b = some o := fun b o e => Heap.get?_push_of_some _ (Heap.get?_push_of_some _ e)
  have hget : ((hp.push (kdv_tup [v])).push (excO C hp.objs.size)).get? (hp.objs.size + 1) = some (excO C hp.objs.size) := by heap_get
  have hnx : K.lookup (hp.objs.size + 1) = none := by
    cases e : K.lookup (hp.objs.size + 1) with
    | none => rfl
    | some o =>
      have z := Heap.lt_size (show hp.get? (hp.objs.size + 1) = some o from X _ _ e)
      exact absurd (Nat.lt_of_succ_lt z) (Nat.lt_irrefl _)
  refine call_own F.excBase_ValueError (fun Y => refsVE_contains Y bm hbm) (X _ _ hC) (looks_findIn X T.iC) (fun self => bind_fn X self T.tC) (by show 1 ≤ sizeLine; have := sizeL; omega) ?_
  refine in_run (s := ⟨(hp.push (kdv_tup [v])).push (excO C hp.objs.size), g, dr, tk, os⟩) T hv (X.keeps k) (hg.keeps k) (hbn.keeps k) hbb (hlim.keeps k) hget hnx hroom fun h' tk' dx t1 e => ?_
  have old : ∀ b o, hp.get? b = some o → h'.get? b = some o := fun b o q => e.keep b o (Nat.ne_of_lt (Nat.lt_succ_of_lt (Heap.lt_size q))) (k b o q)
  have z : hp.objs.size + 1 + 1 ≤ dx := by
    have q := e.dbig
    rw [Heap.size_push, Heap.size_push] at q
    exact q
  exact ⟨rfl, hq h' tk' (hp.objs.size + 1) dx ⟨old, Nat.le_succ _, ⟨t1, e.obj⟩, Nat.le_trans (Nat.le_trans (Nat.le_succ _) (Nat.le_succ _)) z, e.dne, e.ns⟩⟩
end
end Z
namespace Z
open PySem PySem.Spec PyProof.Rows L2
theorem relO_one {f g : Str} {v : V} {u : Value} (r : RelV v u) : RelO (List.lookup g [(f, v)]) (if g = f then some u else none) := by
  by_cases h : g = f
  · subst h; rw [if_pos rfl]
    have : List.lookup g [(g, v)] = some v := by simp [List.lookup]
    rw [this]; exact r
  · rw [if_neg h]
    have e : (g == f) = false := by simpa using h
    have : List.lookup g [(f, v)] = none := by simp [List.lookup, e]
    rw [this]; trivial
section
variable {X : Cx} {C fI : Addr} {fld x : Str} {lv : Nat}
theorem fmt_u {v : V} {u : Value} (h : fmtV v) (r : RelV v u) : FmtU u := by
  rcases h with ⟨y, rfl, hy⟩ | ⟨i, rfl, hi⟩
  · obtain ⟨t, rfl⟩ := r; exact .inl ⟨y, t, rfl, hy⟩
  · obtain ⟨t, rfl⟩ := r; exact .inr ⟨i, t, rfl, hi⟩
theorem mk_ok (T : InTxt X.prog X.K X.mg C fI fld) (hm : X.mg x = some (.ref C)) (hr : Room lv X.A) : MkOk X x C fld := by
  intro e te p pos g ns pe pins s σ H Q I h
  obtain ⟨gl, dbg⟩ := gl_ok g
  refine wpAny_Call_Name_kw (ld_glob I gl hm ?_ dbg)
  refine PySem.W.callWith_K (h₀ := X.base) I.ok.mod.kin T.kC (thn ((pa_cons pe pa_nil (star_ok ns)).run pos pins s σ H (fun vs H1 => match vs with
    | [v] => fmtV v ∧ ∀ d, H1 d = none → Q (.ref C) (some d) (upd H1 d (.xd [(fld, v)]))
    | _ => False) I h) fun us s1 hh => ?_) (star_ok ns) rfl
  obtain ⟨vs, H1, I1, r1, hh⟩ := hh
  obtain ⟨v, rfl, fv, q1⟩ : ∃ v, vs = [v] ∧ fmtV v ∧ ∀ d, H1 d = none → Q (.ref C) (some d) (upd H1 d (.xd [(fld, v)])) := by
    rcases vs with _ | ⟨v, _ | ⟨w, vs⟩⟩
    · exact hh.elim
    · exact ⟨v, rfl, hh⟩
    · exact hh.elim
  refine ⟨I1.kIn, ?_⟩
  cases r1 with
  | cons rv rn =>
    rename_i v' us'
    cases rn
    show wpAny _ _ (call (.ref C) [v']) _ _ _
    have hlim := I1.nolimit
    obtain ⟨mb, hb1, hb2⟩ := I1.ok.mod.blt
    have hg := I1.ok.mod.glob.keeps I1.bk
    have hbn := hb1.keeps I1.bk
    obtain ⟨hp, gs, dr, tk, os⟩ := s1
    refine wpAny_call (made_run T (fmt_u fv rv) I1.kIn hg hbn hb2 hlim (by have := hr.dp; omega) fun h' tk' e d M => ?_)
    show MkP X pins σ Q (.ref e) ⟨h', gs, dr, tk', os⟩
    obtain ⟨t1, hoe⟩ := M.obj
    have hns := M.ns
    obtain ⟨G', g1, g2⟩ := restrict h' fun b => decide (b ≠ e)
    have gk : ∀ b, b ≠ e → G'.get? b = h'.get? b := fun b hb => g1 b (decide_eq_true hb)
    have ge : G'.get? e = none := g2 e (by simp)
    have old : ∀ b o, hp.get? b = some o → G'.get? b = some o := fun b o q => (gk b (Nat.ne_of_lt (Nat.lt_of_lt_of_le (Heap.lt_size q) M.new))).trans (M.keep b o q)
    have ob : ObjOk X.prog X.w (upd H1 d (.xd [(fld, v)])) G' d (.xd [(fld, v)]) := ⟨_, hns.at (fun o q => (gk d M.dne).trans q), fun f => relO_one rv⟩
    have J : Inv X pins σ (upd H1 d (.xd [(fld, v)])) ⟨G', gs, dr, tk', os⟩ := I1.laid (t' := tk') old M.dbig ob
    refine ⟨e, _, _, ⟨G', gs, dr, tk', os⟩, _, .ref C, some d, rfl, J, fun b o q => ?_, ge, hoe, ⟨rfl, rfl⟩, rfl, rfl, ?_, rfl, I1.bare, raises_own T.exC T.tyC, q1 d (I1.hok.fresh M.dbig)⟩
    · by_cases hb : b = e
      · have q' : G'.get? b = some o := q
        rw [hb, ge] at q'; cases q'
      · exact (gk b hb).symm.trans q
    · rw [upd_ne (Ne.symm M.dne)]
      exact I1.hok.fresh M.new
end
end Z

set_option Elab.async false
set_option linter.all false
set_option maxRecDepth 100000
set_option maxHeartbeats 4000000
namespace Z
open PySem PySem.Spec PyProof.Rows L2

/-! ## a program's defs and errors -/
structure DefC where
  name : Str
  ar : Nat
  N : List Str
  calls : List Nat
  gcs : List (Str × PyData)
  body : S
structure ErrD where
  id : Nat
  name : Str
  msg : Str
  k : Nat
  qs : List Pos
  p1 : Pos
  p2 : Pos
  scope : Scope
  qual : Str
def ErrD.q (e : ErrD) : Nat → Pos := fun i => e.qs.getD i ⟨0, 0, 0, 0⟩
section
variable (cs : List DefC) (es : List ErrD)
def locT (calls : List Nat) (T : Tb) : Tb := fun i => (calls[i]?).bind T
def cstC (gcs : List (Str × PyData)) : Nat → Option PyData := fun g => (gcs[g]?).map fun p => p.2
def tbl : Nat → Tb
  | 0 => fun _ => none
  | k + 1 => fun id => (cs[id]?).map fun c => (c.ar, evDef (locT c.calls (tbl k)) (cstC c.gcs) c.N.length c.body)
def errOf (c : Nat) : Option ErrD := es.find? fun e => e.id == c
def xcZ : Nat → Option Str := fun j => if j = 10 then (if es.isEmpty then none else some "ReelError") else (errOf es j).map (·.name)
def x9Z (K : PySem.W.Frag) : Nat → Addr × Str := fun c => match errOf es c with
  | some e => (He.ga K e.name, atN c)
  | none => (0, ⟨#[]⟩)
def cvZ (K : PySem.W.Frag) : Nat → Value := fun j => if j = 11 then .type "ValueError" else if 10 ≤ j then .ref (He.ga K "ReelError") else match errOf es j with
  | some e => .ref (He.ga K e.name)
  | none => .none
def nmD (j : Nat) : Str := match cs[j]? with
  | some c => c.name
  | none => ⟨#[]⟩
def nxZ (c : DefC) : Nx := ⟨c.N, c.calls.map (nmD cs), c.gcs.map (·.1), xcZ es⟩
end

/-! ## what the text says -/
def scB (N P : List Str) (sc : Scope) : Bool := (match sc.kind with
  | .function => true
  | _ => false) && (!sc.isCoroutine && (!sc.isGenerator && (decide N.Nodup && (decide (N.take P.length = P) && ((P.all fun x => kB sc x .local || kB sc x .cell) && sc.names.all fun y => !(y.2 == .free))))))
theorem scB_ok {N P : List Str} {sc : Scope} (h : scB N P sc = true) : FnScope N P sc := by
  obtain ⟨h1, h⟩ := ba h
  obtain ⟨h2, h⟩ := ba h
  obtain ⟨h3, h⟩ := ba h
  obtain ⟨h4, h⟩ := ba h
  obtain ⟨h5, h⟩ := ba h
  obtain ⟨h6, h7⟩ := ba h
  refine ⟨?_, by simpa using h2, by simpa using h3, of_decide_eq_true h4, of_decide_eq_true h5, fun x hx => ?_, fun y hy => ?_⟩
  · split at h1
    · assumption
    · cases h1
  · rcases Bool.or_eq_true_iff.mp (List.all_eq_true.mp h6 x hx) with z | z
    · exact .inl (kB_ok z)
    · exact .inr (kB_ok z)
  · have := List.all_eq_true.mp h7 y hy
    intro z
    rw [z] at this
    cases this
def ckD (cs : List DefC) (es : List ErrD) (c : DefC) (d : He.DefD) : Bool := decide (c.ar ≤ c.N.length) && (decide (d.at_ = (c.name, none)) && (decide (d.dfl.length = 0) && (scB c.N (c.N.take c.ar) d.scope && (ckS (nxZ cs es c) d.scope c.body).l d.body)))
/-- parameters bind by place -/
def BindP (n : Nat) (N : List Str) (d : He.DefD) : Prop := ∀ (kV doc pm : Value) (an : Option Addr) (cdv ct : Value) (us : List Value), us.length = n → bindArgs (PySem.W.fnOf d.name d.qual d.params d.body d.scope .none kV doc pm an cdv ct) ⟨us, []⟩ = pure ((N.take n).zip us)

/-! ## what the heap says -/
def isNon : Value → Bool
  | .none => true
  | _ => false
def shapeB (K : PySem.W.Frag) (C : Addr) : Bool := match K.lookup C with
  | some ⟨.type t, _, .cls cd, sl⟩ => decide (t = "type") && (match cd.mro, sl.toList with
    | .ref C' :: bm, [_, _, _, _, some (.builtin n), _] => (C' == C && n == "ValueError.__new__") && (!cd.hasDel && (cd.hasDict && PySem.HandSPX.refsVE bm))
    | _, _ => false)
  | _ => false
theorem shape_ok {K : PySem.W.Frag} {C : Addr} (h : shapeB K C = true) : ∃ nm q N bs bm sn sub ab col dd k0 k1 k2 k3 k5, K.lookup C = some (excClassObj nm q C N bs bm true sn sub ab col dd k0 k1 k2 k3 k5 "ValueError.__new__") ∧ PySem.HandSPX.refsVE bm = true := by
  unfold shapeB at h
  split at h
  · rename_i t dd cd sl ho
    obtain ⟨h1, h2⟩ := ba h
    have e1 := of_decide_eq_true h1
    subst e1
    split at h2
    · rename_i C' bm k0 k1 k2 k3 n k5 hm hs
      obtain ⟨a, b⟩ := ba h2
      obtain ⟨a1, a2⟩ := ba a
      obtain ⟨b1, b⟩ := ba b
      obtain ⟨b2, b3⟩ := ba b
      have e2 := beq_iff_eq.mp a1
      have e3 := beq_iff_eq.mp a2
      obtain ⟨nm, bs, mro, ns, qn, hd, sn, sub, ab, col, del⟩ := cd
      dsimp only at hm b1 b2
      have e4 : del = false := by simpa using b1
      subst hm b2 e2 e3 e4
      have hsl : sl = #[k0, k1, k2, k3, some (.builtin "ValueError.__new__"), k5] := by
        obtain ⟨l⟩ := sl
        simp only at hs
        rw [hs]
      subst hsl
      exact ⟨nm, qn, ns, bs, bm, sn, sub, ab, col, dd, k0, k1, k2, k3, k5, ho, b3⟩
    · cases h2
  · cases h
abbrev InW : Type := Option (Str × Str × Arguments × FuncBody × Scope × Addr × List Str × Addr)
def inAd (K : PySem.W.Frag) (e : ErrD) : Addr := He.ma K (He.ga K e.name) "__init__"
def inW (K : PySem.W.Frag) (e : ErrD) : InW := match K.lookup (inAd K e) with
  | some ⟨_, _, .func fd, _⟩ => some (fd.name, fd.qualname, fd.params, fd.body, fd.scope, fd.globals, fd.closure.map (·.1), fd.builtins)
  | _ => none
def ErrD.val (e : ErrD) : InW := some ("__init__", e.qual, inA (atN e.id) e.p1 e.p2, .stmts (inB (atN e.id) e.msg e.k e.q), e.scope, mainGlobals, ["__class__"], builtinsNs)
/-- the rest of an __init__'s object -/
def inR (P : Program) (K : PySem.W.Frag) (e : ErrD) : Bool := match K.lookup (inAd K e) with
  | some ⟨_, _, .func fd, _⟩ => (isNon fd.defaults && isNon fd.kwdefaults) && ((match fd.closure with
    | [(_, cc)] => (match K.lookup cc with
      | some ⟨_, _, .cell (some (.ref C)), _⟩ => C == He.ga K e.name
      | _ => false)
    | _ => false) && (match fd.code with
    | .ref cda => PySem.W.codeIn K (.ref cda) e.qual && (match K.lookup cda with
      | some ⟨_, _, .fields vs, _⟩ => (match vs[2]? with
        | some (Value.str file _) => (P.main.file : Str) == file
        | _ => false)
      | _ => false)
    | _ => false))
  | _ => false
def veL : List Value := [.type "ValueError", .type "Exception", .type "BaseException", .type "object"]
def clsB (P : Program) (es : List ErrD) (K : PySem.W.Frag) (e : ErrD) : Bool :=
  let C := He.ga K e.name
  (He.Fa.glo e.name).ok K && (shapeB K C && (xfB K C && (decide (PySem.W.findIn K (.ref C) "__setattr__" = some (some (.builtin "object.__setattr__"))) && (decide (PySem.W.findIn K (.ref C) (atN e.id) = some none) &&
  (decide (PySem.W.findIn K (.ref C) "__init__" = some (some (.ref (inAd K e)))) && (decide (PySem.W.typeIn K (.ref (inAd K e)) = some (.type "function")) && (PySem.W.keepIn K (.ref C) &&
  (decide (PySem.W.subIn K (.ref C) (.type "ValueError") = some true) && (decide (PySem.W.mroIn K C (.ref C) = some true) && (decide (PySem.W.typeIn K (.ref C) = some (.type "type")) &&
  (decide (PySem.W.ks_superIn K C C "__init__" = some (some (.builtin "ValueError.__init__"))) && (PySem.W.excInitIn K C veL "ValueError.__new__" && (inR P K e &&
  (decide (PySem.W.exmOne K (.ref C) (.ref (He.ga K "ReelError")) = some true) && (decide (PySem.W.kitOne K (.ref C) (.type "ValueError") = some true) && (decide (PySem.W.kitOne K (.ref C) (.ref (He.ga K "ReelError")) = some true) &&
  ((es.all fun e' => decide (PySem.W.kitOne K (.ref C) (.ref (He.ga K e'.name)) = some (e.id == e'.id))) && (decide (PySem.W.findIn K (.ref C) "__class__" = some (some (.builtin "object.__class__"))) && decide (PySem.W.mroIn K C (.type "object") = some true)))))))))))))))))))
mutual
/-- a constant of the module: a value that is these data -/
def dzB (K : PySem.W.Frag) : PyData → Value → Bool
  | .none, .none => true
  | .bool b, .bool c => b == c
  | .int i, .int j _ => decide (i = j)
  | .str x, .str y _ => decide (x = y)
  | .tuple ds, .ref a => (match K.lookup a with
    | some ⟨.type t, _, .seq its _, _⟩ => decide (t = "tuple") && (decide (its.size ≤ sizeLine) && dzBs K ds its.toList)
    | _ => false)
  | _, _ => false
def dzBs (K : PySem.W.Frag) : List PyData → List Value → Bool
  | [], [] => true
  | d :: ds, v :: vs => dzB K d v && dzBs K ds vs
  | _, _ => false
end
def gB (K : PySem.W.Frag) (p : Str × PyData) : Bool := match PySem.W.nsIn K mainGlobals p.1 with
  | some (some u) => dzB K p.2 u
  | _ => false
mutual
theorem dzB_ok {K : PySem.W.Frag} : ∀ {d : PyData} {u : Value}, dzB K d u = true → ∃ v, RelV v u ∧ Dz K (fun _ => none) v d
  | .none, u, h => by cases u <;> first | exact ⟨.non, rfl, .non⟩ | (cases h; done)
  | .bool b, u, h => by
    cases u <;> try (cases h; done)
    rename_i c
    have e : b = c := eq_of_beq h
    subst e
    exact ⟨.bl b, rfl, .bl b⟩
  | .int i, u, h => by
    cases u <;> try (cases h; done)
    rename_i j t
    have e : i = j := of_decide_eq_true h
    subst e
    exact ⟨.int i, ⟨t, rfl⟩, .int i⟩
  | .str x, u, h => by
    cases u <;> try (cases h; done)
    rename_i y t
    have e : x = y := of_decide_eq_true h
    subst e
    exact ⟨.str x, ⟨t, rfl⟩, .str x⟩
  | .tuple ds, u, h => by
    cases u <;> try (cases h; done)
    rename_i a
    unfold dzB at h
    split at h
    · rename_i t dd its n sl ho
      obtain ⟨h1, h⟩ := ba h
      obtain ⟨h2, h3⟩ := ba h
      obtain ⟨xs, r, z⟩ := dzBs_ok h3
      have e := of_decide_eq_true h1
      subst e
      exact ⟨.ref a, rfl, .tup (.inr ⟨_, its, n, ho, rfl, rfl, of_decide_eq_true h2, r⟩) z⟩
    · cases h
  | .list _, u, h => by cases u <;> cases h
  | .dict _, u, h => by cases u <;> cases h
theorem dzBs_ok {K : PySem.W.Frag} : ∀ {ds : List PyData} {us : List Value}, dzBs K ds us = true → ∃ xs, Vals xs us ∧ DzAll K (fun _ => none) xs ds
  | [], us, h => by
    cases us with
    | nil => exact ⟨[], .nil, .nil⟩
    | cons _ _ => cases h
  | d :: ds, us, h => by
    cases us with
    | nil => cases h
    | cons u us =>
      obtain ⟨h1, h2⟩ := ba h
      obtain ⟨v, r, z⟩ := dzB_ok h1
      obtain ⟨vs, rs, zs⟩ := dzBs_ok h2
      exact ⟨v :: vs, .cons r rs, .cons z zs⟩
end
theorem gB_ok {K : PySem.W.Frag} {h : Heap} {mg : Str → Option Value} (X : K.In h) (G : h.Ns mainGlobals mg) {p : Str × PyData} (e : gB K p = true) : ∃ u v, mg p.1 = some u ∧ RelV v u ∧ Dz K (fun _ => none) v p.2 := by
  unfold gB at e
  split at e
  · rename_i u hu
    obtain ⟨v, r, z⟩ := dzB_ok e
    exact ⟨u, v, PySem.W.mg_of X G hu, r, z⟩
  · cases e
def exZ (P : Program) (cs : List DefC) (es : List ErrD) (K : PySem.W.Frag) : Bool :=
  (cs.all fun c => (He.Fa.glo c.name).ok K && c.gcs.all fun p => gB K p) && ((((("ValueError" : Str) :: ("super" : Str) :: biNames)).all fun x => (He.Fa.free x).ok K) && ((K.all fun p => notList p.2) &&
  ((es.isEmpty || ((He.Fa.glo "ReelError").ok K && (decide (PySem.W.specialIn K (.builtin "object.__class__") "__get__" = some (some (.builtin "getset_descriptor.__get__"))) && (decide (PySem.W.takesIn K (.builtin "object.__class__") = some true) && decide (PySem.W.nsIn K cStatics "thirdparty.any" = some none))))) && es.all fun e => clsB P es K e)))
def asZ (g : Addr → Option Obj) : Nat → List Addr
  | 0 => [mainGlobals, cStatics]
  | n + 1 => He.growD g (asZ g n)
abbrev AlZ : Type := Bool × List He.FnW × List InW
def obsK (P : Program) (cs : List DefC) (ds : List He.DefD) (es : List ErrD) (K : PySem.W.Frag) : AlZ := (exZ P cs es K && ds.all fun d => d.ok K, ds.map fun d => He.fnW K d.at_, es.map (inW K))
def obsZ (n : Nat) (P : Program) (cs : List DefC) (ds : List He.DefD) (es : List ErrD) (g : Addr → Option Obj) : AlZ := obsK P cs ds es (He.frG g (asZ g n))
def valZ (ds : List He.DefD) (es : List ErrD) : AlZ := (true, ds.map He.DefD.val, es.map ErrD.val)
def hookZ (n : Nat) (P : Program) (cs : List DefC) (ds : List He.DefD) (es : List ErrD) : PySem.W.Hook where
  α := AlZ
  obs := fun s => obsZ n P cs ds es s.heap.get?
  val := fun _ => valZ ds es
  says := fun _ h => ∃ K : PySem.W.Frag, K.In h ∧ obsK P cs ds es K = valZ ds es
  of := fun _ _ e => ⟨_, He.frG_in, e⟩
  keeps := fun _ _ _ ⟨K, hK, c⟩ k => ⟨K, PySem.W.Frag.In.keeps hK k, c⟩
theorem obsZ_eq {n : Nat} {P : Program} {cs : List DefC} {ds : List He.DefD} {es : List ErrD} {g : Addr → Option Obj} {s : Shared} (h : ∀ a, g a = s.heap.get? a) : obsZ n P cs ds es g = (hookZ n P cs ds es).obs s := by
  have e : g = s.heap.get? := funext h
  rw [e] <;> rfl

/-! ## facts -/
section
variable {P : Program} {cs : List DefC} {ds : List He.DefD} {es : List ErrD} {K : PySem.W.Frag} {h : Heap} {mg : Str → Option Value}
theorem obs_ex (c : obsK P cs ds es K = valZ ds es) : exZ P cs es K = true ∧ ∀ d ∈ ds, d.ok K = true := by
  have e : (exZ P cs es K && ds.all fun d => d.ok K) = true := congrArg (fun z : AlZ => z.1) c
  obtain ⟨a, b⟩ := ba e
  exact ⟨a, fun d hd => List.all_eq_true.mp b d hd⟩
theorem obs_def (c : obsK P cs ds es K = valZ ds es) {d : He.DefD} (hd : d ∈ ds) : ∃ fd, FunD K d.name d.qual d.params d.body d.scope (d.dvs K) (d.kws K) (He.fAd K d.at_) fd := by
  have e : ds.map (fun d => He.fnW K d.at_) = ds.map He.DefD.val := congrArg (fun z : AlZ => z.2.1) c
  obtain ⟨i, hi⟩ := List.mem_iff_getElem?.mp hd
  have e2 : (ds.map fun d => He.fnW K d.at_)[i]? = (ds.map He.DefD.val)[i]? := by rw [e]
  rw [List.getElem?_map, List.getElem?_map, hi] at e2
  exact He.DefD.funD (Option.some.inj e2) ((obs_ex c).2 d hd)
theorem obs_in (c : obsK P cs ds es K = valZ ds es) {e : ErrD} (he : e ∈ es) : inW K e = e.val := by
  have z : es.map (inW K) = es.map ErrD.val := congrArg (fun z : AlZ => z.2.2) c
  obtain ⟨i, hi⟩ := List.mem_iff_getElem?.mp he
  have e2 : (es.map (inW K))[i]? = (es.map ErrD.val)[i]? := by rw [z]
  rw [List.getElem?_map, List.getElem?_map, hi] at e2
  exact Option.some.inj e2
theorem find_mem {c : Nat} {e : ErrD} (h : errOf es c = some e) : e ∈ es ∧ e.id = c := by
  unfold errOf at h
  exact ⟨List.mem_of_find?_eq_some h, by have := List.find?_some h; exact beq_iff_eq.mp this⟩
/-- a class's facts -/
structure ClsF (P : Program) (es : List ErrD) (K : PySem.W.Frag) (e : ErrD) : Prop where
  glo : (He.Fa.glo e.name).ok K = true
  shape : shapeB K (He.ga K e.name) = true
  xf : XfC K (He.ga K e.name)
  sa : PySem.W.findIn K (.ref (He.ga K e.name)) "__setattr__" = some (some (.builtin "object.__setattr__"))
  no : PySem.W.findIn K (.ref (He.ga K e.name)) (atN e.id) = some none
  iC : PySem.W.findIn K (.ref (He.ga K e.name)) "__init__" = some (some (.ref (inAd K e)))
  tC : PySem.W.typeIn K (.ref (inAd K e)) = some (.type "function")
  kC : PySem.W.keepIn K (.ref (He.ga K e.name)) = true
  ve : PySem.W.subIn K (.ref (He.ga K e.name)) (.type "ValueError") = some true
  me : PySem.W.mroIn K (He.ga K e.name) (.ref (He.ga K e.name)) = some true
  ty : PySem.W.typeIn K (.ref (He.ga K e.name)) = some (.type "type")
  sup : PySem.W.ks_superIn K (He.ga K e.name) (He.ga K e.name) "__init__" = some (some (.builtin "ValueError.__init__"))
  ei : PySem.W.excInitIn K (He.ga K e.name) veL "ValueError.__new__" = true
  inr : inR P K e = true
  exm : PySem.W.exmOne K (.ref (He.ga K e.name)) (.ref (He.ga K "ReelError")) = some true
  kv : PySem.W.kitOne K (.ref (He.ga K e.name)) (.type "ValueError") = some true
  kr : PySem.W.kitOne K (.ref (He.ga K e.name)) (.ref (He.ga K "ReelError")) = some true
  ke : ∀ e' ∈ es, PySem.W.kitOne K (.ref (He.ga K e.name)) (.ref (He.ga K e'.name)) = some (e.id == e'.id)
  cl : PySem.W.findIn K (.ref (He.ga K e.name)) "__class__" = some (some (.builtin "object.__class__"))
  ob : PySem.W.mroIn K (He.ga K e.name) (.type "object") = some true
theorem clsF_of {e : ErrD} (h : clsB P es K e = true) : ClsF P es K e := by
  obtain ⟨h1, h⟩ := ba h
  obtain ⟨h2, h⟩ := ba h
  obtain ⟨h3, h⟩ := ba h
  obtain ⟨h4, h⟩ := ba h
  obtain ⟨h5, h⟩ := ba h
  obtain ⟨h6, h⟩ := ba h
  obtain ⟨h7, h⟩ := ba h
  obtain ⟨h8, h⟩ := ba h
  obtain ⟨h9, h⟩ := ba h
  obtain ⟨h10, h⟩ := ba h
  obtain ⟨h11, h⟩ := ba h
  obtain ⟨h12, h⟩ := ba h
  obtain ⟨h13, h⟩ := ba h
  obtain ⟨h14, h⟩ := ba h
  obtain ⟨h15, h⟩ := ba h
  obtain ⟨h16, h⟩ := ba h
  obtain ⟨h17, h⟩ := ba h
  obtain ⟨h18, h⟩ := ba h
  obtain ⟨h19, h20⟩ := ba h
  exact ⟨h1, h2, xfB_ok h3, of_decide_eq_true h4, of_decide_eq_true h5, of_decide_eq_true h6, of_decide_eq_true h7, h8, of_decide_eq_true h9, of_decide_eq_true h10, of_decide_eq_true h11, of_decide_eq_true h12, h13, h14, of_decide_eq_true h15, of_decide_eq_true h16, of_decide_eq_true h17,
    fun e' he' => of_decide_eq_true (List.all_eq_true.mp h18 e' he'), of_decide_eq_true h19, of_decide_eq_true h20⟩
structure ExF (P : Program) (cs : List DefC) (es : List ErrD) (K : PySem.W.Frag) : Prop where
  glo : ∀ c ∈ cs, (He.Fa.glo c.name).ok K = true
  int : ∀ c ∈ cs, ∀ p ∈ c.gcs, gB K p = true
  free : ∀ x : Str, x = "ValueError" ∨ x = "super" ∨ x ∈ biNames → (He.Fa.free x).ok K = true
  nl : ∀ b o, K.lookup b = some o → notList o = true
  rl : es ≠ [] → (He.Fa.glo "ReelError").ok K = true ∧ PySem.W.specialIn K (.builtin "object.__class__") "__get__" = some (some (.builtin "getset_descriptor.__get__")) ∧ PySem.W.takesIn K (.builtin "object.__class__") = some true ∧ PySem.W.nsIn K cStatics "thirdparty.any" = some none
  cls : ∀ e ∈ es, ClsF P es K e
theorem memA {a : Addr} {o : Obj} : ∀ {l : List (Addr × Obj)}, l.lookup a = some o → (a, o) ∈ l
  | [], h => by cases h
  | (b, u) :: r, h => by
    rw [List.lookup_cons] at h
    cases q : a == b with
    | true =>
      rw [q] at h
      cases h
      rw [beq_iff_eq.mp q]
      exact List.mem_cons_self
    | false =>
      rw [q] at h
      exact List.mem_cons_of_mem _ (memA h)
theorem exF_of (h : exZ P cs es K = true) : ExF P cs es K := by
  obtain ⟨h1, h⟩ := ba h
  obtain ⟨h2, h⟩ := ba h
  obtain ⟨h3, h⟩ := ba h
  obtain ⟨h4, h5⟩ := ba h
  refine ⟨fun c hc => (ba (List.all_eq_true.mp h1 c hc)).1, fun c hc p hp => List.all_eq_true.mp (ba (List.all_eq_true.mp h1 c hc)).2 p hp, fun x hx => List.all_eq_true.mp h2 x ?_, fun b o hb => ?_, fun hne => ?_, fun e he => clsF_of (List.all_eq_true.mp h5 e he)⟩
  · rcases hx with rfl | rfl | hx
    · simp
    · simp
    · simp [hx]
  · have : (b, o) ∈ K := memA hb
    exact List.all_eq_true.mp h3 _ this
  · rcases Bool.or_eq_true_iff.mp h4 with z | z
    · exact absurd (List.isEmpty_iff.mp z) hne
    · obtain ⟨z1, z⟩ := ba z
      obtain ⟨z2, z⟩ := ba z
      obtain ⟨z3, z4⟩ := ba z
      exact ⟨z1, of_decide_eq_true z2, of_decide_eq_true z3, of_decide_eq_true z4⟩
def inC (e : ErrD) : Bool := (match e.scope.kind with
  | .function => true
  | _ => false) && (!e.scope.isCoroutine && (!e.scope.isGenerator && (e.scope.names.all (fun y => !(y.2 == .cell)) && (kB e.scope "self" .local && (kB e.scope (atN e.id) .local && (kB e.scope "super" .globalImplicit && (kB e.scope "__class__" .free &&
  (((e.q 2).endLine == (e.q 7).line) && (decide (e.msg.length ≤ 1000) && decide (e.id < 10))))))))))
theorem atN_cases (c : Nat) : atN c = "at" ∨ atN c = "line" ∨ atN c = "reason" := by
  unfold atN
  by_cases h : c = 0
  · rw [if_pos h]; exact .inl rfl
  · rw [if_neg h]
    by_cases h2 : c = 9
    · rw [if_pos h2]; exact .inr (.inl rfl)
    · rw [if_neg h2]; exact .inr (.inr rfl)
theorem in_bind {f qual : Str} {p1 p2 : Pos} {body : List Stmt} {scope : Scope} {doc pm cd ct u z : Value} {an : Option Addr} {cc : Addr} (hf : f = "at" ∨ f = "line" ∨ f = "reason") :
    bindArgs (PySem.W.ksFn "__init__" qual (inA f p1 p2) body scope .none .none doc pm an cd ct cc) ⟨[u, z], []⟩ = pure [(("self" : Str), u), (f, z)] := by
  rcases hf with rfl | rfl | rfl <;> first | rfl | with_unfolding_all rfl
/-- what is known of a class's __init__ -/
theorem in_txt {e : ErrD} (X : K.In h) (G : h.Ns mainGlobals mg) (F : ExF P cs es K) (he : e ∈ es) (hi : inW K e = e.val) (htop : (P.main.scope.names.lookup ("super" : Str)).isSome = false) (ht : inC e = true) : InTxt P K mg (He.ga K e.name) (inAd K e) (atN e.id) := by
  have c := F.cls e he
  have ne : es ≠ [] := fun z => by rw [z] at he; cases he
  obtain ⟨r1, r2, r3, r4⟩ := F.rl ne
  obtain ⟨t1, ht⟩ := ba ht
  obtain ⟨t2, ht⟩ := ba ht
  obtain ⟨t3, ht⟩ := ba ht
  obtain ⟨t4, ht⟩ := ba ht
  obtain ⟨t5, ht⟩ := ba ht
  obtain ⟨t6, ht⟩ := ba ht
  obtain ⟨t7, ht⟩ := ba ht
  obtain ⟨t8, ht⟩ := ba ht
  obtain ⟨t9, ht⟩ := ba ht
  obtain ⟨t10, t11⟩ := ba ht
  refine ⟨shape_ok c.shape, c.sa, c.no, c.iC, c.tC, c.kC, c.xf.exC, c.ve, c.me, c.ty, c.sup, c.ei, r4, ?_, He.free_ok X G (F.free _ (.inr (.inl rfl))), htop⟩
  have hin := c.inr
  unfold inR at hin
  unfold inW at hi
  cases q : K.lookup (inAd K e) with
  | none => rw [q] at hin; cases hin
  | some o =>
    obtain ⟨oc, od, dt, osl⟩ := o
    rw [q] at hin hi
    cases dt with
    | func fd =>
      obtain ⟨n1, n2, n3, n4, n5, n6, n7, n8, n9, n10, n11, n12, n13, n14, n15⟩ := fd
      have e2 : (some (n1, n2, n3, n4, n5, n6, n7.map (·.1), n15) : InW) = some (("__init__" : Str), e.qual, inA (atN e.id) e.p1 e.p2, .stmts (inB (atN e.id) e.msg e.k e.q), e.scope, mainGlobals, [("__class__" : Str)], builtinsNs) := hi
      simp only [Option.some.injEq, Prod.mk.injEq] at e2
      obtain ⟨g1, g2, g3, g4, g5, g6, g7, g8⟩ := e2
      subst g1 g2 g3 g4 g5 g6 g8
      obtain ⟨i1, i2⟩ := ba hin
      obtain ⟨i3, i4⟩ := ba i1
      obtain ⟨i5, i6⟩ := ba i2
      dsimp only at i3 i4 i5 i6
      have d1 : n8 = .none := by cases n8 <;> first | rfl | (cases i3; done)
      have d2 : n9 = .none := by cases n9 <;> first | rfl | (cases i4; done)
      subst d1 d2
      split at i5
      · rename_i nm cc
        have hn : nm = "__class__" := by simpa using g7
        subst hn
        split at i5
        · rename_i cl cld C csl hcc
          have eC := beq_iff_eq.mp i5
          subst eC
          split at i6
          · rename_i cda
            obtain ⟨j1, j2⟩ := ba i6
            split at j2
            · rename_i ccl cdd vs ccs hcd
              split at j2
              · rename_i file tf hvs
                have hk : e.scope.kind = .function := by
                  split at t1
                  · assumption
                  · cases t1
                have hfs : atN e.id ≠ "self" := by rcases atN_cases e.id with z | z | z <;> rw [z] <;> decide
                have hdb : (atN e.id == ("__debug__" : Str)) = false := by rcases atN_cases e.id with z | z | z <;> rw [z] <;> decide +kernel
                exact ⟨oc, od, n10, n11, n12, n14, osl, cc, cda, e.qual, e.msg, e.scope, e.p1, e.p2, e.k, e.q, rfl, j1, of_decide_eq_true t10, hk, by simpa using t2, by simpa using t3, (fun y hy z => by
                  have := List.all_eq_true.mp t4 y hy
                  rw [z] at this; cases this), kB_ok t5, kB_ok t6, kB_ok t7, kB_ok t8, hfs, hdb, t9, fun u z => in_bind (atN_cases _), ⟨cl, cld, csl, hcc⟩, ccl, cdd, vs, ccs, file, tf, hcd, hvs, j2⟩
              · cases j2
            · cases j2
          · cases i6
        · cases i5
      · cases i5
    | _ => cases hin
end
end Z

set_option Elab.async false
set_option linter.all false
set_option maxRecDepth 100000
set_option maxHeartbeats 4000000
namespace Z
open PySem PySem.Spec PyProof.Rows L2
section
variable {P : Program} {w : World} {cs : List DefC} {ds : List He.DefD} {es : List ErrD} {K : PySem.W.Frag} {h base : Heap} {mg : Str → Option Value}
theorem x9_some {c : Nat} (p : (x9Z es K c).2 ≠ ⟨#[]⟩) : ∃ e, errOf es c = some e ∧ x9Z es K c = (He.ga K e.name, atN c) := by
  unfold x9Z at p ⊢
  cases q : errOf es c with
  | none => rw [q] at p; exact absurd rfl p
  | some e => exact ⟨e, rfl, rfl⟩
theorem atN_ne (c : Nat) : atN c ≠ ⟨#[]⟩ := by rcases atN_cases c with z | z | z <;> rw [z] <;> decide +kernel
theorem x9_of {c : Nat} {e : ErrD} (q : errOf es c = some e) : x9Z es K c = (He.ga K e.name, atN c) := by unfold x9Z; rw [q]
theorem md_of (X : K.In h) (G : h.Ns mainGlobals mg) (c : obsK P cs ds es K = valZ ds es) (hI : es.all inC = true) (htop : (P.main.scope.names.lookup ("super" : Str)).isSome = false) (lv : Nat) :
    Md P w K mg base (x9Z es K) (He.ga K "ReelError") (cvZ es K) (xcZ es) lv := by
  have F := exF_of (obs_ex c).1
  have hid : ∀ {j : Nat} {e : ErrD}, errOf es j = some e → e ∈ es ∧ e.id = j ∧ j < 10 := fun {j e} q => by
    obtain ⟨a, b⟩ := find_mem q
    have t := List.all_eq_true.mp hI e a
    obtain ⟨_, t⟩ := ba t
    obtain ⟨_, t⟩ := ba t
    obtain ⟨_, t⟩ := ba t
    obtain ⟨_, t⟩ := ba t
    obtain ⟨_, t⟩ := ba t
    obtain ⟨_, t⟩ := ba t
    obtain ⟨_, t⟩ := ba t
    obtain ⟨_, t⟩ := ba t
    obtain ⟨_, t⟩ := ba t
    obtain ⟨_, t⟩ := ba t
    exact ⟨a, b, by rw [← b]; exact of_decide_eq_true t⟩
  have xf : XF K (x9Z es K) (He.ga K "ReelError") (cvZ es K) := by
    refine ⟨fun c p => ?_, fun c p => ?_, fun c p => ?_, fun c p => ?_, fun c j p pj => ?_, fun c p => ?_⟩
    · obtain ⟨e, q, r⟩ := x9_some p; rw [r]
    · obtain ⟨e, q, r⟩ := x9_some p
      rw [r]; exact (F.cls e (hid q).1).xf
    · obtain ⟨e, q, r⟩ := x9_some p
      obtain ⟨a, b, _⟩ := hid q
      rw [r]; have := (F.cls e a).no; rw [b] at this; exact this
    · obtain ⟨e, q, r⟩ := x9_some p
      rw [r]; exact (F.cls e (hid q).1).exm
    · obtain ⟨e, q, r⟩ := x9_some p
      obtain ⟨a, b, c10⟩ := hid q
      rw [r]
      have C := F.cls e a
      unfold cvZ sbC
      by_cases h11 : j = 11
      · subst h11
        rw [if_pos rfl, C.kv]
        have : (c == 11 || decide (10 ≤ 11)) = true := by simp
        rw [this]
      · rw [if_neg h11]
        by_cases h10 : 10 ≤ j
        · rw [if_pos h10, C.kr]
          have : (c == j || decide (10 ≤ j)) = true := by simp [h10]
          rw [this]
        · rw [if_neg h10]
          rcases pj with z | z
          · exact absurd z h10
          · obtain ⟨e', q', r'⟩ := x9_some z
            obtain ⟨a', b', _⟩ := hid q'
            rw [q']
            show PySem.W.kitOne K (.ref (He.ga K e.name)) (.ref (He.ga K e'.name)) = _
            rw [C.ke e' a', b, b']
            simp [h10]
    · obtain ⟨e, q, r⟩ := x9_some p
      obtain ⟨a, b, c10⟩ := hid q
      rw [r]
      have C := F.cls e a
      obtain ⟨r1, r2, r3, r4⟩ := F.rl (fun z => by rw [z] at a; cases a)
      exact ⟨C.xf.ga, C.xf.gg, C.xf.exC, C.xf.hdC, C.cl, r2, r3, C.ob⟩
  have rcn : ∀ x, xcZ es 10 = some x → mg x = some (.ref (He.ga K "ReelError")) := fun x hx => by
    unfold xcZ at hx
    rw [if_pos rfl] at hx
    by_cases z : es.isEmpty = true
    · rw [if_pos z] at hx; cases hx
    · rw [if_neg z] at hx; cases hx
      exact He.glo_ok X G (F.rl (fun y => z (by rw [y]; rfl))).1
  refine ⟨fun x hx => He.free_ok X G (F.free x (.inr (.inr hx))), He.free_ok X G (F.free _ (.inl rfl)), xf, rfl, fun j x hx h11 => ?_, rcn, fun X' e1 e2 e3 e4 e5 hr c x hc hx => ?_⟩
  · by_cases h10 : j = 10
    · subst h10
      exact ⟨rcn x hx, ⟨_, rfl⟩, .inl rfl⟩
    · unfold xcZ at hx
      rw [if_neg h10] at hx
      cases q : errOf es j with
      | none => rw [q] at hx; cases hx
      | some e =>
        rw [q] at hx; cases hx
        obtain ⟨a, b, c10⟩ := hid q
        have ecv : cvZ es K j = .ref (He.ga K e.name) := by
          unfold cvZ
          rw [if_neg h11, if_neg (by omega), q]
        exact ⟨by rw [ecv]; exact He.glo_ok X G (F.cls e a).glo, ⟨_, ecv⟩, .inr (by rw [x9_of q]; exact atN_ne j)⟩
  · unfold xcZ at hx
    rw [if_neg (by omega)] at hx
    cases q : errOf es c with
    | none => rw [q] at hx; cases hx
    | some e =>
      rw [q] at hx; cases hx
      obtain ⟨a, b, c10⟩ := hid q
      rw [x9_of q]
      refine ⟨atN_ne c, ?_⟩
      subst e1 e3 e4
      have T := in_txt X G F a (obs_in ‹_› a) htop (List.all_eq_true.mp hI e a)
      rw [b] at T
      exact mk_ok T (He.glo_ok X G (F.cls e a).glo) hr
/-- all defs keep their promises, level by level -/
theorem lv_ok (X : K.In h) (G : h.Ns mainGlobals mg) (c : obsK P cs ds es K = valZ ds es) (hI : es.all inC = true) (htop : (P.main.scope.names.lookup ("super" : Str)).isSome = false)
    (hck : ∀ (i : Nat) (c : DefC), cs[i]? = some c → ∃ d, ds[i]? = some d ∧ ckD cs es c d = true ∧ BindP c.ar c.N d) : ∀ (k id m : Nat) (fm : Fm), tbl cs k id = some (m, fm) →
      ∃ c d f fd, cs[id]? = some c ∧ ds[id]? = some d ∧ m = c.ar ∧ FunD K d.name d.qual d.params d.body d.scope [] (d.kws K) f fd ∧ mg c.name = some (.ref f) ∧ (c.N.take c.ar).length = m ∧ FnG P w K mg base k f fd (c.N.take c.ar) (spOf K (x9Z es K) m fm)
  | 0, id, m, fm, e => by cases e
  | k + 1, id, m, fm, e => by
    have F := exF_of (obs_ex c).1
    have e : (cs[id]?).map (fun c => (c.ar, evDef (locT c.calls (tbl cs k)) (cstC c.gcs) c.N.length c.body)) = some (m, fm) := e
    cases q : cs[id]? with
    | none => rw [q] at e; cases e
    | some cc =>
      rw [q] at e
      cases e
      obtain ⟨d, hd, hcd, hb⟩ := hck id cc q
      obtain ⟨h1, hcd⟩ := ba hcd
      obtain ⟨h2, hcd⟩ := ba hcd
      obtain ⟨h3, hcd⟩ := ba hcd
      obtain ⟨h4, h5⟩ := ba hcd
      have hat := of_decide_eq_true h2
      have har := of_decide_eq_true h1
      have hdf : d.dfl = [] := List.length_eq_zero_iff.mp (of_decide_eq_true h3)
      obtain ⟨fd, D⟩ := obs_def c (List.mem_of_getElem? hd)
      have hdv : d.dvs K = [] := by unfold He.DefD.dvs; rw [hdf]; rfl
      rw [hdv] at D
      have hlen : (cc.N.take cc.ar).length = cc.ar := by rw [List.length_take]; omega
      have hf : mg cc.name = some (.ref (He.fAd K d.at_)) := by rw [hat]; exact He.glo_ok X G (F.glo cc (List.mem_of_getElem? q))
      refine ⟨cc, d, _, fd, rfl, hd, rfl, D, hf, hlen, ?_⟩
      refine def_ok (nx := nxZ cs es cc) D (scB_ok h4) hlen har h5 (md_of X G c hI htop k) (fun i m fm hi => ?_) (fun g dd hg => ?_)
      · unfold locT at hi
        cases q2 : cc.calls[i]? with
        | none => rw [q2] at hi; cases hi
        | some j =>
          rw [q2] at hi
          obtain ⟨c', d', f', fd', a1, a2, a3, a4, a5, a6, a7⟩ := lv_ok X G c hI htop hck k j m fm hi
          refine ⟨c'.name, f', fd', c'.N.take c'.ar, a6, ?_, a5, a4.kp, ?_, a7⟩
          · show (cc.calls.map (nmD cs))[i]? = _
            rw [List.getElem?_map, q2]
            show some (nmD cs j) = _
            unfold nmD
            rw [a1]
          · obtain ⟨d2, b1, b2, b3⟩ := hck j c' a1
            rw [a2] at b1; cases b1
            exact a4.bindsN (ps := c'.N.take c'.ar) fun kV doc pm an cdv ct us hl => by
              have hl : us.length = c'.ar := by rw [hl, a6, a3]
              rw [b3 kV doc pm an cdv ct us hl]
      · unfold cstC at hg
        cases q2 : cc.gcs[g]? with
        | none => rw [q2] at hg; cases hg
        | some p =>
          rw [q2] at hg; cases hg
          obtain ⟨u, v, hu, hr, hz⟩ := gB_ok X G (F.int cc (List.mem_of_getElem? q) p (List.mem_of_getElem? q2))
          refine ⟨p.1, u, v, ?_, hu, hr, hz⟩
          show (cc.gcs.map (·.1))[g]? = _
          rw [List.getElem?_map, q2]; rfl
end
/-- a law's end -/
theorem walkZ {l : PySem.W.OpenLaw} {n k N id : Nat} {q : Program} {loose : List Str} {XP : (Str → Option Value) → Heap → Prop} {d : DefRec} {x : Str} {cs : List DefC} {ds : List He.DefD} {es : List ErrD} {c : DefC} {fm : Fm} (hn : l.most = some n) (hn2 : n ≤ sizeLine) (hdf : d.params.defaults = []) (hr : Room k callerA)
    (hI : es.all inC = true) (htop : (l.prog.main.scope.names.lookup ("super" : Str)).isSome = false) (hck : ∀ (i : Nat) (c : DefC), cs[i]? = some c → ∃ d, ds[i]? = some d ∧ ckD cs es c d = true ∧ BindP c.ar c.N d)
    (hc : cs[id]? = some c) (hnm : d.name = c.name) (hx : c.N.take c.ar = [x]) (hfm : tbl cs k id = some (1, fm))
    (hlaw : ∀ ns : List Int, ns.length ≤ n → ∃ ds, fm [.fz (.list (ns.map PyData.int))] = .ret (.fr (.bool true)) ds) : PySem.W.WalkO q loose XP (hookZ N l.prog cs ds es).says l.row.toRowW d [] (fun f vs => PySem.call f vs) := by
  refine walkG (x := x) (fm := fm) hn hn2 hdf hr hlaw fun w mg fa h Y G hmg => ?_
  obtain ⟨K, KX, o⟩ := Y
  have F := exF_of (obs_ex o).1
  obtain ⟨c', d', f', fd', a1, a2, a3, a4, a5, a6, a7⟩ := lv_ok (w := w) (base := h) KX G o hI htop hck k id 1 fm hfm
  rw [hc] at a1; cases a1
  rw [hnm, a5] at hmg
  cases hmg
  obtain ⟨d2, b1, b2, b3⟩ := hck id c hc
  rw [a2] at b1; cases b1
  have hbind := a4.bindsA (ps := [x]) fun kV doc pm an cdv ct us hl => by
    have hl : us.length = c.ar := by rw [← a3]; exact hl
    rw [b3 kV doc pm an cdv ct us hl, hx]
  refine ⟨K, fd', x9Z es K, KX, F.nl, fun s u => hbind s [u] rfl, fun base bX bG => ?_⟩
  obtain ⟨c3, d3, f3, fd3, e1, e2, e3, e4, e5, e6, e7⟩ := lv_ok (w := w) (base := base) KX G o hI htop hck k id 1 fm hfm
  rw [hc] at e1; cases e1
  rw [a2] at e2; cases e2
  rw [a5] at e5; cases e5
  have efd : fd3 = fd' := by
    obtain ⟨oc, od, _, _, _, _, _, _, _, osl, _, l1, _⟩ := e4.ex
    obtain ⟨oc', od', _, _, _, _, _, _, _, osl', _, l2, _⟩ := a4.ex
    rw [l1] at l2
    have := Option.some.inj l2
    injection this with _ _ z _
    injection z
  subst efd
  rw [hx] at e7
  exact e7
end Z

set_option Elab.async false
set_option linter.all false
set_option maxRecDepth 100000
set_option maxHeartbeats 0
namespace Z
open PySem PySem.Spec PyProof.Rows L2
/-! ## reckoning with codes -/
theorem eqv_int (a b : Int) : PyData.eqv (.int a) (.int b) = decide (a = b) := by
  by_cases h : a = b
  · subst h; simp [PyData.eqv]
  · simp [PyData.eqv, h]
theorem shaped_int (a : Int) : SeqAt.shaped (.int a) = true := rfl
theorem bind_some' {α β : Type} (a : α) (f : α → Option β) : (some a).bind f = f a := rfl
theorem lcGo_nil {tg : Tg} {own : List Nat} {fc : En → Ou Bool} {fe : En → Ou R} {acc : List PyData} {n : En} : lcGo tg own fc fe [] acc n = .ok acc n := rfl
theorem lcGo_cons {tg : Tg} {own : List Nat} {fc : En → Ou Bool} {fe : En → Ou R} {x : PyData} {xs acc : List PyData} {n : En} : lcGo tg own fc fe (x :: xs) acc n = match tg.put x (wipeN n own) with
    | none => .st
    | some n1 => (fc n1).bd fun b n2 => if b then (fe n2).bd fun r n3 => if decide (acc.length < sizeLine) then lcGo tg own fc fe xs (acc ++ [r.d]) n3 else .st
      else lcGo tg own fc fe xs acc n2 := rfl
/-- by an invariant over what is left, what is made, the slots -/
theorem lcGo_inv {tg : Tg} {own : List Nat} {fc : En → Ou Bool} {fe : En → Ou R} (I : List PyData → List PyData → En → Prop)
    (step : ∀ x xs acc n, I (x :: xs) acc n → ∃ n1 b n2, tg.put x (wipeN n own) = some n1 ∧ fc n1 = .ok b n2 ∧ (b = true → ∃ r n3, fe n2 = .ok r n3 ∧ acc.length < sizeLine ∧ I xs (acc ++ [r.d]) n3) ∧ (b = false → I xs acc n2)) :
    ∀ xs acc n, I xs acc n → ∃ acc' n', lcGo tg own fc fe xs acc n = .ok acc' n' ∧ I [] acc' n'
  | [], acc, n, h => ⟨acc, n, rfl, h⟩
  | x :: xs, acc, n, h => by
    obtain ⟨n1, b, n2, h1, h2, h3, h4⟩ := step x xs acc n h
    rw [lcGo_cons, h1]
    dsimp only
    rw [h2]
    dsimp only [Ou.bd]
    cases b with
    | true =>
      obtain ⟨r, n3, e1, e2, e3⟩ := h3 rfl
      rw [if_pos rfl, e1]
      dsimp only [Ou.bd]
      rw [if_pos (by simpa using e2)]
      exact lcGo_inv I step xs _ _ e3
    | false =>
      rw [if_neg Bool.false_ne_true]
      exact lcGo_inv I step xs _ _ (h4 rfl)
theorem forGo_nil {t : Tg} {b : En → Fl} {n : En} : forGo t b [] n = .nx n := rfl
theorem forGo_cons {t : Tg} {b : En → Fl} {x : PyData} {xs : List PyData} {n : En} : forGo t b (x :: xs) n = match t.put x n with
    | none => .st
    | some n1 => match b n1 with
      | .nx n2 => forGo t b xs n2
      | .ct n2 => forGo t b xs n2
      | .bk n2 => .nx n2
      | .rt r n2 => .rt r n2
      | .ex c d n2 => .ex c d n2
      | .st => .st := rfl
theorem forGo_inv {t : Tg} {b : En → Fl} (I : List PyData → En → Prop) (step : ∀ x xs n, I (x :: xs) n → ∃ n1 n2, t.put x n = some n1 ∧ b n1 = .nx n2 ∧ I xs n2) : ∀ xs n, I xs n → ∃ n', forGo t b xs n = .nx n' ∧ I [] n'
  | [], n, h => ⟨n, rfl, h⟩
  | x :: xs, n, h => by
    obtain ⟨n1, n2, h1, h2, h3⟩ := step x xs n h
    rw [forGo_cons, h1]
    dsimp only
    rw [h2]
    exact forGo_inv I step xs n2 h3
theorem opd_pk {i : Nat} {f : En → Ou R} {n : En} : opd (.pk i) f n = match n[i]? with
    | some (.fz _) => .ok (.sl i) n
    | some (.ow _) => .ok (.sl i) n
    | some (.pn _) => .ok (.sl i) n
    | _ => .st := rfl
theorem opd_io {i : Nat} {f : En → Ou R} {n : En} : opd (.io i) f n = match n[i]? with
    | some (.ow _) => .ok (.io i) n
    | some (.pn _) => .ok (.io i) n
    | _ => .st := rfl
theorem opd_var {i : Nat} {f : En → Ou R} {n : En} : opd (.var i) f n = (f n).bd fun r n1 => .ok (.dd r.d) n1 := rfl
theorem opd_cst {d : PyData} {f : En → Ou R} {n : En} : opd (.cst d) f n = (f n).bd fun r n1 => .ok (.dd r.d) n1 := rfl
theorem opd_glb {i : Nat} {f : En → Ou R} {n : En} : opd (.glb i) f n = (f n).bd fun r n1 => .ok (.dd r.d) n1 := rfl
theorem opd_op {o : Op} {a : E} {f : En → Ou R} {n : En} : opd (.op o a) f n = (f n).bd fun r n1 => .ok (.dd r.d) n1 := rfl
theorem opd_chn {o p : COp} {a b c : E} {f : En → Ou R} {n : En} : opd (.chn o p a b c) f n = (f n).bd fun r n1 => .ok (.dd r.d) n1 := rfl
theorem opd_slc {a b c : E} {f : En → Ou R} {n : En} : opd (.slc a b c) f n = (f n).bd fun r n1 => .ok (.dd r.d) n1 := rfl
theorem opd_and {a b : E} {f : En → Ou R} {n : En} : opd (.and a b) f n = (f n).bd fun r n1 => .ok (.dd r.d) n1 := rfl
theorem opd_or {a b : E} {f : En → Ou R} {n : En} : opd (.or a b) f n = (f n).bd fun r n1 => .ok (.dd r.d) n1 := rfl
theorem opd_not {a : E} {f : En → Ou R} {n : En} : opd (.not a) f n = (f n).bd fun r n1 => .ok (.dd r.d) n1 := rfl
theorem opd_ife {a b c : E} {f : En → Ou R} {n : En} : opd (.ife a b c) f n = (f n).bd fun r n1 => .ok (.dd r.d) n1 := rfl
theorem opd_call {i : Nat} {a : E} {f : En → Ou R} {n : En} : opd (.call i a) f n = (f n).bd fun r n1 => .ok (.dd r.d) n1 := rfl
theorem opd_lc {a b c : E} {t : Tg} {v : List Nat} {f : En → Ou R} {n : En} : opd (.lc a t b c v) f n = (f n).bd fun r n1 => .ok (.dd r.d) n1 := rfl
theorem opd_chn3 {o p q : COp} {a b c d : E} {f : En → Ou R} {n : En} : opd (.chn3 o p q a b c d) f n = (f n).bd fun r n1 => .ok (.dd r.d) n1 := rfl
theorem opd_lrg1 {a : E} {f : En → Ou R} {n : En} : opd (.lrg1 a) f n = (f n).bd fun r n1 => .ok (.dd r.d) n1 := rfl
theorem opd_lrg2 {a b : E} {f : En → Ou R} {n : En} : opd (.lrg2 a b) f n = (f n).bd fun r n1 => .ok (.dd r.d) n1 := rfl
theorem isTy_tt {xs : List PyData} : isTy .tuple (.tuple xs) = true := rfl
end Z

set_option Elab.async false
set_option linter.all false
set_option maxRecDepth 100000
set_option maxHeartbeats 4000000
namespace Z
open PySem PySem.Spec PyProof.Rows L2
/-! ## statements one by one -/
section
variable {T : Tb} {C : Nat → Option D} {s r : S} {n n1 : En} {f : Fl}
theorem sv_nx (h : sv T C s n = .nx n1) (g : sv T C r n1 = f) : sv T C (.cons s r) n = f := by
  show (match sv T C s n with
    | .nx n1 => sv T C r n1
    | .rt v n1 => .rt v n1
    | .bk n1 => .bk n1
    | .ct n1 => .ct n1
    | .ex c d n1 => .ex c d n1
    | .st => .st) = f
  rw [h]; exact g
theorem sv_rt {v : R} (h : sv T C s n = .rt v n1) : sv T C (.cons s r) n = .rt v n1 := by
  show (match sv T C s n with
    | .nx n1 => sv T C r n1
    | .rt v n1 => .rt v n1
    | .bk n1 => .bk n1
    | .ct n1 => .ct n1
    | .ex c d n1 => .ex c d n1
    | .st => .st) = _
  rw [h]
theorem sv_ex {c : Nat} {d : D} (h : sv T C s n = .ex c d n1) : sv T C (.cons s r) n = .ex c d n1 := by
  show (match sv T C s n with
    | .nx n1 => sv T C r n1
    | .rt v n1 => .rt v n1
    | .bk n1 => .bk n1
    | .ct n1 => .ct n1
    | .ex c d n1 => .ex c d n1
    | .st => .st) = _
  rw [h]
theorem sv_bk (h : sv T C s n = .bk n1) : sv T C (.cons s r) n = .bk n1 := by
  show (match sv T C s n with
    | .nx n1 => sv T C r n1
    | .rt v n1 => .rt v n1
    | .bk n1 => .bk n1
    | .ct n1 => .ct n1
    | .ex c d n1 => .ex c d n1
    | .st => .st) = _
  rw [h]
theorem sv_end : sv T C .nil n = .nx n := rfl
theorem def_rt {m : Nat} {b : S} {ss : List Sl} {v : R} (h : sv T C b (ss ++ List.replicate (m - ss.length) .un) = .rt v n1) : evDef T C m b ss = .ret v (finD ss n1) := by
  unfold evDef; rw [h]
theorem def_ex {m : Nat} {b : S} {ss : List Sl} {c : Nat} {d : D} (h : sv T C b (ss ++ List.replicate (m - ss.length) .un) = .ex c d n1) : evDef T C m b ss = .ex c d (finD ss n1) := by
  unfold evDef; rw [h]
theorem def_nx {m : Nat} {b : S} {ss : List Sl} (h : sv T C b (ss ++ List.replicate (m - ss.length) .un) = .nx n1) : evDef T C m b ss = .ret (.fr .none) (finD ss n1) := by
  unfold evDef; rw [h]
end
theorem sv_set {T : Tb} {C : Nat → Option D} {i : Nat} {a : E} {n n1 : En} {r : R} {t : Sl} (h : (ev T C a).e n = .ok r n1) (ht : n1[i]? = some t) (hp : isPn (some t) = false) : sv T C (.set (.nm i) a) n = .nx (n1.set i r.sl) := by
  show Fl.of ((ev T C a).e n) _ = _
  rw [h]
  dsimp only [Fl.of]
  have e : putR (.nm i) r n1 = some (n1.set i r.sl) := by
    dsimp only [putR]
    rw [ht]
    cases t <;> first | rfl | (cases hp; done)
  rw [e]
theorem sv_for {T : Tb} {C : Nat → Option D} {t : Tg} {it : E} {b : S} {n n1 : En} {xs : List D} {f : Fl} (h : (ev T C it).i n = .ok xs n1) (g : forGo t (sv T C b) xs n1 = f) : sv T C (.for_ t it b) n = f := by
  show Fl.of ((ev T C it).i n) (fun xs n1 => forGo t (sv T C b) xs n1) = f
  rw [h]
  exact g
theorem rng1_ok {T : Tb} {C : Nat → Option D} {a : E} {n n1 : En} {p : P} {i : Int} (ha : opd a (ev T C a).e n = .ok p n1) (hp : Z.rs n1 p = some (.int i)) (h0 : rngOk i = true) : (ev T C (.rng1 a)).i n = .ok (rangeD 0 i) n1 := by
  show zRng1 (opd a (ev T C a).e) n = _
  unfold zRng1
  rw [ha]
  dsimp only [Ou.bd]
  rw [hp]
  dsimp only
  rw [if_pos h0]
theorem rng2_ok {T : Tb} {C : Nat → Option D} {a b : E} {n n1 n2 : En} {p q : P} {i j : Int} (ha : opd a (ev T C a).e n = .ok p n1) (hb : opd b (ev T C b).e n1 = .ok q n2) (hp : Z.rs n2 p = some (.int i)) (hq : Z.rs n2 q = some (.int j)) (h0 : rngOk i = true) (h1 : rngOk j = true) :
    (ev T C (.rng2 a b)).i n = .ok (rangeD i j) n2 := by
  show zRng2 (opd a (ev T C a).e) (opd b (ev T C b).e) n = _
  unfold zRng2
  rw [ha]
  dsimp only [Ou.bd]
  rw [hb]
  dsimp only [Ou.bd]
  rw [hp, hq]
  dsimp only
  rw [if_pos (by rw [h0, h1]; rfl)]
theorem lrg1_ok {T : Tb} {C : Nat → Option D} {a : E} {n n1 : En} {p : P} {i : Int} (ha : opd a (ev T C a).e n = .ok p n1) (hp : Z.rs n1 p = some (.int i)) (h0 : rngOk i = true) (h1 : i.toNat ≤ 16777216) : (ev T C (.lrg1 a)).e n = .ok (.nw (.list (rangeD 0 i))) n1 := by
  show zLrg1 (opd a (ev T C a).e) n = _
  unfold zLrg1
  rw [ha]
  dsimp only [Ou.bd]
  rw [hp]
  dsimp only
  rw [if_pos (by rw [h0, Bool.true_and]; exact decide_eq_true h1)]
theorem lrg2_ok {T : Tb} {C : Nat → Option D} {a b : E} {n n1 n2 : En} {p q : P} {i j : Int} (ha : opd a (ev T C a).e n = .ok p n1) (hb : opd b (ev T C b).e n1 = .ok q n2) (hp : Z.rs n2 p = some (.int i)) (hq : Z.rs n2 q = some (.int j)) (h0 : rngOk i = true) (h1 : rngOk j = true) (h2 : (j - i).toNat ≤ 16777216) :
    (ev T C (.lrg2 a b)).e n = .ok (.nw (.list (rangeD i j))) n2 := by
  show zLrg2 (opd a (ev T C a).e) (opd b (ev T C b).e) n = _
  unfold zLrg2
  rw [ha]
  dsimp only [Ou.bd]
  rw [hb]
  dsimp only [Ou.bd]
  rw [hp, hq]
  dsimp only
  rw [if_pos (by rw [h0, h1, Bool.true_and, Bool.true_and]; exact decide_eq_true h2)]
/-! ## data that may be compared and shown -/
theorem ok_of (s : String) : PyData.strOk (Str.ofString s) = true := by
  rw [Str.ofString_eq_toList]
  unfold PyData.strOk
  rw [List.all_toArray]
  refine List.all_eq_true.mpr fun c hc => ?_
  obtain ⟨d, _, rfl⟩ := List.mem_map.mp hc
  refine decide_eq_true ?_
  have v := d.valid
  show d.val.toNat < 0x110000
  rcases v with v | v
  · exact Nat.lt_trans v (by decide)
  · exact v.2
theorem ok_app {x y : Str} (h : PyData.strOk x = true) (g : PyData.strOk y = true) : PyData.strOk (x ++ y) = true := by
  unfold PyData.strOk at *
  show (x.cps ++ y.cps).all _ = true
  rw [Array.all_append, h, g]; rfl
theorem ok_join {s : Str} (hs : PyData.strOk s = true) : ∀ {ts : List Str}, (∀ t ∈ ts, PyData.strOk t = true) → PyData.strOk (Str.join s ts) = true
  | [], _ => by unfold Str.join; decide +kernel
  | [x], h => h x List.mem_cons_self
  | x :: y :: r, h => ok_app (ok_app (h x List.mem_cons_self) hs) (ok_join hs fun t ht => h t (List.mem_cons_of_mem _ ht))
/-- data of a height and a width of its text -/
structure Gd (h w : Nat) (d : D) : Prop where
  lay : d.canLay0 = true
  dep : d.depth ≤ h
  sh : d.showable = true
  ok : PyData.strOk d.shown = true
  len : d.shown.length ≤ w
section
variable {h w h' w' : Nat} {d : D} {xs : List D}
theorem Gd.mono (g : Gd h w d) (a : h ≤ h') (b : w ≤ w') : Gd h' w' d := ⟨g.lay, Nat.le_trans g.dep a, g.sh, g.ok, Nat.le_trans g.len b⟩
theorem Gd.int {i : Int} (hi : i.natAbs < 10 ^ 40) : Gd 0 41 (.int i) := by
  refine ⟨rfl, Nat.zero_le _, ?_, ok_of _, ?_⟩
  · refine decide_eq_true ?_
    by_cases z : i.natAbs = 0
    · rw [z]; decide
    · have : i.natAbs.log2 < 134 := (Nat.log2_lt z).mpr (Nat.lt_of_lt_of_le hi (by decide))
      omega
  · show (Str.ofString (toString i)).length ≤ 41
    rw [PySem.ofString_length]
    exact int_text_length_le10 (by decide) hi
theorem Gd.none : Gd 0 4 .none := ⟨rfl, Nat.zero_le _, rfl, by decide +kernel, by decide +kernel⟩
theorem Gd.bool (b : Bool) : Gd 0 5 (.bool b) := by cases b <;> exact ⟨rfl, Nat.zero_le _, rfl, by decide +kernel, by decide +kernel⟩
theorem gd_all (g : ∀ x ∈ xs, Gd h w x) : PyData.canLayAll0 xs = true ∧ PyData.depthAll xs ≤ h ∧ PyData.showableAll xs = true ∧ (∀ t ∈ PyData.shownAll xs, PyData.strOk t = true ∧ t.length ≤ w) ∧ (PyData.shownAll xs).length = xs.length := by
  induction xs with
  | nil => exact ⟨rfl, Nat.zero_le _, rfl, fun t ht => (nomatch ht), rfl⟩
  | cons x xs ih =>
    obtain ⟨a, b, c, e, f⟩ := ih fun y hy => g y (List.mem_cons_of_mem _ hy)
    have gx := g x List.mem_cons_self
    refine ⟨?_, ?_, ?_, fun t ht => ?_, ?_⟩
    · simp only [PyData.canLayAll0, gx.lay, a, Bool.and_self]
    · simp only [PyData.depthAll]; have := gx.dep; omega
    · simp only [PyData.showableAll, gx.sh, c, Bool.and_self]
    · simp only [PyData.shownAll] at ht
      rcases List.mem_cons.mp ht with rfl | ht
      · exact ⟨gx.ok, gx.len⟩
      · exact e t ht
    · simp only [PyData.shownAll, List.length_cons, f]
theorem join_len {w : Nat} : ∀ {ts : List Str}, (∀ t ∈ ts, t.length ≤ w) → (Str.join ", " ts).length ≤ ts.length * (w + 2)
  | [], _ => Nat.zero_le _
  | [x], h => by
    have := h x List.mem_cons_self
    show x.length ≤ 1 * (w + 2)
    omega
  | x :: y :: r, h => by
    have ih := join_len (ts := y :: r) fun t ht => h t (List.mem_cons_of_mem _ ht)
    have := h x List.mem_cons_self
    show (x ++ ", " ++ Str.join ", " (y :: r)).length ≤ (r.length + 1 + 1) * (w + 2)
    have e2 : ((", " : String) : Str).length = 2 := rfl
    rw [strLen_append, strLen_append, e2]
    have e3 : (y :: r).length = r.length + 1 := rfl
    rw [e3] at ih
    have : (r.length + 1 + 1) * (w + 2) = (r.length + 1) * (w + 2) + (w + 2) := by rw [Nat.succ_mul]
    omega
theorem Gd.tup (g : ∀ x ∈ xs, Gd h w x) : Gd (h + 1) (3 + xs.length * (w + 2)) (.tuple xs) := by
  obtain ⟨a, b, c, e, f⟩ := gd_all g
  have j := join_len (ts := PyData.shownAll xs) fun t ht => (e t ht).2
  rw [f] at j
  refine ⟨by simp only [PyData.canLay0]; exact a, by simp only [PyData.depth]; omega, by simp only [PyData.showable]; exact c, ?_, ?_⟩
  · rw [PyData.shown_tuple]
    exact ok_app (ok_app (ok_of _) (ok_join (ok_of _) fun t ht => (e t ht).1)) (ok_of _)
  · rw [PyData.shown_tuple, strLen_append, strLen_append]
    have e1 : ((("(" : String) : Str)).length = 1 := rfl
    have e3 : (((if xs.length == 1 then ",)" else ")" : String) : Str)).length ≤ 2 := by split <;> decide
    omega
theorem Gd.lst (g : ∀ x ∈ xs, Gd h w x) : Gd (h + 1) (3 + xs.length * (w + 2)) (.list xs) := by
  obtain ⟨a, b, c, e, f⟩ := gd_all g
  have j := join_len (ts := PyData.shownAll xs) fun t ht => (e t ht).2
  rw [f] at j
  refine ⟨by simp only [PyData.canLay0]; exact a, by simp only [PyData.depth]; omega, by simp only [PyData.showable]; exact c, ?_, ?_⟩
  · rw [PyData.shown_list]
    exact ok_app (ok_app (ok_of _) (ok_join (ok_of _) fun t ht => (e t ht).1)) (ok_of _)
  · rw [PyData.shown_list, strLen_append, strLen_append]
    have e1 : ((("[" : String) : Str)).length = 1 := rfl
    have e3 : ((("]" : String) : Str)).length = 1 := rfl
    omega
theorem Gd.shaped (g : Gd h w d) (hh : h ≤ 64) : SeqAt.shaped d = true := by
  unfold SeqAt.shaped
  rw [g.lay, Bool.true_and]
  exact decide_eq_true (Nat.le_trans g.dep hh)
theorem Gd.refl (g : Gd h w d) : PyData.eqv d d = true := SeqAt.eqv_refl d g.lay
/-- what `a == a and repr(a) == repr(a)` wants -/
theorem Gd.same (g : Gd h w d) (hh : h ≤ 64) (hw : w ≤ sizeLine) : SeqAt.shaped d = true ∧ PyData.eqv d d = true ∧ d.showable = true ∧ fitL d.shown.length = true ∧ SeqAt.shaped (.str d.shown) = true ∧ PyData.eqv (.str d.shown) (.str d.shown) = true := by
  have s : SeqAt.shaped (.str d.shown) = true := by
    unfold SeqAt.shaped
    simp only [PyData.canLay0, g.ok, PyData.depth, Bool.true_and]
    rfl
  exact ⟨g.shaped hh, g.refl, g.sh, decide_eq_true (Nat.le_trans g.len hw), s, SeqAt.eqv_refl _ (SeqAt.canLay_of_shaped s)⟩
end
end Z

set_option Elab.async false
set_option linter.all false
set_option maxRecDepth 100000
set_option maxHeartbeats 4000000
namespace Z
open PySem PySem.Spec PyProof.Rows L2
/-! ## tests and calls, one by one -/
section
variable {T : Tb} {C : Nat → Option D} {n n1 n2 : En} {a b : E} {f : Fl}
theorem sv_ift {t : E} {x y : S} (h : (ev T C t).t n = .ok true n1) (g : sv T C x n1 = f) : sv T C (.ife t x y) n = f := by
  show Fl.of ((ev T C t).t n) (fun k n1 => if k then sv T C x n1 else sv T C y n1) = f
  rw [h]
  exact g
theorem sv_iff {t : E} {x y : S} (h : (ev T C t).t n = .ok false n1) (g : sv T C y n1 = f) : sv T C (.ife t x y) n = f := by
  show Fl.of ((ev T C t).t n) (fun k n1 => if k then sv T C x n1 else sv T C y n1) = f
  rw [h]
  exact g
theorem sv_ret {a : E} {r : R} (h : (ev T C a).e n = .ok r n1) : sv T C (.ret a) n = .rt r n1 := by
  show Fl.of ((ev T C a).e n) (fun r n1 => .rt r n1) = _
  rw [h]
theorem op_fz {i : Nat} {d : D} {g : En → Ou R} (h : n[i]? = some (.fz d)) : opd (.pk i) g n = .ok (.sl i) n := by
  dsimp only [opd]
  rw [h]
theorem rs_fz {i : Nat} {d : D} (h : n[i]? = some (.fz d)) : Z.rs n (.sl i) = some d := by
  show (n[i]?).bind slD = _
  rw [h]; rfl
theorem op_of {r : R} (ha : ∀ g m, opd a g m = (g m).bd fun r n1 => .ok (.dd r.d) n1) (h : (ev T C a).e n = .ok r n1) : opd a (ev T C a).e n = .ok (.dd r.d) n1 := by
  rw [ha, h]
theorem e_two {o : Op} {p q : P} {x y : D} {r : R} (hr : retains o = false) (ha : opd a (ev T C a).e n = .ok p n1) (hb : opd b (ev T C b).e n1 = .ok q n2) (hx : Z.rs n2 p = some x) (hy : Z.rs n2 q = some y) (h : opD o [x, y] = some r) : (ev T C (.op o (.cons a (.cons b .nil)))).e n = .ok r n2 := by
  show zOp o (ev T C (.cons a (.cons b .nil))).l n = _
  rw [zOp_two, ha]
  dsimp only [Ou.bd]
  rw [hb]
  dsimp only [Ou.bd]
  have e : opdl o n2 [p, q] = some [x, y] := by
    unfold opdl
    rw [hr, if_neg Bool.false_ne_true]
    dsimp only [rsl]
    rw [hx, hy]
    rfl
  rw [e]
  dsimp only
  rw [h]
  rfl
theorem e_one {o : Op} {p : P} {x : D} {r : R} (hr : retains o = false) (ha : opd a (ev T C a).e n = .ok p n1) (hx : Z.rs n1 p = some x) (h : opD o [x] = some r) : (ev T C (.op o (.cons a .nil))).e n = .ok r n1 := by
  show zOp o (ev T C (.cons a .nil)).l n = _
  rw [zOp_one, ha]
  dsimp only [Ou.bd]
  have e : opdl o n1 [p] = some [x] := by
    unfold opdl
    rw [hr, if_neg Bool.false_ne_true]
    dsimp only [rsl]
    rw [hx]
    rfl
  rw [e]
  dsimp only
  rw [h]
  rfl
theorem t_of {r : R} {k : Bool} {o : Op} {as : E} (h : (ev T C (.op o as)).e n = .ok r n1) (hk : truD r.d = some k) : (ev T C (.op o as)).t n = .ok k n1 := by
  show ((ev T C (.op o as)).e n).bd (fun r n1 => .of (truD r.d) n1) = _
  rw [h]
  dsimp only [Ou.bd]
  rw [hk]; rfl
theorem t_cmp {o : COp} {p q : P} {x y : D} {r : Bool} (ha : opd a (ev T C a).e n = .ok p n1) (hb : opd b (ev T C b).e n1 = .ok q n2) (hx : Z.rs n2 p = some x) (hy : Z.rs n2 q = some y) (h : cmpD o x y = some r) : (ev T C (.op (.cmp o) (.cons a (.cons b .nil)))).t n = .ok r n2 :=
  t_of (r := dbl r) (e_two rfl ha hb hx hy (by show (cmpD o x y).map dbl = _; rw [h]; rfl)) rfl
theorem e_cmp {o : COp} {p q : P} {x y : D} {r : Bool} (ha : opd a (ev T C a).e n = .ok p n1) (hb : opd b (ev T C b).e n1 = .ok q n2) (hx : Z.rs n2 p = some x) (hy : Z.rs n2 q = some y) (h : cmpD o x y = some r) : (ev T C (.op (.cmp o) (.cons a (.cons b .nil)))).e n = .ok (dbl r) n2 :=
  e_two rfl ha hb hx hy (by show (cmpD o x y).map dbl = _; rw [h]; rfl)
theorem e_and_f (ha : (ev T C a).e n = .ok (dbl false) n1) : (ev T C (.and a b)).e n = .ok (dbl false) n1 := by
  show zAnd (ev T C a).e (ev T C b).e n = _
  unfold zAnd
  rw [ha]; rfl
theorem e_and_t {r : R} (ha : (ev T C a).e n = .ok (dbl true) n1) (hb : (ev T C b).e n1 = .ok r n2) : (ev T C (.and a b)).e n = .ok r n2 := by
  show zAnd (ev T C a).e (ev T C b).e n = _
  unfold zAnd
  rw [ha]; exact hb
theorem e_or_t (ha : (ev T C a).e n = .ok (dbl true) n1) : (ev T C (.or a b)).e n = .ok (dbl true) n1 := by
  show zOr (ev T C a).e (ev T C b).e n = _
  unfold zOr
  rw [ha]; rfl
theorem e_or_f {r : R} (ha : (ev T C a).e n = .ok (dbl false) n1) (hb : (ev T C b).e n1 = .ok r n2) : (ev T C (.or a b)).e n = .ok r n2 := by
  show zOr (ev T C a).e (ev T C b).e n = _
  unfold zOr
  rw [ha]; exact hb
theorem t_and_f (ha : (ev T C a).t n = .ok false n1) : (ev T C (.and a b)).t n = .ok false n1 := by
  show ((ev T C a).t n).bd (fun k n1 => if k then (ev T C b).t n1 else .ok false n1) = _
  rw [ha]; rfl
theorem t_and_t {k : Bool} (ha : (ev T C a).t n = .ok true n1) (hb : (ev T C b).t n1 = .ok k n2) : (ev T C (.and a b)).t n = .ok k n2 := by
  show ((ev T C a).t n).bd (fun k n1 => if k then (ev T C b).t n1 else .ok false n1) = _
  rw [ha]; exact hb
theorem t_or_t (ha : (ev T C a).t n = .ok true n1) : (ev T C (.or a b)).t n = .ok true n1 := by
  show ((ev T C a).t n).bd (fun k n1 => if k then .ok true n1 else (ev T C b).t n1) = _
  rw [ha]; rfl
theorem t_or_f {k : Bool} (ha : (ev T C a).t n = .ok false n1) (hb : (ev T C b).t n1 = .ok k n2) : (ev T C (.or a b)).t n = .ok k n2 := by
  show ((ev T C a).t n).bd (fun k n1 => if k then .ok true n1 else (ev T C b).t n1) = _
  rw [ha]; exact hb
theorem t_notB {k : Bool} (ha : (ev T C a).t n = .ok k n1) : (ev T C (.not a)).t n = .ok (!k) n1 := by
  show ((ev T C a).t n).bd (fun k n1 => .ok (!k) n1) = _
  rw [ha]
theorem e_notB {k : Bool} (ha : (ev T C a).e n = .ok (dbl k) n1) : (ev T C (.not a)).e n = .ok (dbl (!k)) n1 := by
  show zNot (ev T C a).e n = _
  unfold zNot
  rw [ha]; rfl
/-- a text among others -/
def inL (l : List D) (op : Str) : Bool := l.any fun z => PyData.eqv z (.str op)
def isS (op s : Str) : Bool := PyData.eqv (.str op) (.str s)
theorem t_inG {i g : Nat} {op : Str} {l : List D} (hi : n[i]? = some (.fz (.str op))) (hC : C g = some (.tuple l)) (s1 : SeqAt.shaped (.str op) = true) (s2 : SeqAt.shaped (.tuple l) = true) : (ev T C (.op (.cmp .isin) (.cons (.pk i) (.cons (.glb g) .nil)))).t n = .ok (inL l op) n := by
  have hb : (ev T C (.glb g)).e n = .ok (.fr (.tuple l)) n := by
    show (match C g with
      | some d => Ou.ok (R.fr d) n
      | none => .st) = _
    rw [hC]
  refine t_cmp (op_fz hi) (op_of (fun _ _ => rfl) hb) (rs_fz hi) rfl ?_
  show (if _ then _ else _) = _
  rw [s1, s2]; rfl
theorem t_inD {i : Nat} {op : Str} {l : List D} {as : E} (hi : n[i]? = some (.fz (.str op))) (hl : (ev T C (.op .lst as)).e n = .ok (.nw (.list l)) n) (s1 : SeqAt.shaped (.str op) = true) (s2 : SeqAt.shaped (.list l) = true) : (ev T C (.op (.cmp .isin) (.cons (.pk i) (.cons (.op .lst as) .nil)))).t n = .ok (inL l op) n := by
  refine t_cmp (op_fz hi) (op_of (fun _ _ => rfl) hl) (rs_fz hi) rfl ?_
  show (if _ then _ else _) = _
  rw [s1, s2]; rfl
theorem t_eqS {i : Nat} {op s : Str} (hi : n[i]? = some (.fz (.str op))) (s1 : SeqAt.shaped (.str op) = true) (s2 : SeqAt.shaped (.str s) = true) : (ev T C (.op (.cmp .eq) (.cons (.pk i) (.cons (.cst (.str s)) .nil)))).t n = .ok (isS op s) n := by
  refine t_cmp (op_fz hi) (op_of (r := .fr (.str s)) (fun _ _ => rfl) rfl) (rs_fz hi) rfl ?_
  show (if _ then _ else _) = _
  have s2 : SeqAt.shaped (R.fr (.str s)).d = true := s2
  rw [s1, s2]; rfl
theorem t_neS {i : Nat} {op s : Str} (hi : n[i]? = some (.fz (.str op))) (s1 : SeqAt.shaped (.str op) = true) (s2 : SeqAt.shaped (.str s) = true) : (ev T C (.op (.cmp .ne) (.cons (.pk i) (.cons (.cst (.str s)) .nil)))).t n = .ok (!isS op s) n := by
  refine t_cmp (op_fz hi) (op_of (r := .fr (.str s)) (fun _ _ => rfl) rfl) (rs_fz hi) rfl ?_
  show (if _ then _ else _) = _
  have s2 : SeqAt.shaped (R.fr (.str s)).d = true := s2
  rw [s1, s2]; rfl
theorem e_eqS {i : Nat} {op s : Str} (hi : n[i]? = some (.fz (.str op))) (s1 : SeqAt.shaped (.str op) = true) (s2 : SeqAt.shaped (.str s) = true) : (ev T C (.op (.cmp .eq) (.cons (.pk i) (.cons (.cst (.str s)) .nil)))).e n = .ok (dbl (isS op s)) n := by
  refine e_cmp (op_fz hi) (op_of (r := .fr (.str s)) (fun _ _ => rfl) rfl) (rs_fz hi) rfl ?_
  show (if _ then _ else _) = _
  have s2 : SeqAt.shaped (R.fr (.str s)).d = true := s2
  rw [s1, s2]; rfl
/-- x[i], i a number written down -/
theorem e_at {i : Nat} {xs : List D} {j : Int} {d : D} (hi : n[i]? = some (.fz (.tuple xs))) (h : atI xs j = some d) : (ev T C (.op .idx (.cons (.pk i) (.cons (.cst (.int j)) .nil)))).e n = .ok (.fr d) n := by
  refine e_two rfl (op_fz hi) (op_of (r := .fr (.int j)) (fun _ _ => rfl) rfl) (rs_fz hi) rfl ?_
  show (atI xs j).map R.fr = _
  rw [h]; rfl
theorem atI0 (x : D) (r : List D) : atI (x :: r) 0 = some x := by simp [atI, ixN]
theorem e_len {i : Nat} {xs : List D} (hi : n[i]? = some (.fz (.tuple xs))) : (ev T C (.op .len (.cons (.pk i) .nil))).e n = .ok (.fr (.int xs.length)) n :=
  e_one rfl (op_fz hi) (rs_fz hi) rfl
theorem e_lenIs {i : Nat} {xs : List D} {j : Int} (hi : n[i]? = some (.fz (.tuple xs))) : (ev T C (.op (.cmp .eq) (.cons (.op .len (.cons (.pk i) .nil)) (.cons (.cst (.int j)) .nil)))).e n = .ok (dbl (decide ((xs.length : Int) = j))) n := by
  refine e_cmp (op_of (fun _ _ => rfl) (e_len hi)) (op_of (r := .fr (.int j)) (fun _ _ => rfl) rfl) rfl rfl ?_
  show (if SeqAt.shaped (.int xs.length) && SeqAt.shaped (.int j) then some (PyData.eqv (.int (xs.length : Int)) (.int j)) else none) = _
  rw [shaped_int, shaped_int, eqv_int]; rfl
theorem t_lenNe {i : Nat} {xs : List D} {j : Int} (hi : n[i]? = some (.fz (.tuple xs))) : (ev T C (.op (.cmp .ne) (.cons (.op .len (.cons (.pk i) .nil)) (.cons (.cst (.int j)) .nil)))).t n = .ok (!decide ((xs.length : Int) = j)) n := by
  refine t_cmp (op_of (fun _ _ => rfl) (e_len hi)) (op_of (r := .fr (.int j)) (fun _ _ => rfl) rfl) rfl rfl ?_
  show (if SeqAt.shaped (.int xs.length) && SeqAt.shaped (.int j) then some (!PyData.eqv (.int (xs.length : Int)) (.int j)) else none) = _
  rw [shaped_int, shaped_int, eqv_int]; rfl
theorem e_dec {i : Nat} {m j : Int} (hi : n[i]? = some (.fz (.int m))) : (ev T C (.op (.bin .sub) (.cons (.pk i) (.cons (.cst (.int j)) .nil)))).e n = .ok (.fr (.int (m - j))) n :=
  e_two rfl (op_fz hi) (op_of (r := .fr (.int j)) (fun _ _ => rfl) rfl) (rs_fz hi) rfl rfl
/-- a call by values -/
theorem e_call2 {g : Nat} {fm : Fm} {x y : D} {r : R} {ds : List D} (hT : T g = some (2, fm)) (ha : opd a (ev T C a).e n = .ok (.dd x) n1) (hb : opd b (ev T C b).e n1 = .ok (.dd y) n2) (h : fm [.fz x, .fz y] = .ret r ds) (hd : ds.length = 2) : (ev T C (.call g (.cons a (.cons b .nil)))).e n = .ok r n2 := by
  show zCall (T g) (ev T C (.cons a (.cons b .nil))).l n = _
  rw [hT]
  have e : (ev T C (.cons a (.cons b .nil))).l n = .ok [.dd x, .dd y] n2 := by
    show (opd a (ev T C a).e n).bd (fun p n1 => ((opd b (ev T C b).e n1).bd fun q n2 => (Ou.ok [] n2).bd fun ps n3 => .ok (q :: ps) n3).bd fun ps n2 => .ok (p :: ps) n2) = _
    rw [ha]
    dsimp only [Ou.bd]
    rw [hb]
  unfold zCall
  dsimp only
  rw [e]
  dsimp only [Ou.bd]
  rw [if_pos (show [P.dd x, P.dd y].length = 2 from rfl)]
  dsimp only [argsS, argS, Option.bind, Option.map]
  rw [if_pos (show (ioIx [P.dd x, P.dd y]).Nodup from List.nodup_nil), h]
  dsimp only [afterCall]
  match ds, hd with
  | [u, w], _ => rfl
theorem e_call1 {g : Nat} {fm : Fm} {x : D} {r : R} {ds : List D} (hT : T g = some (1, fm)) (ha : opd a (ev T C a).e n = .ok (.dd x) n1) (h : fm [.fz x] = .ret r ds) (hd : ds.length = 1) : (ev T C (.call g (.cons a .nil))).e n = .ok r n1 := by
  show zCall (T g) (ev T C (.cons a .nil)).l n = _
  rw [hT]
  have e : (ev T C (.cons a .nil)).l n = .ok [.dd x] n1 := by
    show (opd a (ev T C a).e n).bd (fun p n1 => (Ou.ok [] n1).bd fun ps n3 => .ok (p :: ps) n3) = _
    rw [ha]
  unfold zCall
  dsimp only
  rw [e]
  dsimp only [Ou.bd]
  rw [if_pos (show [P.dd x].length = 1 from rfl)]
  dsimp only [argsS, argS, Option.bind, Option.map]
  rw [if_pos (show (ioIx [P.dd x]).Nodup from List.nodup_nil), h]
  dsimp only [afterCall]
  match ds, hd with
  | [u], _ => rfl
end
/-! ## comprehensions -/
/-- a comprehension that only looks -/
theorem lcGo_look {tg : Tg} {own : List Nat} {fc : En → Ou Bool} {fe : En → Ou R} {n0 : En} {p : D → Bool} {f : D → PyData} : ∀ (xs acc : List D) (n : En), wipeN n own = n0 →
    (∀ x ∈ xs, ∃ n1, tg.put x n0 = some n1 ∧ wipeN n1 own = n0 ∧ fc n1 = .ok (p x) n1 ∧ (p x = true → ∃ r, fe n1 = .ok r n1 ∧ r.d = f x)) → acc.length + xs.length ≤ sizeLine →
    ∃ n', wipeN n' own = n0 ∧ lcGo tg own fc fe xs acc n = .ok (acc ++ (xs.filter p).map f) n'
  | [], acc, n, hn, _, _ => ⟨n, hn, by rw [lcGo_nil]; simp⟩
  | x :: xs, acc, n, hn, h, hl => by
    obtain ⟨n1, h1, h2, h3, h4⟩ := h x List.mem_cons_self
    rw [lcGo_cons, hn, h1]
    dsimp only
    rw [h3]
    dsimp only [Ou.bd]
    have hl' : acc.length + (xs.length + 1) ≤ sizeLine := by simpa using hl
    cases hp : p x with
    | true =>
      obtain ⟨r, e1, e2⟩ := h4 hp
      rw [if_pos rfl, e1]
      dsimp only [Ou.bd]
      rw [if_pos (by simp; omega)]
      obtain ⟨n', a, b⟩ := lcGo_look xs (acc ++ [r.d]) n1 h2 (fun y hy => h y (List.mem_cons_of_mem _ hy)) (by simp; omega)
      exact ⟨n', a, by rw [b, e2]; simp [hp]⟩
    | false =>
      rw [if_neg Bool.false_ne_true]
      obtain ⟨n', a, b⟩ := lcGo_look xs acc n1 h2 (fun y hy => h y (List.mem_cons_of_mem _ hy)) (by omega)
      exact ⟨n', a, by rw [b]; simp [hp]⟩
theorem zLc_look {tg : Tg} {own : List Nat} {fi : En → Ou (List D)} {fc : En → Ou Bool} {fe : En → Ou R} {n n1 n0 : En} {xs : List D} {p : D → Bool} {f : D → PyData} (hi : fi n = .ok xs n1) (hp : noPn n1 own = true) (h0 : wipeN n1 own = n0) (h00 : wipeN n0 own = n0)
    (h : ∀ x ∈ xs, ∃ n1, tg.put x n0 = some n1 ∧ wipeN n1 own = n0 ∧ fc n1 = .ok (p x) n1 ∧ (p x = true → ∃ r, fe n1 = .ok r n1 ∧ r.d = f x)) (hl : xs.length ≤ sizeLine) :
    zLc tg own fi fc fe n = .ok (.nw (.list ((xs.filter p).map f))) n0 := by
  unfold zLc
  rw [hi]
  dsimp only [Ou.bd]
  rw [if_pos hp, h0]
  obtain ⟨n', a, b⟩ := lcGo_look (acc := []) xs n0 h00 h (by simpa using hl)
  rw [b]
  dsimp only
  rw [a]
  simp
theorem ft (xs : List D) : xs.filter (fun _ => true) = xs := List.filter_eq_self.mpr fun _ _ => rfl
theorem boolsD_map (f : D → Bool) : ∀ xs : List D, boolsD (xs.map fun x => .bool (f x)) = some (xs.map f)
  | [] => rfl
  | x :: xs => by
    show (boolsD (xs.map fun x => .bool (f x))).map (f x :: ·) = _
    rw [boolsD_map f xs]; rfl
theorem all_id (f : D → Bool) (xs : List D) : (xs.map f).all id = xs.all f := by simp [Function.comp_def]
def unfz (s : Sl) : Prop := s = .un ∨ ∃ y, s = .fz y
theorem np_unfz {s : Sl} (h : unfz s) : isPn (some s) = false := by rcases h with rfl | ⟨y, rfl⟩ <;> rfl
theorem setAll_cons {n : En} {i : Nat} {is : List Nat} {d : D} {ds : List D} {t : Sl} (h : n[i]? = some t) (hp : isPn (some t) = false) : setAll n (i :: is) (d :: ds) = setAll (n.set i (.fz d)) is ds := by
  show (match n[i]? with
    | some (.pn _) => none
    | some _ => setAll (n.set i (.fz d)) is ds
    | none => none) = _
  rw [h]
  cases t <;> first | rfl | (cases hp; done)
theorem sv_setT {T : Tb} {C : Nat → Option D} {is : List Nat} {a : E} {n n1 n2 : En} {r : R} {ds : List D} (h : (ev T C a).e n = .ok r n1) (hr : r.d = .tuple ds) (hs : setAll n1 is ds = some n2) : sv T C (.set (.tp is) a) n = .nx n2 := by
  show Fl.of ((ev T C a).e n) _ = _
  rw [h]
  dsimp only [Fl.of]
  have e : putR (.tp is) r n1 = some n2 := by
    show (Tg.tp is).put r.d n1 = _
    rw [hr]; exact hs
  rw [e]
theorem frl_dd : ∀ ds : List D, frl (ds.map P.dd) = some ds
  | [] => rfl
  | d :: ds => by
    show (frl (ds.map P.dd)).map (d :: ·) = _
    rw [frl_dd ds]; rfl
theorem e_lst {T : Tb} {C : Nat → Option D} {as : E} {n n1 : En} {ds : List D} (h : (ev T C as).l n = .ok (ds.map P.dd) n1) (hz : ds.length ≤ sizeLine) : (ev T C (.op .lst as)).e n = .ok (.nw (.list ds)) n1 := by
  show zOp .lst (ev T C as).l n = _
  unfold zOp
  rw [h]
  dsimp only [Ou.bd]
  have e : opdl .lst n1 (ds.map P.dd) = some ds := frl_dd ds
  rw [e]
  show Ou.of (if fitL ds.length then some (R.nw (.list ds)) else none) n1 = _
  rw [show fitL ds.length = true from decide_eq_true hz]
  rfl
theorem e_tup {T : Tb} {C : Nat → Option D} {as : E} {n n1 : En} {ds : List D} (h : (ev T C as).l n = .ok (ds.map P.dd) n1) (hz : ds.length ≤ sizeLine) : (ev T C (.op .tup as)).e n = .ok (.fr (.tuple ds)) n1 := by
  show zOp .tup (ev T C as).l n = _
  unfold zOp
  rw [h]
  dsimp only [Ou.bd]
  have e : opdl .tup n1 (ds.map P.dd) = some ds := frl_dd ds
  rw [e]
  show Ou.of (if fitL ds.length then some (R.fr (.tuple ds)) else none) n1 = _
  rw [show fitL ds.length = true from decide_eq_true hz]
  rfl
theorem l_nil {T : Tb} {C : Nat → Option D} {n : En} : (ev T C .nil).l n = .ok (([] : List D).map P.dd) n := rfl
theorem l_cons {T : Tb} {C : Nat → Option D} {a as : E} {n n1 n2 : En} {d : D} {ds : List D} (h : opd a (ev T C a).e n = .ok (.dd d) n1) (g : (ev T C as).l n1 = .ok (ds.map P.dd) n2) : (ev T C (.cons a as)).l n = .ok ((d :: ds).map P.dd) n2 := by
  show (opd a (ev T C a).e n).bd (fun p n1 => ((ev T C as).l n1).bd fun ps n2 => .ok (p :: ps) n2) = _
  rw [h]
  dsimp only [Ou.bd]
  rw [g]
  rfl
/-- x = [..] where the list is new -/
theorem sv_ext {T : Tb} {C : Nat → Option D} {i : Nat} {a : E} {n n1 : En} {r : R} {ds es : List D} (h0 : ownAt n i ≠ none) (h : (ev T C a).e n = .ok r n1) (hr : r.d = .list es) (hi : n1[i]? = some (.ow (.list ds))) (hz : ds.length + es.length ≤ sizeLine) : sv T C (.ext i a) n = .nx (n1.set i (.ow (.list (ds ++ es)))) := by
  show (match ownAt n i with
    | some _ => Fl.of ((ev T C a).e n) fun r n1 => match ownAt n1 i, r.d with
      | some (ds, k), .list es => if decide (ds.length + es.length ≤ sizeLine) then .nx (n1.set i (k (ds ++ es))) else .st
      | _, _ => .st
    | none => .st) = _
  cases q : ownAt n i with
  | none => exact absurd q h0
  | some w =>
    dsimp only
    rw [h]
    dsimp only [Fl.of]
    have e : ownAt n1 i = some (ds, fun es => .ow (.list es)) := by
      unfold ownAt
      rw [hi]
    rw [e, hr]
    dsimp only
    rw [if_pos (decide_eq_true hz)]
end Z

set_option Elab.async false
set_option linter.all false
set_option maxRecDepth 100000
set_option maxHeartbeats 0
namespace Z
open PySem PySem.Spec PyProof.Rows L2
def clsFn (s : Stmt) : Stmt := match s with
  | .ClassDef _ _ _ body _ _ _ _ _ _ _ => (match body with
    | [f] => f
    | _ :: f :: _ => f
    | [] => s)
  | _ => s
def mkErr (id : Nat) (name : Str) (s : Stmt) : ErrD :=
  let f := clsFn s
  let ps : Pos × Pos := match (defArgs f).args with
    | [a, b] => (a.pos, b.pos)
    | _ => (⟨0, 0, 0, 0⟩, ⟨0, 0, 0, 0⟩)
  let w : Str × Nat × List Pos := match defBody f with
    | [.Expr (.Call (.Attribute (.Call (.Name _ q0) _ _ q1) _ q2) [.JoinedStr [.Constant (.str msg) k q3, .FormattedValue (.Name _ q4) _ _ q5] q6] _ q7) q8, .Assign [.Attribute (.Name _ q9) _ q10] (.Name _ q11) q12] =>
      (msg, k, [q0, q1, q2, q3, q4, q5, q6, q7, q8, q9, q10, q11, q12])
    | _ => (⟨#[]⟩, 0, [])
  ⟨id, name, w.1, w.2.1, w.2.2, ps.1, ps.2, defScope f, name ++ ".__init__"⟩
abbrev Pg : PySem.Program := PySem.Challenge.pw_reelhouse_k05_rules_of_any_value
def top (i : Nat) : Stmt := Pg.main.body.getD i (.Pass ⟨0, 0, 0, 0⟩)
def c_is_integer : DefC := ⟨"is_integer", 1, ["value"], [], [],
  (.cons (.ret (.and (.op (.isi .int) (.cons (.pk 0) .nil)) (.not (.op (.isi .bool) (.cons (.pk 0) .nil)))))
  .nil)⟩
abbrev d_is_integer : He.DefD := ⟨("is_integer", none), "is_integer", "is_integer", defArgs (top 6), defBody (top 6), defScope (top 6), [], []⟩
def c_is_number : DefC := ⟨"is_number", 2, ["value", "depth", "op"], [0, 1, 2], [("FACTS", (.tuple [(.str "buffer"), (.str "piece"), (.str "last"), (.str "units"), (.str "rates")])), ("PAIRS", (.tuple [(.str "add"), (.str "sub"), (.str "mul"), (.str "least"), (.str "most")]))],
  (.cons (.ife (.or (.op (.cmp .lt) (.cons (.pk 1) (.cons (.cst (.int 1)) .nil))) (.or (.not (.op (.isi .tuple) (.cons (.pk 0) .nil))) (.or (.not (.pk 0)) (.not (.op (.isi .str) (.cons (.op .idx (.cons (.pk 0) (.cons (.cst (.int 0)) .nil))) .nil))))))
   (.cons (.ret (.cst (.bool false)))
    .nil)
   .nil)
  (.cons (.set (.nm 2) (.op .idx (.cons (.pk 0) (.cons (.cst (.int 0)) .nil))))
  (.cons (.ife (.op (.cmp .isin) (.cons (.pk 2) (.cons (.glb 0) .nil)))
   (.cons (.ret (.op (.cmp .eq) (.cons (.op .len (.cons (.pk 0) .nil)) (.cons (.cst (.int 1)) .nil))))
    .nil)
   .nil)
  (.cons (.ife (.op (.cmp .eq) (.cons (.pk 2) (.cons (.cst (.str "number")) .nil)))
   (.cons (.ret (.and (.op (.cmp .eq) (.cons (.op .len (.cons (.pk 0) .nil)) (.cons (.cst (.int 2)) .nil))) (.call 0 (.cons (.op .idx (.cons (.pk 0) (.cons (.cst (.int 1)) .nil))) .nil))))
    .nil)
   .nil)
  (.cons (.ife (.op (.cmp .isin) (.cons (.pk 2) (.cons (.glb 1) .nil)))
   (.cons (.ret (.and (.op (.cmp .eq) (.cons (.op .len (.cons (.pk 0) .nil)) (.cons (.cst (.int 3)) .nil))) (.and (.call 1 (.cons (.op .idx (.cons (.pk 0) (.cons (.cst (.int 1)) .nil))) (.cons (.op (.bin .sub) (.cons (.pk 1) (.cons (.cst (.int 1)) .nil))) .nil))) (.call 1 (.cons (.op .idx (.cons (.pk 0) (.cons (.cst (.int 2)) .nil))) (.cons (.op (.bin .sub) (.cons (.pk 1) (.cons (.cst (.int 1)) .nil))) .nil))))))
    .nil)
   .nil)
  (.cons (.ife (.op (.cmp .eq) (.cons (.pk 2) (.cons (.cst (.str "part")) .nil)))
   (.cons (.ret (.and (.op (.cmp .eq) (.cons (.op .len (.cons (.pk 0) .nil)) (.cons (.cst (.int 3)) .nil))) (.and (.call 1 (.cons (.op .idx (.cons (.pk 0) (.cons (.cst (.int 1)) .nil))) (.cons (.op (.bin .sub) (.cons (.pk 1) (.cons (.cst (.int 1)) .nil))) .nil))) (.call 0 (.cons (.op .idx (.cons (.pk 0) (.cons (.cst (.int 2)) .nil))) .nil)))))
    .nil)
   .nil)
  (.cons (.ife (.or (.op (.cmp .ne) (.cons (.pk 2) (.cons (.cst (.str "cond")) .nil))) (.or (.op (.cmp .ne) (.cons (.op .len (.cons (.pk 0) .nil)) (.cons (.cst (.int 4)) .nil))) (.not (.call 2 (.cons (.op .idx (.cons (.pk 0) (.cons (.cst (.int 1)) .nil))) (.cons (.op (.bin .sub) (.cons (.pk 1) (.cons (.cst (.int 1)) .nil))) .nil))))))
   (.cons (.ret (.cst (.bool false)))
    .nil)
   .nil)
  (.cons (.ret (.and (.call 1 (.cons (.op .idx (.cons (.pk 0) (.cons (.cst (.int 2)) .nil))) (.cons (.op (.bin .sub) (.cons (.pk 1) (.cons (.cst (.int 1)) .nil))) .nil))) (.call 1 (.cons (.op .idx (.cons (.pk 0) (.cons (.cst (.int 3)) .nil))) (.cons (.op (.bin .sub) (.cons (.pk 1) (.cons (.cst (.int 1)) .nil))) .nil)))))
  .nil))))))))⟩
abbrev d_is_number : He.DefD := ⟨("is_number", none), "is_number", "is_number", defArgs (top 16), defBody (top 16), defScope (top 16), [], []⟩
def c_is_test : DefC := ⟨"is_test", 2, ["value", "depth", "op"], [1, 2], [("TESTS", (.tuple [(.str "less"), (.str "equal")])), ("JOINS", (.tuple [(.str "both"), (.str "either")]))],
  (.cons (.ife (.or (.op (.cmp .lt) (.cons (.pk 1) (.cons (.cst (.int 1)) .nil))) (.or (.not (.op (.isi .tuple) (.cons (.pk 0) .nil))) (.or (.not (.pk 0)) (.not (.op (.isi .str) (.cons (.op .idx (.cons (.pk 0) (.cons (.cst (.int 0)) .nil))) .nil))))))
   (.cons (.ret (.cst (.bool false)))
    .nil)
   .nil)
  (.cons (.set (.nm 2) (.op .idx (.cons (.pk 0) (.cons (.cst (.int 0)) .nil))))
  (.cons (.ife (.op (.cmp .isin) (.cons (.pk 2) (.cons (.glb 0) .nil)))
   (.cons (.ret (.and (.op (.cmp .eq) (.cons (.op .len (.cons (.pk 0) .nil)) (.cons (.cst (.int 3)) .nil))) (.and (.call 0 (.cons (.op .idx (.cons (.pk 0) (.cons (.cst (.int 1)) .nil))) (.cons (.op (.bin .sub) (.cons (.pk 1) (.cons (.cst (.int 1)) .nil))) .nil))) (.call 0 (.cons (.op .idx (.cons (.pk 0) (.cons (.cst (.int 2)) .nil))) (.cons (.op (.bin .sub) (.cons (.pk 1) (.cons (.cst (.int 1)) .nil))) .nil))))))
    .nil)
   .nil)
  (.cons (.ife (.op (.cmp .isin) (.cons (.pk 2) (.cons (.glb 1) .nil)))
   (.cons (.ret (.and (.op (.cmp .eq) (.cons (.op .len (.cons (.pk 0) .nil)) (.cons (.cst (.int 3)) .nil))) (.and (.call 1 (.cons (.op .idx (.cons (.pk 0) (.cons (.cst (.int 1)) .nil))) (.cons (.op (.bin .sub) (.cons (.pk 1) (.cons (.cst (.int 1)) .nil))) .nil))) (.call 1 (.cons (.op .idx (.cons (.pk 0) (.cons (.cst (.int 2)) .nil))) (.cons (.op (.bin .sub) (.cons (.pk 1) (.cons (.cst (.int 1)) .nil))) .nil))))))
    .nil)
   .nil)
  (.cons (.ret (.and (.op (.cmp .eq) (.cons (.pk 2) (.cons (.cst (.str "no")) .nil))) (.and (.op (.cmp .eq) (.cons (.op .len (.cons (.pk 0) .nil)) (.cons (.cst (.int 2)) .nil))) (.call 1 (.cons (.op .idx (.cons (.pk 0) (.cons (.cst (.int 1)) .nil))) (.cons (.op (.bin .sub) (.cons (.pk 1) (.cons (.cst (.int 1)) .nil))) .nil))))))
  .nil)))))⟩
abbrev d_is_test : He.DefD := ⟨("is_test", none), "is_test", "is_test", defArgs (top 17), defBody (top 17), defScope (top 17), [], []⟩
def l_inner_0 : E := (.lc (.var 1) (.nm 1) (.op (.slc true false) (.cons (.pk 0) (.cons (.cst (.int 1)) .nil))) (.op (.isi .tuple) (.cons (.pk 1) .nil)) [1])
def c_inner : DefC := ⟨"inner", 1, ["part", "one"], [], [],
  (.cons (.ife (.op (.cmp .eq) (.cons (.op .idx (.cons (.pk 0) (.cons (.cst (.int 0)) .nil))) (.cons (.cst (.str "part")) .nil)))
   (.cons (.ret (.op .lst (.cons (.op .idx (.cons (.pk 0) (.cons (.cst (.int 1)) .nil))) .nil)))
    .nil)
   .nil)
  (.cons (.ret l_inner_0)
  .nil))⟩
abbrev d_inner : He.DefD := ⟨("inner", none), "inner", "inner", defArgs (top 18), defBody (top 18), defScope (top 18), [], []⟩
def b_parts_of_0 : S :=
  (.cons (.ext 1 (.call 1 (.cons (.var 2) .nil)))
  .nil)
def c_parts_of : DefC := ⟨"parts_of", 1, ["rule", "found", "part"], [3, 4], [],
  (.cons (.set (.nm 1) (.op .lst (.cons (.var 0) .nil)))
  (.cons (.for_ (.nm 2) (.call 0 (.cons (.var 0) .nil)) b_parts_of_0)
  (.cons (.ret (.var 1))
  .nil)))⟩
abbrev d_parts_of : He.DefD := ⟨("parts_of", none), "parts_of", "parts_of", defArgs (top 19), defBody (top 19), defScope (top 19), [], []⟩
def b__law_start_0 : S :=
  (.cons (.set (.nm 1) (.op (.bin .add) (.cons (.op (.bin .mod) (.cons (.op .int1 (.cons (.op (.bin .add) (.cons (.op (.bin .mul) (.cons (.pk 1) (.cons (.cst (.int 48271)) .nil))) (.cons (.pk 2) .nil))) .nil)) (.cons (.cst (.int 2147483629)) .nil))) (.cons (.cst (.int 1)) .nil))))
  .nil)
def c__law_start : DefC := ⟨"_law_start", 1, ["script", "seed", "cell"], [], [],
  (.cons (.set (.nm 1) (.cst (.int 7)))
  (.cons (.for_ (.nm 2) (.var 0) b__law_start_0)
  (.cons (.ret (.op .lst (.cons (.op .lstOf (.cons (.pk 0) .nil)) (.cons (.cst (.int 0)) (.cons (.cst (.int 0)) (.cons (.var 1) .nil))))))
  .nil)))⟩
abbrev d__law_start : He.DefD := ⟨("_law_start", none), "_law_start", "_law_start", defArgs (top 35), defBody (top 35), defScope (top 35), [], []⟩
def c__law_draw : DefC := ⟨"_law_draw", 2, ["state", "many", "value"], [], [],
  (.cons (.ife (.and (.op (.cmp .eq) (.cons (.op .idx (.cons (.pk 0) (.cons (.cst (.int 1)) .nil))) (.cons (.cst (.int 0)) .nil))) (.op (.cmp .ge) (.cons (.op .idx (.cons (.pk 0) (.cons (.cst (.int 2)) .nil))) (.cons (.op .len (.cons (.op .idx (.cons (.pk 0) (.cons (.cst (.int 0)) .nil))) .nil)) .nil))))
   (.cons (.setI 0 (.cst (.int 3)) (.op (.bin .mod) (.cons (.op .int1 (.cons (.op (.bin .add) (.cons (.op (.bin .mul) (.cons (.op .idx (.cons (.pk 0) (.cons (.cst (.int 3)) .nil))) (.cons (.cst (.int 48271)) .nil))) (.cons (.cst (.int 69621)) .nil))) .nil)) (.cons (.cst (.int 2147483629)) .nil))))
    (.cons (.ret (.op (.bin .mod) (.cons (.op .int1 (.cons (.op (.bin .fdiv) (.cons (.op .idx (.cons (.pk 0) (.cons (.cst (.int 3)) .nil))) (.cons (.cst (.int 13)) .nil))) .nil)) (.cons (.pk 1) .nil))))
    .nil))
   .nil)
  (.cons (.ife (.op (.cmp .eq) (.cons (.op .idx (.cons (.pk 0) (.cons (.cst (.int 1)) .nil))) (.cons (.cst (.int 0)) .nil)))
   (.cons (.setI 0 (.cst (.int 1)) (.op .abs (.cons (.op .idx (.cons (.op .idx (.cons (.pk 0) (.cons (.cst (.int 0)) .nil))) (.cons (.op .idx (.cons (.pk 0) (.cons (.cst (.int 2)) .nil))) .nil))) .nil)))
    (.cons (.setI 0 (.cst (.int 2)) (.op (.bin .add) (.cons (.op .idx (.cons (.pk 0) (.cons (.cst (.int 2)) .nil))) (.cons (.cst (.int 1)) .nil))))
    .nil))
   .nil)
  (.cons (.set (.nm 2) (.op (.bin .mod) (.cons (.op .int1 (.cons (.op .idx (.cons (.pk 0) (.cons (.cst (.int 1)) .nil))) .nil)) (.cons (.pk 1) .nil))))
  (.cons (.setI 0 (.cst (.int 1)) (.op (.bin .fdiv) (.cons (.op .idx (.cons (.pk 0) (.cons (.cst (.int 1)) .nil))) (.cons (.pk 1) .nil))))
  (.cons (.ret (.var 2))
  .nil)))))⟩
abbrev d__law_draw : He.DefD := ⟨("_law_draw", none), "_law_draw", "_law_draw", defArgs (top 36), defBody (top 36), defScope (top 36), [], []⟩
def c__law_pick : DefC := ⟨"_law_pick", 2, ["state", "some"], [6], [],
  (.cons (.ret (.op .idx (.cons (.pk 1) (.cons (.call 0 (.cons (.io 0) (.cons (.op .len (.cons (.pk 1) .nil)) .nil))) .nil))))
  .nil)⟩
abbrev d__law_pick : He.DefD := ⟨("_law_pick", none), "_law_pick", "_law_pick", defArgs (top 37), defBody (top 37), defScope (top 37), [], []⟩
def c__law_same : DefC := ⟨"_law_same", 2, ["actual", "due"], [], [],
  (.cons (.ret (.and (.op (.cmp .eq) (.cons (.pk 0) (.cons (.pk 1) .nil))) (.op (.cmp .eq) (.cons (.op .repr (.cons (.pk 0) .nil)) (.cons (.op .repr (.cons (.pk 1) .nil)) .nil)))))
  .nil)⟩
abbrev d__law_same : He.DefD := ⟨("_law_same", none), "_law_same", "_law_same", defArgs (top 38), defBody (top 38), defScope (top 38), [], []⟩
def c_within_limits : DefC := ⟨"within_limits", 1, ["part"], [], [("MAX_NUMBER", (.int 1000))],
  (.cons (.ife (.op (.cmp .eq) (.cons (.op .idx (.cons (.pk 0) (.cons (.cst (.int 0)) .nil))) (.cons (.cst (.str "number")) .nil)))
   (.cons (.ret (.chn .le .le (.cst (.int 0)) (.op .idx (.cons (.pk 0) (.cons (.cst (.int 1)) .nil))) (.glb 0)))
    .nil)
   .nil)
  (.cons (.ret (.or (.op (.cmp .ne) (.cons (.op .idx (.cons (.pk 0) (.cons (.cst (.int 0)) .nil))) (.cons (.cst (.str "part")) .nil))) (.chn .le .le (.cst (.int 1)) (.op .idx (.cons (.pk 0) (.cons (.cst (.int 2)) .nil))) (.glb 0))))
  .nil))⟩
abbrev d_within_limits : He.DefD := ⟨("within_limits", none), "within_limits", "within_limits", defArgs (top 20), defBody (top 20), defScope (top 20), [], []⟩
def c__law_odd : DefC := ⟨"_law_odd", 1, ["state", "some"], [7], [],
  (.cons (.set (.nm 1) (.op .lst (.cons (.cst .none) (.cons (.cst (.bool true)) (.cons (.cst (.bool false)) (.cons (.op .neg (.cons (.cst (.int 1)) .nil)) (.cons (.cst (.int 0)) (.cons (.cst (.int 1)) (.cons (.cst (.int 2)) (.cons (.cst (.int 8)) (.cons (.cst (.int 9)) (.cons (.cst (.int 39)) (.cons (.cst (.int 40)) (.cons (.cst (.int 41)) (.cons (.cst (.int 60)) (.cons (.cst (.int 61)) (.cons (.cst (.int 99)) (.cons (.cst (.int 100)) (.cons (.op (.bin .pow) (.cons (.cst (.int 10)) (.cons (.cst (.int 30)) .nil))) (.cons (.cst (.str "")) (.cons (.cst (.str "a")) (.cons (.cst (.str "form")) (.cons (.op .tup .nil) (.cons (.op .tup (.cons (.cst (.int 1)) .nil)) (.cons (.op .tup (.cons (.cst (.int 0)) (.cons (.op .tup (.cons (.cst (.int 1)) .nil)) .nil))) (.cons (.op .tup (.cons (.op .tup (.cons (.cst (.int 1)) .nil)) .nil)) (.cons (.op .neg (.cons (.cst (.int 2)) .nil)) .nil)))))))))))))))))))))))))))
  (.cons (.ret (.call 0 (.cons (.io 0) (.cons (.var 1) .nil))))
  .nil))⟩
abbrev d__law_odd : He.DefD := ⟨("_law_odd", none), "_law_odd", "_law_odd", defArgs (top 41), defBody (top 41), defScope (top 41), [], []⟩
def c__law_spoilt : DefC := ⟨"_law_spoilt", 2, ["state", "value", "at", "some"], [6, 10, 7, 11], [],
  (.cons (.ife (.or (.not (.op (.isi .tuple) (.cons (.pk 1) .nil))) (.or (.not (.pk 1)) (.op (.cmp .eq) (.cons (.call 0 (.cons (.io 0) (.cons (.cst (.int 5)) .nil))) (.cons (.cst (.int 0)) .nil)))))
   (.cons (.ife (.and (.op (.isi .tuple) (.cons (.pk 1) .nil)) (.op (.cmp .eq) (.cons (.call 0 (.cons (.io 0) (.cons (.cst (.int 2)) .nil))) (.cons (.cst (.int 0)) .nil))))
     (.cons (.set (.nm 3) (.op .lst (.cons (.op (.bin .add) (.cons (.pk 1) (.cons (.op .tup (.cons (.call 1 (.cons (.io 0) .nil)) .nil)) .nil))) (.cons (.op (.slc false true) (.cons (.pk 1) (.cons (.op .neg (.cons (.cst (.int 1)) .nil)) .nil))) (.cons (.op (.slc true false) (.cons (.pk 1) (.cons (.cst (.int 1)) .nil))) (.cons (.op (.bin .add) (.cons (.pk 1) (.cons (.op (.slc false true) (.cons (.pk 1) (.cons (.cst (.int 1)) .nil))) .nil))) (.cons (.op .rev (.cons (.pk 1) .nil)) (.cons (.op (.bin .add) (.cons (.pk 1) (.cons (.pk 1) .nil))) .nil))))))))
      (.cons (.ret (.call 2 (.cons (.io 0) (.cons (.var 3) .nil))))
      .nil))
     .nil)
    (.cons (.ret (.call 1 (.cons (.io 0) .nil)))
    .nil))
   .nil)
  (.cons (.set (.nm 2) (.call 0 (.cons (.io 0) (.cons (.op .len (.cons (.pk 1) .nil)) .nil))))
  (.cons (.ret (.op (.bin .add) (.cons (.op (.bin .add) (.cons (.op (.slc false true) (.cons (.pk 1) (.cons (.pk 2) .nil))) (.cons (.op .tup (.cons (.call 3 (.cons (.io 0) (.cons (.op .idx (.cons (.pk 1) (.cons (.pk 2) .nil))) .nil))) .nil)) .nil))) (.cons (.op (.slc true false) (.cons (.pk 1) (.cons (.op (.bin .add) (.cons (.pk 2) (.cons (.cst (.int 1)) .nil))) .nil))) .nil))))
  .nil)))⟩
abbrev d__law_spoilt : He.DefD := ⟨("_law_spoilt", none), "_law_spoilt", "_law_spoilt", defArgs (top 42), defBody (top 42), defScope (top 42), [], []⟩
def l_check_rule_0 : E := (.lc (.call 2 (.cons (.var 2) .nil)) (.nm 2) (.var 1) .yes [2])
def c_check_rule : DefC := ⟨"check_rule", 1, ["rule", "parts", "part"], [1, 4, 9], [("MAX_FORMS", (.int 20)), ("MAX_NODES", (.int 100))],
  (.cons (.ife (.not (.call 0 (.cons (.var 0) (.cons (.glb 0) .nil))))
   (.cons (.rai 3 (.cst (.str "form")))
    .nil)
   .nil)
  (.cons (.set (.nm 1) (.call 1 (.cons (.var 0) .nil)))
  (.cons (.ife (.or (.op (.cmp .gt) (.cons (.op .len (.cons (.pk 1) .nil)) (.cons (.glb 1) .nil))) (.not (.op .all (.cons l_check_rule_0 .nil))))
   (.cons (.rai 3 (.cst (.str "limits")))
    .nil)
   .nil)
  .nil)))⟩
abbrev d_check_rule : He.DefD := ⟨("check_rule", none), "check_rule", "check_rule", defArgs (top 21), defBody (top 21), defScope (top 21), [], []⟩
def c__law_rule : DefC := ⟨"_law_rule", 2, ["state", "depth", "pick"], [6, 7, 13, 14], [],
  (.cons (.set (.nm 2) (.call 0 (.cons (.io 0) (.cons (.cst (.int 12)) .nil))))
  (.cons (.ife (.or (.op (.cmp .lt) (.cons (.pk 1) (.cons (.cst (.int 2)) .nil))) (.op (.cmp .lt) (.cons (.pk 2) (.cons (.cst (.int 2)) .nil))))
   (.cons (.ret (.op .tup (.cons (.call 1 (.cons (.io 0) (.cons (.op .lst (.cons (.cst (.str "buffer")) (.cons (.cst (.str "piece")) (.cons (.cst (.str "last")) (.cons (.cst (.str "units")) (.cons (.cst (.str "rates")) .nil)))))) .nil))) .nil)))
    .nil)
   .nil)
  (.cons (.ife (.op (.cmp .eq) (.cons (.pk 2) (.cons (.cst (.int 2)) .nil)))
   (.cons (.ret (.op .tup (.cons (.cst (.str "number")) (.cons (.call 1 (.cons (.io 0) (.cons (.op .lst (.cons (.cst (.int 0)) (.cons (.cst (.int 1)) (.cons (.cst (.int 2)) (.cons (.cst (.int 3)) (.cons (.cst (.int 10)) (.cons (.cst (.int 999)) (.cons (.cst (.int 1000)) .nil)))))))) .nil))) .nil))))
    .nil)
   .nil)
  (.cons (.ife (.op (.cmp .lt) (.cons (.pk 2) (.cons (.cst (.int 8)) .nil)))
   (.cons (.ret (.op .tup (.cons (.op .idx (.cons (.op .lst (.cons (.cst (.str "add")) (.cons (.cst (.str "sub")) (.cons (.cst (.str "mul")) (.cons (.cst (.str "least")) (.cons (.cst (.str "most")) .nil)))))) (.cons (.op (.bin .sub) (.cons (.pk 2) (.cons (.cst (.int 3)) .nil))) .nil))) (.cons (.call 2 (.cons (.io 0) (.cons (.op (.bin .sub) (.cons (.pk 1) (.cons (.cst (.int 1)) .nil))) .nil))) (.cons (.call 2 (.cons (.io 0) (.cons (.op (.bin .sub) (.cons (.pk 1) (.cons (.cst (.int 1)) .nil))) .nil))) .nil)))))
    .nil)
   .nil)
  (.cons (.ife (.op (.cmp .eq) (.cons (.pk 2) (.cons (.cst (.int 8)) .nil)))
   (.cons (.ret (.op .tup (.cons (.cst (.str "part")) (.cons (.call 2 (.cons (.io 0) (.cons (.op (.bin .sub) (.cons (.pk 1) (.cons (.cst (.int 1)) .nil))) .nil))) (.cons (.call 1 (.cons (.io 0) (.cons (.op .lst (.cons (.cst (.int 1)) (.cons (.cst (.int 2)) (.cons (.cst (.int 3)) (.cons (.cst (.int 7)) (.cons (.cst (.int 1000)) .nil)))))) .nil))) .nil)))))
    .nil)
   .nil)
  (.cons (.ife (.op (.cmp .lt) (.cons (.pk 1) (.cons (.cst (.int 3)) .nil)))
   (.cons (.ret (.op .tup (.cons (.cst (.str "rates")) .nil)))
    .nil)
   .nil)
  (.cons (.ret (.op .tup (.cons (.cst (.str "cond")) (.cons (.call 3 (.cons (.io 0) (.cons (.op (.bin .sub) (.cons (.pk 1) (.cons (.cst (.int 1)) .nil))) .nil))) (.cons (.call 2 (.cons (.io 0) (.cons (.op (.bin .sub) (.cons (.pk 1) (.cons (.cst (.int 1)) .nil))) .nil))) (.cons (.call 2 (.cons (.io 0) (.cons (.op (.bin .sub) (.cons (.pk 1) (.cons (.cst (.int 1)) .nil))) .nil))) .nil))))))
  .nil)))))))⟩
abbrev d__law_rule : He.DefD := ⟨("_law_rule", none), "_law_rule", "_law_rule", defArgs (top 39), defBody (top 39), defScope (top 39), [], []⟩
def c__law_test : DefC := ⟨"_law_test", 2, ["state", "depth", "pick"], [6, 13, 14], [],
  (.cons (.set (.nm 2) (.call 0 (.cons (.io 0) (.cons (.cst (.int 7)) .nil))))
  (.cons (.ife (.or (.op (.cmp .lt) (.cons (.pk 2) (.cons (.cst (.int 3)) .nil))) (.op (.cmp .lt) (.cons (.pk 1) (.cons (.cst (.int 3)) .nil))))
   (.cons (.ret (.op .tup (.cons (.op .idx (.cons (.op .lst (.cons (.cst (.str "less")) (.cons (.cst (.str "less")) (.cons (.cst (.str "equal")) .nil)))) (.cons (.op (.bin .mod) (.cons (.pk 2) (.cons (.cst (.int 3)) .nil))) .nil))) (.cons (.call 1 (.cons (.io 0) (.cons (.op (.bin .sub) (.cons (.pk 1) (.cons (.cst (.int 1)) .nil))) .nil))) (.cons (.call 1 (.cons (.io 0) (.cons (.op (.bin .sub) (.cons (.pk 1) (.cons (.cst (.int 1)) .nil))) .nil))) .nil)))))
    .nil)
   .nil)
  (.cons (.ife (.op (.cmp .lt) (.cons (.pk 2) (.cons (.cst (.int 6)) .nil)))
   (.cons (.ret (.op .tup (.cons (.op .idx (.cons (.op .lst (.cons (.cst (.str "both")) (.cons (.cst (.str "either")) (.cons (.cst (.str "either")) .nil)))) (.cons (.op (.bin .sub) (.cons (.pk 2) (.cons (.cst (.int 3)) .nil))) .nil))) (.cons (.call 2 (.cons (.io 0) (.cons (.op (.bin .sub) (.cons (.pk 1) (.cons (.cst (.int 1)) .nil))) .nil))) (.cons (.call 2 (.cons (.io 0) (.cons (.op (.bin .sub) (.cons (.pk 1) (.cons (.cst (.int 1)) .nil))) .nil))) .nil)))))
    .nil)
   .nil)
  (.cons (.ret (.op .tup (.cons (.cst (.str "no")) (.cons (.call 2 (.cons (.io 0) (.cons (.op (.bin .sub) (.cons (.pk 1) (.cons (.cst (.int 1)) .nil))) .nil))) .nil))))
  .nil))))⟩
abbrev d__law_test : He.DefD := ⟨("_law_test", none), "_law_test", "_law_test", defArgs (top 40), defBody (top 40), defScope (top 40), [], []⟩
def c_chosen : DefC := ⟨"chosen", 2, ["rule", "facts"], [12], [],
  (.cons (.ex (.call 0 (.cons (.var 0) .nil)))
  .rest)⟩
abbrev d_chosen : He.DefD := ⟨("chosen", none), "chosen", "chosen", defArgs (top 26), defBody (top 26), defScope (top 26), [], []⟩
def c_choices : DefC := ⟨"choices", 2, ["rule", "bounds", "facts"], [12], [],
  (.cons (.ex (.call 0 (.cons (.var 0) .nil)))
  .rest)⟩
abbrev d_choices : He.DefD := ⟨("choices", none), "choices", "choices", defArgs (top 29), defBody (top 29), defScope (top 29), [], []⟩
def c_first_difference : DefC := ⟨"first_difference", 3, ["first", "second", "bounds", "facts"], [12], [],
  (.cons (.ex (.call 0 (.cons (.var 0) .nil)))
  (.cons (.ex (.call 0 (.cons (.var 1) .nil)))
  .rest))⟩
abbrev d_first_difference : He.DefD := ⟨("first_difference", none), "first_difference", "first_difference", defArgs (top 30), defBody (top 30), defScope (top 30), [], []⟩
def c_write_rule : DefC := ⟨"write_rule", 1, ["rule"], [12], [],
  (.cons (.ex (.call 0 (.cons (.var 0) .nil)))
  .rest)⟩
abbrev d_write_rule : He.DefD := ⟨("write_rule", none), "write_rule", "write_rule", defArgs (top 33), defBody (top 33), defScope (top 33), [], []⟩
def c__law_is_int : DefC := ⟨"_law_is_int", 1, ["value"], [], [],
  (.cons (.ret (.and (.op (.isi .int) (.cons (.pk 0) .nil)) (.not (.op (.isi .bool) (.cons (.pk 0) .nil)))))
  .nil)⟩
abbrev d__law_is_int : He.DefD := ⟨("_law_is_int", none), "_law_is_int", "_law_is_int", defArgs (top 43), defBody (top 43), defScope (top 43), [], []⟩
def l__law_rule_form_0 : E := (.lc (.op .tup (.cons (.op .idx (.cons (.pk 7) (.cons (.pk 9) .nil))) (.cons (.op .idx (.cons (.pk 8) (.cons (.pk 9) .nil))) (.cons (.op (.bin .sub) (.cons (.pk 5) (.cons (.cst (.int 1)) .nil))) .nil)))) (.nm 9) (.rng1 (.op .len (.cons (.pk 8) .nil))) .yes [9])
def b__law_rule_form_0 : S :=
  (.cons (.ife (.op (.cmp .eq) (.cons (.pk 2) (.cons (.op .len (.cons (.pk 1) .nil)) .nil)))
   (.cons (.ret (.cst (.bool true)))
    .nil)
   .nil)
  (.cons (.set (.tp [3, 4, 5]) (.op .idx (.cons (.pk 1) (.cons (.pk 2) .nil))))
  (.cons (.ife (.or (.op (.cmp .lt) (.cons (.pk 5) (.cons (.cst (.int 1)) .nil))) (.or (.not (.op (.isi .tuple) (.cons (.pk 3) .nil))) (.or (.not (.pk 3)) (.not (.op (.isi .str) (.cons (.op .idx (.cons (.pk 3) (.cons (.cst (.int 0)) .nil))) .nil))))))
   (.cons (.ret (.cst (.bool false)))
    .nil)
   .nil)
  (.cons (.set (.tp [6, 7]) (.op .tup (.cons (.op .idx (.cons (.pk 3) (.cons (.cst (.int 0)) .nil))) (.cons (.op (.slc true false) (.cons (.pk 3) (.cons (.cst (.int 1)) .nil))) .nil))))
  (.cons (.ife (.and (.op (.cmp .eq) (.cons (.pk 4) (.cons (.cst (.str "rule")) .nil))) (.op (.cmp .isin) (.cons (.pk 6) (.cons (.op .lst (.cons (.cst (.str "buffer")) (.cons (.cst (.str "piece")) (.cons (.cst (.str "last")) (.cons (.cst (.str "units")) (.cons (.cst (.str "rates")) .nil)))))) .nil))))
   (.cons (.set (.nm 8) (.op .lst .nil))
    .nil)
   (.cons (.ife (.and (.op (.cmp .eq) (.cons (.pk 4) (.cons (.cst (.str "rule")) .nil))) (.op (.cmp .isin) (.cons (.pk 6) (.cons (.op .lst (.cons (.cst (.str "number")) (.cons (.cst (.str "part")) .nil))) .nil))))
     (.cons (.ife (.or (.op (.cmp .ne) (.cons (.op .len (.cons (.pk 7) .nil)) (.cons (.op (.bin .add) (.cons (.cst (.int 1)) (.cons (.op .int1 (.cons (.op (.cmp .eq) (.cons (.pk 6) (.cons (.cst (.str "part")) .nil))) .nil)) .nil))) .nil))) (.not (.call 0 (.cons (.op .idx (.cons (.pk 7) (.cons (.op .neg (.cons (.cst (.int 1)) .nil)) .nil))) .nil))))
       (.cons (.ret (.cst (.bool false)))
        .nil)
       .nil)
      (.cons (.set (.tp [8, 7]) (.op .tup (.cons (.op (.bin .mul) (.cons (.op .lst (.cons (.cst (.str "rule")) .nil)) (.cons (.op .int1 (.cons (.op (.cmp .eq) (.cons (.pk 6) (.cons (.cst (.str "part")) .nil))) .nil)) .nil))) (.cons (.op (.slc false true) (.cons (.pk 7) (.cons (.op .neg (.cons (.cst (.int 1)) .nil)) .nil))) .nil))))
      .nil))
     (.cons (.ife (.or (.and (.op (.cmp .eq) (.cons (.pk 4) (.cons (.cst (.str "rule")) .nil))) (.op (.cmp .isin) (.cons (.pk 6) (.cons (.op .lst (.cons (.cst (.str "add")) (.cons (.cst (.str "sub")) (.cons (.cst (.str "mul")) (.cons (.cst (.str "least")) (.cons (.cst (.str "most")) .nil)))))) .nil)))) (.and (.op (.cmp .eq) (.cons (.pk 4) (.cons (.cst (.str "test")) .nil))) (.op (.cmp .isin) (.cons (.pk 6) (.cons (.op .lst (.cons (.cst (.str "less")) (.cons (.cst (.str "equal")) .nil))) .nil)))))
       (.cons (.set (.nm 8) (.op .lst (.cons (.cst (.str "rule")) (.cons (.cst (.str "rule")) .nil))))
        .nil)
       (.cons (.ife (.and (.op (.cmp .eq) (.cons (.pk 4) (.cons (.cst (.str "rule")) .nil))) (.op (.cmp .eq) (.cons (.pk 6) (.cons (.cst (.str "cond")) .nil))))
         (.cons (.set (.nm 8) (.op .lst (.cons (.cst (.str "test")) (.cons (.cst (.str "rule")) (.cons (.cst (.str "rule")) .nil)))))
          .nil)
         (.cons (.ife (.and (.op (.cmp .eq) (.cons (.pk 4) (.cons (.cst (.str "test")) .nil))) (.op (.cmp .isin) (.cons (.pk 6) (.cons (.op .lst (.cons (.cst (.str "both")) (.cons (.cst (.str "either")) (.cons (.cst (.str "no")) .nil)))) .nil))))
           (.cons (.set (.nm 8) (.op (.bin .mul) (.cons (.op .lst (.cons (.cst (.str "test")) .nil)) (.cons (.op (.bin .add) (.cons (.cst (.int 1)) (.cons (.op .int1 (.cons (.op (.cmp .ne) (.cons (.pk 6) (.cons (.cst (.str "no")) .nil))) .nil)) .nil))) .nil))))
            .nil)
           (.cons (.ret (.cst (.bool false)))
            .nil))
          .nil))
        .nil))
      .nil))
    .nil))
  (.cons (.ife (.op (.cmp .ne) (.cons (.op .len (.cons (.pk 7) .nil)) (.cons (.op .len (.cons (.pk 8) .nil)) .nil)))
   (.cons (.ret (.cst (.bool false)))
    .nil)
   .nil)
  (.cons (.ext 1 l__law_rule_form_0)
  .nil)))))))
def c__law_rule_form : DefC := ⟨"_law_rule_form", 1, ["value", "waiting", "at", "part", "sort", "depth", "op", "rest", "sorts", "k"], [19], [],
  (.cons (.set (.nm 1) (.op .lst (.cons (.op .tup (.cons (.var 0) (.cons (.cst (.str "rule")) (.cons (.cst (.int 20)) .nil)))) .nil)))
  (.cons (.for_ (.nm 2) (.rng1 (.cst (.int 100000))) b__law_rule_form_0)
  (.cons (.ret (.cst (.bool false)))
  .nil)))⟩
abbrev d__law_rule_form : He.DefD := ⟨("_law_rule_form", none), "_law_rule_form", "_law_rule_form", defArgs (top 44), defBody (top 44), defScope (top 44), [], []⟩
def l__law_rule_due_0 : E := (.lc (.var 7) (.nm 7) (.op (.slc true false) (.cons (.pk 5) (.cons (.cst (.int 1)) .nil))) (.op (.isi .tuple) (.cons (.pk 7) .nil)) [7])
def b__law_rule_due_0 : S :=
  (.cons (.ife (.op (.cmp .eq) (.cons (.pk 2) (.cons (.op .len (.cons (.pk 1) .nil)) .nil)))
   (.cons .brk
    .nil)
   .nil)
  (.cons (.set (.nm 5) (.op .idx (.cons (.pk 1) (.cons (.pk 2) .nil))))
  (.cons (.ext 1 l__law_rule_due_0)
  .nil)))
def l__law_rule_due_1 : E := (.lc (.op .idx (.cons (.pk 5) (.cons (.cst (.int 1)) .nil))) (.nm 5) (.var 1) (.op (.cmp .eq) (.cons (.op .idx (.cons (.pk 5) (.cons (.cst (.int 0)) .nil))) (.cons (.cst (.str "number")) .nil))) [5])
def l__law_rule_due_2 : E := (.lc (.op .idx (.cons (.pk 5) (.cons (.cst (.int 2)) .nil))) (.nm 5) (.var 1) (.op (.cmp .eq) (.cons (.op .idx (.cons (.pk 5) (.cons (.cst (.int 0)) .nil))) (.cons (.cst (.str "part")) .nil))) [5])
def l__law_rule_due_3 : E := (.lc (.var 6) (.nm 6) (.var 3) (.or (.op (.cmp .lt) (.cons (.pk 6) (.cons (.cst (.int 0)) .nil))) (.op (.cmp .gt) (.cons (.pk 6) (.cons (.cst (.int 1000)) .nil)))) [6])
def l__law_rule_due_4 : E := (.lc (.var 6) (.nm 6) (.var 4) (.or (.op (.cmp .lt) (.cons (.pk 6) (.cons (.cst (.int 1)) .nil))) (.op (.cmp .gt) (.cons (.pk 6) (.cons (.cst (.int 1000)) .nil)))) [6])
def c__law_rule_due : DefC := ⟨"_law_rule_due", 1, ["value", "waiting", "at", "numbers", "divisors", "part", "n", "one"], [20], [],
  (.cons (.ife (.not (.call 0 (.cons (.var 0) .nil)))
   (.cons (.ret (.cst (.str "form")))
    .nil)
   .nil)
  (.cons (.set (.nm 1) (.op .lst (.cons (.var 0) .nil)))
  (.cons (.for_ (.nm 2) (.rng1 (.cst (.int 100000))) b__law_rule_due_0)
  (.cons (.set (.nm 3) l__law_rule_due_1)
  (.cons (.set (.nm 4) l__law_rule_due_2)
  (.cons (.ife (.or (.op (.cmp .gt) (.cons (.op .len (.cons (.pk 1) .nil)) (.cons (.cst (.int 100)) .nil))) (.or l__law_rule_due_3 l__law_rule_due_4))
   (.cons (.ret (.cst (.str "limits")))
    .nil)
   .nil)
  (.cons (.ret (.cst .none))
  .nil)))))))⟩
abbrev d__law_rule_due : He.DefD := ⟨("_law_rule_due", none), "_law_rule_due", "_law_rule_due", defArgs (top 45), defBody (top 45), defScope (top 45), [], []⟩
def b__law_wide_rule_0 : S :=
  (.cons (.set (.nm 4) (.op .idx (.cons (.op .lst (.cons (.op .tup (.cons (.cst (.str "add")) (.cons (.var 4) (.cons (.op .tup (.cons (.cst (.str "number")) (.cons (.cst (.int 1)) .nil))) .nil)))) (.cons (.op .tup (.cons (.cst (.str "part")) (.cons (.var 4) (.cons (.cst (.int 3)) .nil)))) (.cons (.op .tup (.cons (.cst (.str "cond")) (.cons (.op .tup (.cons (.cst (.str "less")) (.cons (.op .tup (.cons (.cst (.str "piece")) .nil)) (.cons (.op .tup (.cons (.cst (.str "last")) .nil)) .nil)))) (.cons (.var 4) (.cons (.op .tup (.cons (.cst (.str "rates")) .nil)) .nil))))) .nil)))) (.cons (.ife (.op (.cmp .lt) (.cons (.pk 5) (.cons (.cst (.int 17)) .nil))) (.call 0 (.cons (.io 0) (.cons (.cst (.int 3)) .nil))) (.cst (.int 0))) .nil))))
  .nil)
def l__law_wide_rule_0 : E := (.lc (.op .tup (.cons (.cst (.str "most")) (.cons (.op .idx (.cons (.pk 2) (.cons (.op (.bin .mul) (.cons (.cst (.int 2)) (.cons (.pk 5) .nil))) .nil))) (.cons (.op .idx (.cons (.pk 2) (.cons (.op (.bin .add) (.cons (.op (.bin .mul) (.cons (.cst (.int 2)) (.cons (.pk 5) .nil))) (.cons (.cst (.int 1)) .nil))) .nil))) .nil)))) (.nm 5) (.rng1 (.op (.bin .fdiv) (.cons (.op .len (.cons (.pk 2) .nil)) (.cons (.cst (.int 2)) .nil)))) .yes [5])
def b__law_wide_rule_1 : S :=
  (.cons (.ife (.op (.cmp .eq) (.cons (.op .len (.cons (.pk 2) .nil)) (.cons (.cst (.int 1)) .nil)))
   (.cons .brk
    .nil)
   .nil)
  (.cons (.set (.nm 2) (.op (.bin .add) (.cons l__law_wide_rule_0 (.cons (.op (.slc true false) (.cons (.pk 2) (.cons (.op (.bin .sub) (.cons (.op .len (.cons (.pk 2) .nil)) (.cons (.op (.bin .mod) (.cons (.op .int1 (.cons (.op .len (.cons (.pk 2) .nil)) .nil)) (.cons (.cst (.int 2)) .nil))) .nil))) .nil))) .nil))))
  .nil))
def c__law_wide_rule : DefC := ⟨"_law_wide_rule", 1, ["state", "sort", "rows", "turn", "rule", "k"], [6, 7], [],
  (.cons (.set (.nm 1) (.call 0 (.cons (.io 0) (.cons (.cst (.int 3)) .nil))))
  (.cons (.ife (.op (.cmp .eq) (.cons (.pk 1) (.cons (.cst (.int 0)) .nil)))
   (.cons (.set (.nm 4) (.op .tup (.cons (.cst (.str "units")) .nil)))
    (.cons (.for_ (.nm 5) (.rng1 (.call 1 (.cons (.io 0) (.cons (.op .lst (.cons (.cst (.int 17)) (.cons (.cst (.int 18)) (.cons (.cst (.int 19)) (.cons (.cst (.int 20)) .nil))))) .nil)))) b__law_wide_rule_0)
    (.cons (.ret (.var 4))
    .nil)))
   .nil)
  (.cons (.set (.nm 2) (.op (.bin .mul) (.cons (.op .lst (.cons (.op .tup (.cons (.cst (.str "buffer")) .nil)) .nil)) (.cons (.call 1 (.cons (.io 0) (.cons (.op .lst (.cons (.cst (.int 49)) (.cons (.cst (.int 50)) (.cons (.cst (.int 50)) (.cons (.cst (.int 51)) .nil))))) .nil))) .nil))))
  (.cons (.ife (.and (.op (.cmp .eq) (.cons (.pk 1) (.cons (.cst (.int 1)) .nil))) (.op (.cmp .eq) (.cons (.call 0 (.cons (.io 0) (.cons (.cst (.int 2)) .nil))) (.cons (.cst (.int 0)) .nil))))
   (.cons (.setI 2 (.cst (.int 0)) (.op .tup (.cons (.cst (.str "part")) (.cons (.op .tup (.cons (.cst (.str "buffer")) .nil)) (.cons (.cst (.int 1)) .nil)))))
    .nil)
   .nil)
  (.cons (.for_ (.nm 3) (.rng1 (.cst (.int 10))) b__law_wide_rule_1)
  (.cons (.ret (.op .idx (.cons (.pk 2) (.cons (.cst (.int 0)) .nil))))
  .nil))))))⟩
abbrev d__law_wide_rule : He.DefD := ⟨("_law_wide_rule", none), "_law_wide_rule", "_law_wide_rule", defArgs (top 46), defBody (top 46), defScope (top 46), [], []⟩
def c__law_told : DefC := ⟨"_law_told", 3, ["way", "value", "other", "error"], [12, 18, 15, 16, 17], [],
  (.cons (.try1 (.cons (.ife (.op (.cmp .eq) (.cons (.pk 0) (.cons (.cst (.int 0)) .nil)))
     (.cons (.ret (.call 0 (.cons (.var 1) .nil)))
      .nil)
     .nil)
    (.cons (.ife (.op (.cmp .eq) (.cons (.pk 0) (.cons (.cst (.int 1)) .nil)))
     (.cons (.ret (.call 1 (.cons (.var 1) .nil)))
      .nil)
     .nil)
    (.cons (.ife (.op (.cmp .eq) (.cons (.pk 0) (.cons (.cst (.int 2)) .nil)))
     (.cons (.ret (.call 2 (.cons (.var 1) (.cons (.cst .none) .nil))))
      .nil)
     .nil)
    (.cons (.ife (.op (.cmp .eq) (.cons (.pk 0) (.cons (.cst (.int 3)) .nil)))
     (.cons (.ret (.call 3 (.cons (.var 1) (.cons (.cst .none) .nil))))
      .nil)
     .nil)
    (.cons (.ret (.ife (.op (.cmp .eq) (.cons (.pk 0) (.cons (.cst (.int 4)) .nil))) (.call 4 (.cons (.var 1) (.cons (.var 2) (.cons (.cst .none) .nil)))) (.call 4 (.cons (.var 2) (.cons (.var 1) (.cons (.cst .none) .nil))))))
    .nil)))))
    3 (.ife (.isI 3) (.rsn "reason") (.cst (.str "!other"))))
  .nil)⟩
abbrev d__law_told : He.DefD := ⟨("_law_told", none), "_law_told", "_law_told", defArgs (top 47), defBody (top 47), defScope (top 47), [], []⟩
def l_law_0 : E := (.lc (.call 4 (.cons (.var 7) (.cons (.var 4) (.cons (.op .tup (.cons (.cst (.str "piece")) .nil)) .nil)))) (.nm 7) (.rng2 (.cst (.int 1)) (.cst (.int 6))) .yes [7])
def b_law_0 : S :=
  (.cons (.set (.nm 4) (.ife (.op (.cmp .gt) (.cons (.call 1 (.cons (.io 1) (.cons (.cst (.int 4)) .nil))) (.cons (.cst (.int 0)) .nil))) (.call 7 (.cons (.io 1) (.cons (.var 4) .nil))) (.op .tup (.cons (.cst (.str "add")) (.cons (.var 4) (.cons (.call 8 (.cons (.io 1) (.cons (.cst (.int 3)) .nil))) .nil))))))
  (.cons (.set (.nm 6) (.call 5 (.cons (.var 4) .nil)))
  (.cons (.ife (.not (.call 6 (.cons (.call 4 (.cons (.cst (.int 0)) (.cons (.var 4) (.cons (.cst .none) .nil)))) (.cons (.var 6) .nil))))
   (.cons (.ret (.cst (.bool false)))
    .nil)
   .nil)
  (.cons (.ife (.and (.op (.cmp .isn) (.cons (.pk 6) (.cons (.cst .none) .nil))) (.op (.cmp .ne) (.cons l_law_0 (.cons (.op (.bin .mul) (.cons (.op .lst (.cons (.var 6) .nil)) (.cons (.cst (.int 5)) .nil))) .nil))))
   (.cons (.ret (.cst (.bool false)))
    .nil)
   .nil)
  .nil))))
def b_law_1 : S :=
  (.cons (.set (.nm 3) (.ife (.op (.cmp .eq) (.cons (.call 1 (.cons (.io 1) (.cons (.cst (.int 3)) .nil))) (.cons (.cst (.int 0)) .nil))) (.call 2 (.cons (.io 1) .nil)) (.call 3 (.cons (.io 1) (.cons (.op (.bin .add) (.cons (.cst (.int 1)) (.cons (.call 1 (.cons (.io 1) (.cons (.cst (.int 6)) .nil))) .nil))) .nil)))))
  (.cons (.ife (.not (.call 6 (.cons (.call 4 (.cons (.cst (.int 0)) (.cons (.var 3) (.cons (.cst .none) .nil)))) (.cons (.call 5 (.cons (.var 3) .nil)) .nil))))
   (.cons (.ret (.cst (.bool false)))
    .nil)
   .nil)
  (.cons (.set (.nm 4) (.var 3))
  (.cons (.for_ (.nm 5) (.rng1 (.cst (.int 3))) b_law_0)
  .nil))))
def c_law : DefC := ⟨"law", 1, ["script", "state", "turn", "rule", "value", "change", "due", "way"], [5, 6, 22, 13, 23, 21, 8, 11, 14, 10], [],
  (.cons (.set (.nm 1) (.call 0 (.cons (.var 0) .nil)))
  (.cons (.for_ (.nm 2) (.rng1 (.cst (.int 5))) b_law_1)
  (.cons (.ret (.call 6 (.cons (.call 4 (.cons (.cst (.int 0)) (.cons (.call 9 (.cons (.io 1) .nil)) (.cons (.cst .none) .nil)))) (.cons (.cst (.str "form")) .nil))))
  .nil)))⟩
abbrev d_law : He.DefD := ⟨("law", none), "law", "law", defArgs (top 48), defBody (top 48), defScope (top 48), [], []⟩
def cs : List DefC := [c_is_integer, c_is_number, c_is_test, c_inner, c_parts_of, c__law_start, c__law_draw, c__law_pick, c__law_same, c_within_limits, c__law_odd, c__law_spoilt, c_check_rule, c__law_rule, c__law_test, c_chosen, c_choices, c_first_difference, c_write_rule, c__law_is_int, c__law_rule_form, c__law_rule_due, c__law_wide_rule, c__law_told, c_law]
abbrev ds : List He.DefD := [d_is_integer, d_is_number, d_is_test, d_inner, d_parts_of, d__law_start, d__law_draw, d__law_pick, d__law_same, d_within_limits, d__law_odd, d__law_spoilt, d_check_rule, d__law_rule, d__law_test, d_chosen, d_choices, d_first_difference, d_write_rule, d__law_is_int, d__law_rule_form, d__law_rule_due, d__law_wide_rule, d__law_told, d_law]
abbrev es : List ErrD := [mkErr 3 "RuleError" (top 2), mkErr 6 "ArgumentError" (top 3), mkErr 8 "TooMany" (top 4)]
-- info: 0:is_integer/1 1:is_number/2 2:is_test/2 3:inner/1 4:parts_of/1 5:_law_start/1 6:_law_draw/2 7:_law_pick/2 8:_law_same/2 9:within_limits/1 10:_law_odd/1 11:_law_spoilt/2 12:check_rule/1 13:_law_rule/2 14:_law_test/2 15:chosen/2 16:choices/2 17:first_difference/3 18:write_rule/1 19:_law_is_int/1 20:_law_rule_form/1 21:_law_rule_due/1 22:_law_wide_rule/1 23:_law_told/3 24:law/1
-- io: _law_draw:state _law_pick:state _law_odd:state _law_spoilt:state _law_rule:state _law_test:state _law_wide_rule:state
theorem ck_is_integer : ckD cs es c_is_integer d_is_integer = true := by decide +kernel
theorem ck_is_number : ckD cs es c_is_number d_is_number = true := by decide +kernel
theorem ck_is_test : ckD cs es c_is_test d_is_test = true := by decide +kernel
theorem ck_inner : ckD cs es c_inner d_inner = true := by decide +kernel
theorem ck_parts_of : ckD cs es c_parts_of d_parts_of = true := by decide +kernel
theorem ck__law_start : ckD cs es c__law_start d__law_start = true := by decide +kernel
theorem ck__law_draw : ckD cs es c__law_draw d__law_draw = true := by decide +kernel
theorem ck__law_pick : ckD cs es c__law_pick d__law_pick = true := by decide +kernel
theorem ck__law_same : ckD cs es c__law_same d__law_same = true := by decide +kernel
theorem ck_within_limits : ckD cs es c_within_limits d_within_limits = true := by decide +kernel
theorem ck__law_odd : ckD cs es c__law_odd d__law_odd = true := by decide +kernel
theorem ck__law_spoilt : ckD cs es c__law_spoilt d__law_spoilt = true := by decide +kernel
theorem ck_check_rule : ckD cs es c_check_rule d_check_rule = true := by decide +kernel
theorem ck__law_rule : ckD cs es c__law_rule d__law_rule = true := by decide +kernel
theorem ck__law_test : ckD cs es c__law_test d__law_test = true := by decide +kernel
theorem ck_chosen : ckD cs es c_chosen d_chosen = true := by decide +kernel
theorem ck_choices : ckD cs es c_choices d_choices = true := by decide +kernel
theorem ck_first_difference : ckD cs es c_first_difference d_first_difference = true := by decide +kernel
theorem ck_write_rule : ckD cs es c_write_rule d_write_rule = true := by decide +kernel
theorem ck__law_is_int : ckD cs es c__law_is_int d__law_is_int = true := by decide +kernel
theorem ck__law_rule_form : ckD cs es c__law_rule_form d__law_rule_form = true := by decide +kernel
theorem ck__law_rule_due : ckD cs es c__law_rule_due d__law_rule_due = true := by decide +kernel
theorem ck__law_wide_rule : ckD cs es c__law_wide_rule d__law_wide_rule = true := by decide +kernel
theorem ck__law_told : ckD cs es c__law_told d__law_told = true := by decide +kernel
theorem ck_law : ckD cs es c_law d_law = true := by decide +kernel
theorem ci : es.all inC = true := by decide +kernel
end Z

set_option Elab.async false
set_option linter.all false
set_option maxRecDepth 100000
set_option maxHeartbeats 0
namespace Z
open PySem PySem.Spec PyProof.Rows L2
abbrev Rw : PySem.W.OpenRow := PySem.W.OpenLaw.row PySem.Challenge.rw_reelhouse_k05_rules_of_any_value
abbrev lawAt : Nat := 48
abbrev hk : PySem.W.Hook := hookZ 6 Pg cs ds es
def ob (s : PySem.W.SharedT) : AlZ := obsZ 6 Pg cs ds es (HandSHeadRun.getT s)
theorem ob_eq (s : PySem.W.SharedT) : ob s = hk.obs s.abs := obsZ_eq (HandSHeadRun.getT_eq s)
def names : List Str := [("ReelError" : Str), ("RuleError" : Str), ("ArgumentError" : Str), ("TooMany" : Str), ("is_integer" : Str), ("MAX_LOOKED" : Str), ("MAX_FORMS" : Str), ("MAX_NODES" : Str), ("MAX_NUMBER" : Str), ("FACTS" : Str), ("PAIRS" : Str), ("TESTS" : Str), ("JOINS" : Str), ("is_number" : Str), ("is_test" : Str), ("inner" : Str), ("parts_of" : Str), ("within_limits" : Str), ("check_rule" : Str), ("number_of" : Str), ("holds" : Str), ("choice" : Str), ("check_facts" : Str), ("chosen" : Str), ("check_bounds" : Str), ("all_facts" : Str), ("choices" : Str), ("first_difference" : Str), ("words_of" : Str), ("write_rule" : Str), ("_law_start" : Str), ("_law_draw" : Str), ("_law_pick" : Str), ("_law_same" : Str), ("_law_rule" : Str), ("_law_test" : Str), ("_law_odd" : Str), ("_law_spoilt" : Str), ("_law_is_int" : Str), ("_law_rule_form" : Str), ("_law_rule_due" : Str), ("_law_wide_rule" : Str), ("_law_told" : Str)]
theorem run (w : World) : HandSHeadRun.RunEq Rw (PySem.W.view Rw.prog [lawAt]) hk ob 4000 names w := by
  intro os
  kernel_rfl
end Z

set_option Elab.async false
set_option linter.all false
set_option maxRecDepth 100000
set_option maxHeartbeats 0
namespace Z
open PySem PySem.Spec PyProof.Rows L2
/-- def id at level k + 1 -/
def Fd (k id : Nat) (ss : List Sl) : Rt := match tbl cs (k + 1) id with
  | some p => p.2 ss
  | none => .st
theorem T0 (k : Nat) : tbl cs (k + 1) 0 = some (1, Fd k 0) := rfl
theorem T1 (k : Nat) : tbl cs (k + 1) 1 = some (2, Fd k 1) := rfl
theorem T2 (k : Nat) : tbl cs (k + 1) 2 = some (2, Fd k 2) := rfl
theorem T3 (k : Nat) : tbl cs (k + 1) 3 = some (1, Fd k 3) := rfl
theorem T4 (k : Nat) : tbl cs (k + 1) 4 = some (1, Fd k 4) := rfl
theorem T5 (k : Nat) : tbl cs (k + 1) 5 = some (1, Fd k 5) := rfl
theorem T6 (k : Nat) : tbl cs (k + 1) 6 = some (2, Fd k 6) := rfl
theorem T7 (k : Nat) : tbl cs (k + 1) 7 = some (2, Fd k 7) := rfl
theorem T8 (k : Nat) : tbl cs (k + 1) 8 = some (2, Fd k 8) := rfl
theorem T9 (k : Nat) : tbl cs (k + 1) 9 = some (1, Fd k 9) := rfl
theorem T10 (k : Nat) : tbl cs (k + 1) 10 = some (1, Fd k 10) := rfl
theorem T11 (k : Nat) : tbl cs (k + 1) 11 = some (2, Fd k 11) := rfl
theorem T12 (k : Nat) : tbl cs (k + 1) 12 = some (1, Fd k 12) := rfl
theorem T13 (k : Nat) : tbl cs (k + 1) 13 = some (2, Fd k 13) := rfl
theorem T14 (k : Nat) : tbl cs (k + 1) 14 = some (2, Fd k 14) := rfl
theorem T15 (k : Nat) : tbl cs (k + 1) 15 = some (2, Fd k 15) := rfl
theorem T16 (k : Nat) : tbl cs (k + 1) 16 = some (2, Fd k 16) := rfl
theorem T17 (k : Nat) : tbl cs (k + 1) 17 = some (3, Fd k 17) := rfl
theorem T18 (k : Nat) : tbl cs (k + 1) 18 = some (1, Fd k 18) := rfl
theorem T19 (k : Nat) : tbl cs (k + 1) 19 = some (1, Fd k 19) := rfl
theorem T20 (k : Nat) : tbl cs (k + 1) 20 = some (1, Fd k 20) := rfl
theorem T21 (k : Nat) : tbl cs (k + 1) 21 = some (1, Fd k 21) := rfl
theorem T22 (k : Nat) : tbl cs (k + 1) 22 = some (1, Fd k 22) := rfl
theorem T23 (k : Nat) : tbl cs (k + 1) 23 = some (3, Fd k 23) := rfl
theorem T24 (k : Nat) : tbl cs (k + 1) 24 = some (1, Fd k 24) := rfl
theorem U0 (k : Nat) (ss : List Sl) : Fd k 0 ss = evDef (locT c_is_integer.calls (tbl cs k)) (cstC c_is_integer.gcs) c_is_integer.N.length c_is_integer.body ss := rfl
theorem U1 (k : Nat) (ss : List Sl) : Fd k 1 ss = evDef (locT c_is_number.calls (tbl cs k)) (cstC c_is_number.gcs) c_is_number.N.length c_is_number.body ss := rfl
theorem U2 (k : Nat) (ss : List Sl) : Fd k 2 ss = evDef (locT c_is_test.calls (tbl cs k)) (cstC c_is_test.gcs) c_is_test.N.length c_is_test.body ss := rfl
theorem U3 (k : Nat) (ss : List Sl) : Fd k 3 ss = evDef (locT c_inner.calls (tbl cs k)) (cstC c_inner.gcs) c_inner.N.length c_inner.body ss := rfl
theorem U4 (k : Nat) (ss : List Sl) : Fd k 4 ss = evDef (locT c_parts_of.calls (tbl cs k)) (cstC c_parts_of.gcs) c_parts_of.N.length c_parts_of.body ss := rfl
theorem U5 (k : Nat) (ss : List Sl) : Fd k 5 ss = evDef (locT c__law_start.calls (tbl cs k)) (cstC c__law_start.gcs) c__law_start.N.length c__law_start.body ss := rfl
theorem U6 (k : Nat) (ss : List Sl) : Fd k 6 ss = evDef (locT c__law_draw.calls (tbl cs k)) (cstC c__law_draw.gcs) c__law_draw.N.length c__law_draw.body ss := rfl
theorem U7 (k : Nat) (ss : List Sl) : Fd k 7 ss = evDef (locT c__law_pick.calls (tbl cs k)) (cstC c__law_pick.gcs) c__law_pick.N.length c__law_pick.body ss := rfl
theorem U8 (k : Nat) (ss : List Sl) : Fd k 8 ss = evDef (locT c__law_same.calls (tbl cs k)) (cstC c__law_same.gcs) c__law_same.N.length c__law_same.body ss := rfl
theorem U9 (k : Nat) (ss : List Sl) : Fd k 9 ss = evDef (locT c_within_limits.calls (tbl cs k)) (cstC c_within_limits.gcs) c_within_limits.N.length c_within_limits.body ss := rfl
theorem U10 (k : Nat) (ss : List Sl) : Fd k 10 ss = evDef (locT c__law_odd.calls (tbl cs k)) (cstC c__law_odd.gcs) c__law_odd.N.length c__law_odd.body ss := rfl
theorem U11 (k : Nat) (ss : List Sl) : Fd k 11 ss = evDef (locT c__law_spoilt.calls (tbl cs k)) (cstC c__law_spoilt.gcs) c__law_spoilt.N.length c__law_spoilt.body ss := rfl
theorem U12 (k : Nat) (ss : List Sl) : Fd k 12 ss = evDef (locT c_check_rule.calls (tbl cs k)) (cstC c_check_rule.gcs) c_check_rule.N.length c_check_rule.body ss := rfl
theorem U13 (k : Nat) (ss : List Sl) : Fd k 13 ss = evDef (locT c__law_rule.calls (tbl cs k)) (cstC c__law_rule.gcs) c__law_rule.N.length c__law_rule.body ss := rfl
theorem U14 (k : Nat) (ss : List Sl) : Fd k 14 ss = evDef (locT c__law_test.calls (tbl cs k)) (cstC c__law_test.gcs) c__law_test.N.length c__law_test.body ss := rfl
theorem U15 (k : Nat) (ss : List Sl) : Fd k 15 ss = evDef (locT c_chosen.calls (tbl cs k)) (cstC c_chosen.gcs) c_chosen.N.length c_chosen.body ss := rfl
theorem U16 (k : Nat) (ss : List Sl) : Fd k 16 ss = evDef (locT c_choices.calls (tbl cs k)) (cstC c_choices.gcs) c_choices.N.length c_choices.body ss := rfl
theorem U17 (k : Nat) (ss : List Sl) : Fd k 17 ss = evDef (locT c_first_difference.calls (tbl cs k)) (cstC c_first_difference.gcs) c_first_difference.N.length c_first_difference.body ss := rfl
theorem U18 (k : Nat) (ss : List Sl) : Fd k 18 ss = evDef (locT c_write_rule.calls (tbl cs k)) (cstC c_write_rule.gcs) c_write_rule.N.length c_write_rule.body ss := rfl
theorem U19 (k : Nat) (ss : List Sl) : Fd k 19 ss = evDef (locT c__law_is_int.calls (tbl cs k)) (cstC c__law_is_int.gcs) c__law_is_int.N.length c__law_is_int.body ss := rfl
theorem U20 (k : Nat) (ss : List Sl) : Fd k 20 ss = evDef (locT c__law_rule_form.calls (tbl cs k)) (cstC c__law_rule_form.gcs) c__law_rule_form.N.length c__law_rule_form.body ss := rfl
theorem U21 (k : Nat) (ss : List Sl) : Fd k 21 ss = evDef (locT c__law_rule_due.calls (tbl cs k)) (cstC c__law_rule_due.gcs) c__law_rule_due.N.length c__law_rule_due.body ss := rfl
theorem U22 (k : Nat) (ss : List Sl) : Fd k 22 ss = evDef (locT c__law_wide_rule.calls (tbl cs k)) (cstC c__law_wide_rule.gcs) c__law_wide_rule.N.length c__law_wide_rule.body ss := rfl
theorem U23 (k : Nat) (ss : List Sl) : Fd k 23 ss = evDef (locT c__law_told.calls (tbl cs k)) (cstC c__law_told.gcs) c__law_told.N.length c__law_told.body ss := rfl
theorem U24 (k : Nat) (ss : List Sl) : Fd k 24 ss = evDef (locT c_law.calls (tbl cs k)) (cstC c_law.gcs) c_law.N.length c_law.body ss := rfl
end Z

set_option Elab.async false
set_option linter.all false
set_option maxRecDepth 100000
set_option maxHeartbeats 0
namespace Z
open PySem PySem.Spec PyProof.Rows L2
/-! ## drawing -/
def stD (sc : List Int) (c i s : Int) : PyData := .list [.list (sc.map .int), .int c, .int i, .int s]
def St (d : PyData) : Prop := ∃ sc c i s, d = stD sc c i s ∧ 0 ≤ i ∧ i ≤ (sc.length : Int)
theorem F6a (k : Nat) (sc : List Int) (c i s m : Int) (h : c ≠ 0) (hm : m ≠ 0) (hm2 : m.natAbs < 1073741824) : Fd k 6 [.pn (stD sc c i s), .fz (.int m)] = .ret (.fr (.int (c.fmod m))) [stD sc (c.fdiv m) i s, .none] := by
  show evDef _ _ _ _ _ = _
  simp [evDef, sv, ev, Fl.of, Ev.val, Ev.no, Ev.itr, opd_pk, opd_io, opd_var, opd_cst, opd_glb, opd_op, opd_chn, opd_slc, opd_and, opd_or, opd_not, opd_ife, opd_call, opd_lc, Ou.bd, zOp, opdl, retains, rsl, Z.rs, frl, opD, binD, cmpD, Ou.of, slD, atI, ixN, eqv_int, shaped_int, dbl, dint, zVar, zPkT, putR, ownAt, R.sl, R.d, finD, truD, zCall, locT, cstC, argsS, argS, ioIx, afterCall, putBack, zAnd, zOr, zNot, zChn, zSlc, slcD, cutD, Tg.put, setAll, seqD, isTy_tt, fmtOk, fitL, zRng1, zRng2, smallI, zChn3, zLrg1, zLrg2, zEnm, zZip, opd_chn3, opd_lrg1, opd_lrg2, c__law_draw, stD, h, hm, hm2]
theorem F6b (k : Nat) (sc : List Int) (i s m : Int) (h : (sc.length : Int) ≤ i) (hm : m ≠ 0) (hm2 : m.natAbs < 1073741824) : Fd k 6 [.pn (stD sc 0 i s), .fz (.int m)] = .ret (.fr (.int ((((s * 48271 + 69621).fmod 2147483629).fdiv 13).fmod m))) [stD sc 0 i ((s * 48271 + 69621).fmod 2147483629), .none] := by
  show evDef _ _ _ _ _ = _
  simp [evDef, sv, ev, Fl.of, Ev.val, Ev.no, Ev.itr, opd_pk, opd_io, opd_var, opd_cst, opd_glb, opd_op, opd_chn, opd_slc, opd_and, opd_or, opd_not, opd_ife, opd_call, opd_lc, Ou.bd, zOp, opdl, retains, rsl, Z.rs, frl, opD, binD, cmpD, Ou.of, slD, atI, ixN, eqv_int, shaped_int, dbl, dint, zVar, zPkT, putR, ownAt, R.sl, R.d, finD, truD, zCall, locT, cstC, argsS, argS, ioIx, afterCall, putBack, zAnd, zOr, zNot, zChn, zSlc, slcD, cutD, Tg.put, setAll, seqD, isTy_tt, fmtOk, fitL, zRng1, zRng2, smallI, zChn3, zLrg1, zLrg2, zEnm, zZip, opd_chn3, opd_lrg1, opd_lrg2, c__law_draw, stD, h, hm, hm2]
theorem F6c (k : Nat) (sc : List Int) (i s m : Int) (h0 : 0 ≤ i) (h : i < (sc.length : Int)) (hl : i.toNat < sc.length) (hm : m ≠ 0) (hm2 : m.natAbs < 1073741824) :
    Fd k 6 [.pn (stD sc 0 i s), .fz (.int m)] = .ret (.fr (.int ((if sc[i.toNat] < 0 then -sc[i.toNat] else sc[i.toNat]).fmod m))) [stD sc ((if sc[i.toNat] < 0 then -sc[i.toNat] else sc[i.toNat]).fdiv m) (i + 1) s, .none] := by
  show evDef _ _ _ _ _ = _
  have h2 : ¬ (sc.length : Int) ≤ i := by omega
  simp [evDef, sv, ev, Fl.of, Ev.val, Ev.no, Ev.itr, opd_pk, opd_io, opd_var, opd_cst, opd_glb, opd_op, opd_chn, opd_slc, opd_and, opd_or, opd_not, opd_ife, opd_call, opd_lc, Ou.bd, zOp, opdl, retains, rsl, Z.rs, frl, opD, binD, cmpD, Ou.of, slD, atI, ixN, eqv_int, shaped_int, dbl, dint, zVar, zPkT, putR, ownAt, R.sl, R.d, finD, truD, zCall, locT, cstC, argsS, argS, ioIx, afterCall, putBack, zAnd, zOr, zNot, zChn, zSlc, slcD, cutD, Tg.put, setAll, seqD, isTy_tt, fmtOk, fitL, zRng1, zRng2, smallI, zChn3, zLrg1, zLrg2, zEnm, zZip, opd_chn3, opd_lrg1, opd_lrg2, c__law_draw, stD, h0, h, h2, hl, hm, hm2]
theorem draw (k : Nat) {d : PyData} {m : Int} (h : St d) (hm : 1 ≤ m) (hm2 : m < 1073741824) : ∃ v d', Fd k 6 [.pn d, .fz (.int m)] = .ret (.fr (.int v)) [d', .none] ∧ St d' ∧ 0 ≤ v ∧ v < m := by
  obtain ⟨sc, c, i, s, rfl, h0, h1⟩ := h
  have m0 : m ≠ 0 := by omega
  have m2 : m.natAbs < 1073741824 := by omega
  have md : ∀ a : Int, 0 ≤ a.fmod m ∧ a.fmod m < m := fun a => ⟨Int.fmod_nonneg_of_pos a (by omega), Int.fmod_lt_of_pos a (by omega)⟩
  by_cases hc : c = 0
  · subst hc
    by_cases hi : (sc.length : Int) ≤ i
    · exact ⟨_, _, F6b k sc i s m hi m0 m2, ⟨sc, _, _, _, rfl, h0, h1⟩, md _⟩
    · have hl : i.toNat < sc.length := by omega
      exact ⟨_, _, F6c k sc i s m h0 (by omega) hl m0 m2, ⟨sc, _, _, _, rfl, by omega, by omega⟩, md _⟩
  · exact ⟨_, _, F6a k sc c i s m hc m0 m2, ⟨sc, _, _, _, rfl, h0, h1⟩, md _⟩
theorem pick (k : Nat) {d : PyData} {xs : List PyData} (h : St d) (h1 : xs ≠ []) (h2 : xs.length < 1073741824) : ∃ x d', Fd (k + 1) 7 [.pn d, .fz (.list xs)] = .ret (.fr x) [d', .none] ∧ St d' ∧ x ∈ xs := by
  have hl : 1 ≤ xs.length := by cases xs with
    | nil => exact absurd rfl h1
    | cons _ _ => simp
  obtain ⟨v, d', e, s', v0, v1⟩ := draw k h (m := xs.length) (by omega) (by omega)
  have hv : v.toNat < xs.length := by omega
  refine ⟨xs[v.toNat], d', ?_, s', List.getElem_mem hv⟩
  show evDef _ _ _ _ _ = _
  simp [evDef, sv, ev, Fl.of, Ev.val, Ev.no, Ev.itr, opd_pk, opd_io, opd_var, opd_cst, opd_glb, opd_op, opd_chn, opd_slc, opd_and, opd_or, opd_not, opd_ife, opd_call, opd_lc, Ou.bd, zOp, opdl, retains, rsl, Z.rs, frl, opD, binD, cmpD, Ou.of, slD, atI, ixN, eqv_int, shaped_int, dbl, dint, zVar, zPkT, putR, ownAt, R.sl, R.d, finD, truD, zCall, locT, cstC, argsS, argS, ioIx, afterCall, putBack, zAnd, zOr, zNot, zChn, zSlc, slcD, cutD, Tg.put, setAll, seqD, isTy_tt, fmtOk, fitL, zRng1, zRng2, smallI, zChn3, zLrg1, zLrg2, zEnm, zZip, opd_chn3, opd_lrg1, opd_lrg2, c__law_pick, T6, e, v0, v1, hv]
/-! ## values -/
mutual
/-- how many nodes -/
def sz : PyData → Nat
  | .tuple xs => szs xs + 1
  | .list xs => szs xs + 1
  | _ => 1
def szs : List PyData → Nat
  | [] => 0
  | x :: xs => sz x + szs xs
end
theorem szs_app : ∀ (xs ys : List PyData), szs (xs ++ ys) = szs xs + szs ys
  | [], ys => by simp [szs]
  | x :: xs, ys => by rw [List.cons_append, szs, szs, szs_app xs ys]; omega
theorem szs_rev : ∀ xs : List PyData, szs xs.reverse = szs xs
  | [] => rfl
  | x :: xs => by rw [List.reverse_cons, szs_app, szs_rev xs]; simp only [szs]; omega
theorem szs_take (xs : List PyData) (n : Nat) : szs (xs.take n) + szs (xs.drop n) = szs xs := by rw [← szs_app, List.take_append_drop]
theorem szs_mem : ∀ {xs : List PyData} {x : PyData}, x ∈ xs → sz x ≤ szs xs
  | y :: ys, x, h => by
    rcases List.mem_cons.mp h with rfl | h
    · rw [szs]; omega
    · have := szs_mem h
      rw [szs]; omega
theorem szs_cut (xs : List PyData) (lo hi : Option Int) : szs (cutD xs lo hi) ≤ szs xs := by
  unfold cutD
  have a := szs_take xs (HT.sIx xs.length 0 lo)
  have b := szs_take (xs.drop (HT.sIx xs.length 0 lo)) (HT.sIx xs.length xs.length hi - HT.sIx xs.length 0 lo)
  omega
theorem cut_pre {xs : List PyData} {a : Int} (h0 : 0 ≤ a) (h1 : a < xs.length) : cutD xs none (some a) = xs.take a.toNat := by
  unfold cutD HT.sIx
  dsimp only
  rw [if_neg (by omega), List.drop_zero, Nat.sub_zero, Nat.min_eq_left (by omega)]
theorem cut_suf {xs : List PyData} {a : Int} (h0 : 0 ≤ a) (h1 : a < xs.length) : cutD xs (some (a + 1)) none = xs.drop (a.toNat + 1) := by
  unfold cutD HT.sIx
  dsimp only
  rw [if_neg (by omega), Nat.min_eq_left (by omega), show (a + 1).toNat = a.toNat + 1 by omega]
  exact List.take_of_length_le (by rw [List.length_drop]; exact Nat.le_refl _)
theorem szs_get {xs : List PyData} {n : Nat} (h : n < xs.length) : szs (xs.take n) + (sz xs[n] + szs (xs.drop (n + 1))) = szs xs := by
  have a := szs_take xs n
  rw [List.drop_eq_getElem_cons h, szs] at a
  exact a
def atom : PyData → Prop
  | .none => True
  | .bool _ => True
  | .int _ => True
  | .str x => PyData.strOk x = true ∧ x.length ≤ 100
  | _ => False
def okV (b : Nat) : Nat → PyData → Prop
  | 0, v => atom v
  | h + 1, v => atom v ∨ ∃ xs, v = .tuple xs ∧ xs.length ≤ b ∧ ∀ x ∈ xs, okV b h x
theorem okV_mono {b b' : Nat} (hb : b ≤ b') : ∀ {h h' : Nat} {v : PyData}, h ≤ h' → okV b h v → okV b' h' v
  | 0, 0, v, _, q => q
  | 0, h' + 1, v, _, q => .inl q
  | h + 1, 0, v, hh, q => by omega
  | h + 1, h' + 1, v, hh, q => by
    rcases q with q | ⟨xs, rfl, h1, h2⟩
    · exact .inl q
    · exact .inr ⟨xs, rfl, by omega, fun x hx => okV_mono hb (by omega) (h2 x hx)⟩
theorem okV_atom {b h : Nat} {v : PyData} (a : atom v) : okV b h v := by cases h with
  | zero => exact a
  | succ h => exact .inl a
theorem okV_tup {b h : Nat} {xs : List PyData} (h1 : xs.length ≤ b) (h2 : ∀ x ∈ xs, okV b h x) : okV b (h + 1) (.tuple xs) := .inr ⟨xs, rfl, h1, h2⟩
theorem okV_len {b h : Nat} {xs : List PyData} (q : okV b h (.tuple xs)) : xs.length ≤ b := by
  cases h with
  | zero => exact q.elim
  | succ h =>
    rcases q with q | ⟨ys, e, h1, _⟩
    · exact q.elim
    · cases e; exact h1
theorem okV_mem {b h : Nat} {xs : List PyData} (q : okV b h (.tuple xs)) {x : PyData} (hx : x ∈ xs) : okV b h x := by
  cases h with
  | zero => exact q.elim
  | succ h =>
    rcases q with q | ⟨ys, e, _, h2⟩
    · exact q.elim
    · cases e; exact okV_mono (Nat.le_refl _) (Nat.le_succ _) (h2 x hx)
theorem okV_str {b h : Nat} {x : Str} (q : okV b h (.str x)) : PyData.strOk x = true ∧ x.length ≤ 100 := by
  cases h with
  | zero => exact q
  | succ h =>
    rcases q with q | ⟨ys, e, _, _⟩
    · exact q
    · cases e
theorem sh_str {x : Str} (h : PyData.strOk x = true) : SeqAt.shaped (.str x) = true := by
  unfold SeqAt.shaped
  simp only [PyData.canLay0, h, PyData.depth, Bool.true_and]
  rfl
theorem odd (k : Nat) {d : PyData} (h : St d) : ∃ x d', Fd (k + 2) 10 [.pn d] = .ret (.fr x) [d'] ∧ St d' ∧ okV 2 2 x ∧ sz x ≤ 6 := by
  let lst : List PyData := [.none, .bool true, .bool false, .int (-1), .int 0, .int 1, .int 2, .int 8, .int 9, .int 39, .int 40, .int 41, .int 60, .int 61, .int 99, .int 100, .int 1000000000000000000000000000000, .str "", .str "a", .str "form", .tuple [], .tuple [.int 1], .tuple [.int 0, .tuple [.int 1]], .tuple [.tuple [.int 1]], .int (-2)]
  obtain ⟨x, d', e, s', hx⟩ := pick k (xs := lst) h (by simp [lst]) (by simp [lst])
  refine ⟨x, d', ?_, s', ?_⟩
  · show evDef _ _ _ _ _ = _
    have z : (25 : Nat) ≤ sizeLine := by rw [sizeLine_eq]; decide
    have z0 : (0 : Nat) ≤ sizeLine := Nat.zero_le _
    have z1 : (1 : Nat) ≤ sizeLine := by omega
    have z2 : (2 : Nat) ≤ sizeLine := by omega
    simp only [lst] at e
    simp [evDef, sv, ev, Fl.of, Ev.val, Ev.no, Ev.itr, opd_pk, opd_io, opd_var, opd_cst, opd_glb, opd_op, opd_chn, opd_slc, opd_and, opd_or, opd_not, opd_ife, opd_call, opd_lc, Ou.bd, zOp, opdl, retains, rsl, Z.rs, frl, opD, binD, cmpD, Ou.of, slD, atI, ixN, eqv_int, shaped_int, dbl, dint, zVar, zPkT, putR, ownAt, R.sl, R.d, finD, truD, zCall, locT, cstC, argsS, argS, ioIx, afterCall, putBack, zAnd, zOr, zNot, zChn, zSlc, slcD, cutD, Tg.put, setAll, seqD, isTy_tt, fmtOk, fitL, zRng1, zRng2, smallI, zChn3, zLrg1, zLrg2, zEnm, zZip, opd_chn3, opd_lrg1, opd_lrg2, c__law_odd, T7, e, z, z0, z1, z2]
  · have all : ∀ y ∈ lst, okV 2 2 y ∧ sz y ≤ 6 := by
      intro y hy
      simp only [lst, List.mem_cons, List.not_mem_nil, or_false] at hy
      rcases hy with rfl | rfl | rfl | rfl | rfl | rfl | rfl | rfl | rfl | rfl | rfl | rfl | rfl | rfl | rfl | rfl | rfl | rfl | rfl | rfl | rfl | rfl | rfl | rfl | rfl <;> (refine ⟨?_, by simp [sz, szs]⟩; first
        | exact okV_atom trivial
        | exact okV_atom ⟨by decide +kernel, by decide +kernel⟩
        | (refine okV_tup (by simp) ?_; simp [okV, atom]))
    exact all x hx

/-! ### _law_spoilt -/
theorem cut_len (xs : List PyData) (lo hi : Option Int) : (cutD xs lo hi).length ≤ xs.length := by
  unfold cutD
  rw [List.length_take, List.length_drop]
  omega
theorem cut_mem {xs : List PyData} {lo hi : Option Int} {x : PyData} (h : x ∈ cutD xs lo hi) : x ∈ xs := List.mem_of_mem_drop (List.mem_of_mem_take h)
theorem F11a {b h K : Nat} {d v : PyData} (hd : St d) (ha : atom v) : ∃ v' d', Fd (K + 3) 11 [.pn d, .fz v] = .ret (.fr v') [d', .none] ∧ St d' ∧ okV (2 * b + 2) (h + 4) v' ∧ sz v' ≤ 2 * sz v + 6 := by
  obtain ⟨o, d1, e1, s1, ho, zo⟩ := odd K hd
  refine ⟨o, d1, ?_, s1, okV_mono (by omega) (by omega) ho, by omega⟩
  rw [U11]
  simp only [c__law_spoilt]
  have ht : isTy .tuple v = false := by cases v <;> first | rfl | exact ha.elim
  simp [evDef, sv, ev, Fl.of, Ev.val, Ev.no, Ev.itr, opd_pk, opd_io, opd_var, opd_cst, opd_glb, opd_op, opd_chn, opd_slc, opd_and, opd_or, opd_not, opd_ife, opd_call, opd_lc, Ou.bd, zOp, opdl, retains, rsl, Z.rs, frl, opD, binD, cmpD, Ou.of, slD, atI, ixN, eqv_int, shaped_int, dbl, dint, zVar, zPkT, putR, ownAt, R.sl, R.d, finD, truD, zCall, locT, cstC, argsS, argS, ioIx, afterCall, putBack, zAnd, zOr, zNot, zChn, zSlc, slcD, Tg.put, setAll, seqD, isTy_tt, fmtOk, fitL, zRng1, zRng2, smallI, zChn3, zLrg1, zLrg2, zEnm, zZip, opd_chn3, opd_lrg1, opd_lrg2, T10, e1, ht]
theorem F11b {b h K : Nat} (hz : 2 * b + 10 ≤ sizeLine) {d : PyData} {xs : List PyData} (hd : St d) (hl : xs.length ≤ b) (hx : ∀ x ∈ xs, okV b h x) (hemp : xs ≠ []) (v5 : Int) {d0 : PyData} (e5 : Fd (K + 2) 6 [.pn d0, .fz (.int 5)] = .ret (.fr (.int 0)) [d, .none]) :
    ∃ v' d', Fd (K + 3) 11 [.pn d0, .fz (.tuple xs)] = .ret (.fr v') [d', .none] ∧ St d' ∧ okV (2 * b + 2) (h + 1 + 4) v' ∧ sz v' ≤ 2 * sz (.tuple xs) + 6 := by
  obtain ⟨v2, d1, e2, s1, _, _⟩ := draw (K + 2) hd (m := 2) (by omega) (by omega)
  by_cases h0 : v2 = 0
  · subst h0
    obtain ⟨o, d2, e3, s2, ho, zo⟩ := odd K s1
    obtain ⟨r, d3, e4, s3, hr⟩ := pick (K + 1) (xs := [.tuple (xs ++ [o]), .tuple (cutD xs none (some (-1))), .tuple (cutD xs (some 1) none), .tuple (xs ++ cutD xs none (some 1)), .tuple xs.reverse, .tuple (xs ++ xs)]) s2 (by simp) (by simp)
    refine ⟨r, d3, ?_, s3, ?_, ?_⟩
    · rw [U11]
      simp only [c__law_spoilt]
      have c1 := cut_len xs none (some 1)
      have z1 : xs.length + 1 ≤ sizeLine := by omega
      have z2 : xs.length + (cutD xs none (some 1)).length ≤ sizeLine := by omega
      have z3 : xs.length + xs.length ≤ sizeLine := by omega
      have z6 : (6 : Nat) ≤ sizeLine := by omega
      have z7 : (1 : Nat) ≤ sizeLine := by omega
      have hemp2 : xs.isEmpty = false := by cases xs <;> first | rfl | exact absurd rfl hemp
      simp [evDef, sv, ev, Fl.of, Ev.val, Ev.no, Ev.itr, opd_pk, opd_io, opd_var, opd_cst, opd_glb, opd_op, opd_chn, opd_slc, opd_and, opd_or, opd_not, opd_ife, opd_call, opd_lc, Ou.bd, zOp, opdl, retains, rsl, Z.rs, frl, opD, binD, cmpD, Ou.of, slD, atI, ixN, eqv_int, shaped_int, dbl, dint, zVar, zPkT, putR, ownAt, R.sl, R.d, finD, truD, zCall, locT, cstC, argsS, argS, ioIx, afterCall, putBack, zAnd, zOr, zNot, zChn, zSlc, slcD, Tg.put, setAll, seqD, isTy_tt, fmtOk, fitL, zRng1, zRng2, smallI, zChn3, zLrg1, zLrg2, zEnm, zZip, opd_chn3, opd_lrg1, opd_lrg2, T6, T7, T10, e5, e2, e3, e4, hemp2, hemp, z1, z2, z3, z6, z7]
    · have up : ∀ ys : List PyData, ys.length ≤ 2 * b + 2 → (∀ y ∈ ys, y ∈ xs ∨ y = o) → okV (2 * b + 2) (h + 1 + 4) (.tuple ys) := fun ys h1 h2 => by
        refine okV_tup (h := h + 4) h1 fun y hy => ?_
        rcases h2 y hy with z | rfl
        · exact okV_mono (by omega) (by omega) (hx y z)
        · exact okV_mono (by omega) (by omega) ho
      simp only [List.mem_cons, List.not_mem_nil, or_false] at hr
      rcases hr with rfl | rfl | rfl | rfl | rfl | rfl
      · exact up _ (by simp; omega) fun y hy => by
          rcases List.mem_append.mp hy with z | z
          · exact .inl z
          · exact .inr (List.mem_singleton.mp z)
      · exact up _ (by have := cut_len xs none (some (-1)); omega) fun y hy => .inl (cut_mem hy)
      · exact up _ (by have := cut_len xs (some 1) none; omega) fun y hy => .inl (cut_mem hy)
      · exact up _ (by rw [List.length_append]; have := cut_len xs none (some 1); omega) fun y hy => by
          rcases List.mem_append.mp hy with z | z
          · exact .inl z
          · exact .inl (cut_mem z)
      · exact up _ (by rw [List.length_reverse]; omega) fun y hy => .inl (List.mem_reverse.mp hy)
      · exact up _ (by rw [List.length_append]; omega) fun y hy => by
          rcases List.mem_append.mp hy with z | z <;> exact .inl z
    · have c1 := szs_cut xs none (some (-1))
      have c2 := szs_cut xs (some 1) none
      have c3 := szs_cut xs none (some 1)
      simp only [List.mem_cons, List.not_mem_nil, or_false] at hr
      rcases hr with rfl | rfl | rfl | rfl | rfl | rfl <;> simp only [sz, szs, szs_app, szs_rev] <;> omega
  · obtain ⟨o, d2, e3, s2, ho, zo⟩ := odd K s1
    refine ⟨o, d2, ?_, s2, okV_mono (by omega) (by omega) ho, by omega⟩
    rw [U11]
    simp only [c__law_spoilt]
    have hemp2 : xs.isEmpty = false := by cases xs <;> first | rfl | exact absurd rfl hemp
    simp [evDef, sv, ev, Fl.of, Ev.val, Ev.no, Ev.itr, opd_pk, opd_io, opd_var, opd_cst, opd_glb, opd_op, opd_chn, opd_slc, opd_and, opd_or, opd_not, opd_ife, opd_call, opd_lc, Ou.bd, zOp, opdl, retains, rsl, Z.rs, frl, opD, binD, cmpD, Ou.of, slD, atI, ixN, eqv_int, shaped_int, dbl, dint, zVar, zPkT, putR, ownAt, R.sl, R.d, finD, truD, zCall, locT, cstC, argsS, argS, ioIx, afterCall, putBack, zAnd, zOr, zNot, zChn, zSlc, slcD, Tg.put, setAll, seqD, isTy_tt, fmtOk, fitL, zRng1, zRng2, smallI, zChn3, zLrg1, zLrg2, zEnm, zZip, opd_chn3, opd_lrg1, opd_lrg2, T6, T7, T10, e5, e2, e3, hemp2, hemp, h0]
theorem F11n {b h K : Nat} (hz : 2 * b + 10 ≤ sizeLine) {d : PyData} (hd : St d) : ∃ v' d', Fd (K + 3) 11 [.pn d, .fz (.tuple [])] = .ret (.fr v') [d', .none] ∧ St d' ∧ okV (2 * b + 2) (h + 1 + 4) v' ∧ sz v' ≤ 2 * sz (.tuple []) + 6 := by
  obtain ⟨v2, d1, e2, s1, _, _⟩ := draw (K + 2) hd (m := 2) (by omega) (by omega)
  by_cases h0 : v2 = 0
  · subst h0
    obtain ⟨o, d2, e3, s2, ho, zo⟩ := odd K s1
    obtain ⟨r, d3, e4, s3, hr⟩ := pick (K + 1) (xs := [.tuple [o], .tuple (cutD [] none (some (-1))), .tuple (cutD [] (some 1) none), .tuple (cutD [] none (some 1)), .tuple [], .tuple []]) s2 (by simp) (by simp)
    refine ⟨r, d3, ?_, s3, ?_, ?_⟩
    · rw [U11]
      simp only [c__law_spoilt]
      have c1 := cut_len [] none (some 1)
      have z2 : (cutD [] none (some 1)).length ≤ sizeLine := by simp at c1; rw [c1]; exact Nat.zero_le _
      have z6 : (6 : Nat) ≤ sizeLine := by omega
      have z7 : (1 : Nat) ≤ sizeLine := by omega
      simp [evDef, sv, ev, Fl.of, Ev.val, Ev.no, Ev.itr, opd_pk, opd_io, opd_var, opd_cst, opd_glb, opd_op, opd_chn, opd_slc, opd_and, opd_or, opd_not, opd_ife, opd_call, opd_lc, Ou.bd, zOp, opdl, retains, rsl, Z.rs, frl, opD, binD, cmpD, Ou.of, slD, atI, ixN, eqv_int, shaped_int, dbl, dint, zVar, zPkT, putR, ownAt, R.sl, R.d, finD, truD, zCall, locT, cstC, argsS, argS, ioIx, afterCall, putBack, zAnd, zOr, zNot, zChn, zSlc, slcD, Tg.put, setAll, seqD, isTy_tt, fmtOk, fitL, zRng1, zRng2, smallI, zChn3, zLrg1, zLrg2, zEnm, zZip, opd_chn3, opd_lrg1, opd_lrg2, T6, T7, T10, e2, e3, e4, z2, z6, z7]
    · have up : ∀ ys : List PyData, ys.length ≤ 2 * b + 2 → (∀ y ∈ ys, y = o) → okV (2 * b + 2) (h + 1 + 4) (.tuple ys) := fun ys h1 h2 => by
        refine okV_tup (h := h + 4) h1 fun y hy => ?_
        rw [h2 y hy]
        exact okV_mono (by omega) (by omega) ho
      have no : ∀ {lo hi : Option Int} {y : PyData}, y ∈ cutD [] lo hi → y = o := fun hy => by have := cut_mem hy; cases this
      simp only [List.mem_cons, List.not_mem_nil, or_false] at hr
      rcases hr with rfl | rfl | rfl | rfl | rfl | rfl
      · exact up _ (by simp) fun y hy => List.mem_singleton.mp hy
      · exact up _ (by have := cut_len [] none (some (-1)); simp at this; rw [this]; simp) fun y hy => no hy
      · exact up _ (by have := cut_len [] (some 1) none; simp at this; rw [this]; simp) fun y hy => no hy
      · exact up _ (by have := cut_len [] none (some 1); simp at this; rw [this]; simp) fun y hy => no hy
      · exact up _ (by simp) fun y hy => by cases hy
      · exact up _ (by simp) fun y hy => by cases hy
    · have c1 := szs_cut [] none (some (-1))
      have c2 := szs_cut [] (some 1) none
      have c3 := szs_cut [] none (some 1)
      simp only [szs] at c1 c2 c3
      simp only [List.mem_cons, List.not_mem_nil, or_false] at hr
      rcases hr with rfl | rfl | rfl | rfl | rfl | rfl <;> simp only [sz, szs] <;> omega
  · obtain ⟨o, d2, e3, s2, ho, zo⟩ := odd K s1
    refine ⟨o, d2, ?_, s2, okV_mono (by omega) (by omega) ho, by omega⟩
    rw [U11]
    simp only [c__law_spoilt]
    simp [evDef, sv, ev, Fl.of, Ev.val, Ev.no, Ev.itr, opd_pk, opd_io, opd_var, opd_cst, opd_glb, opd_op, opd_chn, opd_slc, opd_and, opd_or, opd_not, opd_ife, opd_call, opd_lc, Ou.bd, zOp, opdl, retains, rsl, Z.rs, frl, opD, binD, cmpD, Ou.of, slD, atI, ixN, eqv_int, shaped_int, dbl, dint, zVar, zPkT, putR, ownAt, R.sl, R.d, finD, truD, zCall, locT, cstC, argsS, argS, ioIx, afterCall, putBack, zAnd, zOr, zNot, zChn, zSlc, slcD, Tg.put, setAll, seqD, isTy_tt, fmtOk, fitL, zRng1, zRng2, smallI, zChn3, zLrg1, zLrg2, zEnm, zZip, opd_chn3, opd_lrg1, opd_lrg2, T6, T7, T10, e2, e3, h0]
theorem F11 (b : Nat) (hz : 2 * b + 10 ≤ sizeLine) (hb : b < 1073741824) : ∀ (h K : Nat), h ≤ K → ∀ d v, St d → okV b h v → ∃ v' d', Fd (K + 3) 11 [.pn d, .fz v] = .ret (.fr v') [d', .none] ∧ St d' ∧ okV (2 * b + 2) (h + 4) v' ∧ sz v' ≤ 2 * sz v + 6
  | 0, K, _, d, v, hd, q => F11a hd q
  | h + 1, 0, hk, _, _, _, _ => by omega
  | h + 1, K + 1, hk, d, v, hd, q => by
    rcases q with q | ⟨xs, rfl, hl, hx⟩
    · exact F11a hd q
    · by_cases hemp : xs = []
      · subst hemp
        exact F11n hz hd
      · obtain ⟨v5, d1, e5, s1, _, _⟩ := draw (K + 3) hd (m := 5) (by omega) (by omega)
        by_cases h0 : v5 = 0
        · subst h0
          exact F11b (K := K + 1) hz s1 hl hx hemp 0 e5
        · have hlen : 1 ≤ xs.length := by cases xs with
            | nil => exact absurd rfl hemp
            | cons _ _ => simp
          obtain ⟨a, d2, e6, s2, a0, a1⟩ := draw (K + 3) s1 (m := xs.length) (by omega) (by omega)
          have ha : a.toNat < xs.length := by omega
          obtain ⟨v', d3, e7, s3, hv, zv⟩ := F11 b hz hb h K (by omega) d2 xs[a.toNat] s2 (hx _ (List.getElem_mem ha))
          refine ⟨.tuple (cutD xs none (some a) ++ [v'] ++ cutD xs (some (a + 1)) none), d3, ?_, s3, ?_, ?_⟩
          · rw [U11]
            simp only [c__law_spoilt]
            have c1 := cut_len xs none (some a)
            have c2 := cut_len xs (some (a + 1)) none
            have z1 : (cutD xs none (some a)).length + 1 ≤ sizeLine := by omega
            have z2 : (cutD xs none (some a)).length + 1 + (cutD xs (some (a + 1)) none).length ≤ sizeLine := by omega
            have z2' : (cutD xs none (some a)).length + ((cutD xs (some (a + 1)) none).length + 1) ≤ sizeLine := by omega
            have z7 : (1 : Nat) ≤ sizeLine := by omega
            have hemp2 : xs.isEmpty = false := by cases xs <;> first | rfl | exact absurd rfl hemp
            simp [evDef, sv, ev, Fl.of, Ev.val, Ev.no, Ev.itr, opd_pk, opd_io, opd_var, opd_cst, opd_glb, opd_op, opd_chn, opd_slc, opd_and, opd_or, opd_not, opd_ife, opd_call, opd_lc, Ou.bd, zOp, opdl, retains, rsl, Z.rs, frl, opD, binD, cmpD, Ou.of, slD, atI, ixN, eqv_int, shaped_int, dbl, dint, zVar, zPkT, putR, ownAt, R.sl, R.d, finD, truD, zCall, locT, cstC, argsS, argS, ioIx, afterCall, putBack, zAnd, zOr, zNot, zChn, zSlc, slcD, Tg.put, setAll, seqD, isTy_tt, fmtOk, fitL, zRng1, zRng2, smallI, zChn3, zLrg1, zLrg2, zEnm, zZip, opd_chn3, opd_lrg1, opd_lrg2, T6, T11, e5, e6, e7, hemp2, hemp, h0, a0, a1, ha, z1, z2, z2', z7]
          · refine okV_tup (h := h + 4) ?_ fun y hy => ?_
            · have c1 := cut_len xs none (some a)
              have c2 := cut_len xs (some (a + 1)) none
              simp
              omega
            · simp only [List.mem_append, List.mem_singleton] at hy
              rcases hy with (hy | rfl) | hy
              · exact okV_mono (by omega) (by omega) (hx y (cut_mem hy))
              · exact hv
              · exact okV_mono (by omega) (by omega) (hx y (cut_mem hy))
          · rw [cut_pre a0 a1, cut_suf a0 a1]
            have g := szs_get ha
            simp only [sz, szs, szs_app] at zv ⊢
            omega
end Z

set_option Elab.async false
set_option linter.all false
set_option maxRecDepth 100000
set_option maxHeartbeats 0
namespace Z
open PySem PySem.Spec PyProof.Rows L2
/-! ## words -/
def factsD : List PyData := [.str "buffer", .str "piece", .str "last", .str "units", .str "rates"]
def pairsD : List PyData := [.str "add", .str "sub", .str "mul", .str "least", .str "most"]
def testsD : List PyData := [.str "less", .str "equal"]
def joinsD : List PyData := [.str "both", .str "either"]
def npD : List PyData := [.str "number", .str "part"]
def j3D : List PyData := [.str "both", .str "either", .str "no"]
def bsOf (op : Str) : List Bool := [inL factsD op, isS op "number", inL pairsD op, isS op "part", isS op "cond", inL testsD op, inL joinsD op, isS op "no", inL npD op, inL j3D op]
theorem eqv_str (a b : Str) : PyData.eqv (.str a) (.str b) = decide (a = b) := by
  by_cases h : a = b
  · subst h; simp [PyData.eqv]
  · simp [PyData.eqv, h]
theorem bs_cases (op : Str) : bsOf op = [true, false, false, false, false, false, false, false, false, false] ∨ bsOf op = [false, true, false, false, false, false, false, false, true, false] ∨ bsOf op = [false, false, true, false, false, false, false, false, false, false] ∨
    bsOf op = [false, false, false, true, false, false, false, false, true, false] ∨ bsOf op = [false, false, false, false, true, false, false, false, false, false] ∨ bsOf op = [false, false, false, false, false, true, false, false, false, false] ∨
    bsOf op = [false, false, false, false, false, false, true, false, false, true] ∨ bsOf op = [false, false, false, false, false, false, false, true, false, true] ∨ bsOf op = [false, false, false, false, false, false, false, false, false, false] := by
  by_cases h1 : op = "buffer"
  · subst h1; left; decide +kernel
  by_cases h2 : op = "piece"
  · subst h2; left; decide +kernel
  by_cases h3 : op = "last"
  · subst h3; left; decide +kernel
  by_cases h4 : op = "units"
  · subst h4; left; decide +kernel
  by_cases h5 : op = "rates"
  · subst h5; left; decide +kernel
  by_cases h6 : op = "number"
  · subst h6; right; left; decide +kernel
  by_cases h7 : op = "add"
  · subst h7; right; right; left; decide +kernel
  by_cases h8 : op = "sub"
  · subst h8; right; right; left; decide +kernel
  by_cases h9 : op = "mul"
  · subst h9; right; right; left; decide +kernel
  by_cases h10 : op = "least"
  · subst h10; right; right; left; decide +kernel
  by_cases h11 : op = "most"
  · subst h11; right; right; left; decide +kernel
  by_cases h12 : op = "part"
  · subst h12; right; right; right; left; decide +kernel
  by_cases h13 : op = "cond"
  · subst h13; right; right; right; right; left; decide +kernel
  by_cases h14 : op = "less"
  · subst h14; right; right; right; right; right; left; decide +kernel
  by_cases h15 : op = "equal"
  · subst h15; right; right; right; right; right; left; decide +kernel
  by_cases h16 : op = "both"
  · subst h16; right; right; right; right; right; right; left; decide +kernel
  by_cases h17 : op = "either"
  · subst h17; right; right; right; right; right; right; left; decide +kernel
  by_cases h18 : op = "no"
  · subst h18; right; right; right; right; right; right; right; left; decide +kernel
  right; right; right; right; right; right; right; right
  have n : ∀ s : Str, op ≠ s → decide (s = op) = false := fun s h => decide_eq_false fun z => h z.symm
  simp only [bsOf, inL, isS, factsD, pairsD, testsD, joinsD, npD, j3D, List.any_cons, List.any_nil, eqv_str, n _ h1, n _ h2, n _ h3, n _ h4, n _ h5, n _ h6, n _ h7, n _ h8, n _ h9, n _ h10, n _ h11, n _ h12, n _ h13, n _ h14, n _ h15, n _ h16, n _ h17, n _ h18, decide_eq_false h6, decide_eq_false h12, decide_eq_false h13, decide_eq_false h18, Bool.or_self]
theorem sh_facts : SeqAt.shaped (.tuple factsD) = true := by decide +kernel
theorem sh_pairs : SeqAt.shaped (.tuple pairsD) = true := by decide +kernel
theorem sh_tests : SeqAt.shaped (.tuple testsD) = true := by decide +kernel
theorem sh_joins : SeqAt.shaped (.tuple joinsD) = true := by decide +kernel
theorem sh_number : SeqAt.shaped (.str "number") = true := by decide +kernel
theorem sh_part : SeqAt.shaped (.str "part") = true := by decide +kernel
theorem sh_cond : SeqAt.shaped (.str "cond") = true := by decide +kernel
theorem sh_no : SeqAt.shaped (.str "no") = true := by decide +kernel
def isI (x : PyData) : Bool := isTy .int x && !isTy .bool x
theorem F0' (k : Nat) (x : PyData) : Fd k 0 [.fz x] = .ret (.fr (.bool (isI x))) [.none] := by cases x <;> rfl
theorem F19' (k : Nat) (x : PyData) : Fd k 19 [.fz x] = .ret (.fr (.bool (isI x))) [.none] := by cases x <;> rfl
theorem isI_int {x : PyData} (h : isI x = true) : ∃ i, x = .int i := by
  cases x <;> first | exact ⟨_, rfl⟩ | (cases h; done)
/-! ## the form of rules and tests -/
def numL (w1 w2 : PyData → Bool) (op : Str) (rest : List PyData) : Bool :=
  if inL factsD op then rest.isEmpty
  else if isS op "number" then (match rest with | [n] => isI n | _ => false)
  else if inL pairsD op then (match rest with | [a, b] => w1 a && w1 b | _ => false)
  else if isS op "part" then (match rest with | [a, n] => w1 a && isI n | _ => false)
  else if isS op "cond" then (match rest with | [t, a, b] => w2 t && (w1 a && w1 b) | _ => false)
  else false
def tstL (w1 w2 : PyData → Bool) (op : Str) (rest : List PyData) : Bool :=
  if inL testsD op then (match rest with | [a, b] => w1 a && w1 b | _ => false)
  else if inL joinsD op then (match rest with | [a, b] => w2 a && w2 b | _ => false)
  else isS op "no" && (match rest with | [a] => w2 a | _ => false)
def wf : Nat → Bool → PyData → Bool
  | 0, _, _ => false
  | d + 1, s, v => match v with
    | .tuple (.str op :: rest) => if s then numL (wf d true) (wf d false) op rest else tstL (wf d true) (wf d false) op rest
    | _ => false
/-- x[j], depth - 1 handed to a def -/
theorem c2 {T : Tb} {C : Nat → Option PyData} {g k id : Nat} {xs : List PyData} {m j : Int} {x : PyData} {w : PyData → Bool} {s2 : Sl} (hT : T g = some (2, Fd k id)) (hx : atI xs j = some x) (h : Fd k id [.fz x, .fz (.int (m - 1))] = .ret (.fr (.bool (w x))) [.none, .none]) :
    (ev T C (.call g (.cons (.op .idx (.cons (.pk 0) (.cons (.cst (.int j)) .nil))) (.cons (.op (.bin .sub) (.cons (.pk 1) (.cons (.cst (.int 1)) .nil))) .nil)))).e [.fz (.tuple xs), .fz (.int m), s2] = .ok (dbl (w x)) [.fz (.tuple xs), .fz (.int m), s2] :=
  e_call2 hT (op_of (fun _ _ => rfl) (e_at rfl hx)) (op_of (fun _ _ => rfl) (e_dec rfl)) h rfl
theorem c1 {T : Tb} {C : Nat → Option PyData} {g k id : Nat} {xs : List PyData} {j : Int} {x : PyData} {w : PyData → Bool} {s1 s2 : Sl} (hT : T g = some (1, Fd k id)) (hx : atI xs j = some x) (h : Fd k id [.fz x] = .ret (.fr (.bool (w x))) [.none]) :
    (ev T C (.call g (.cons (.op .idx (.cons (.pk 0) (.cons (.cst (.int j)) .nil))) .nil))).e [.fz (.tuple xs), s1, s2] = .ok (dbl (w x)) [.fz (.tuple xs), s1, s2] :=
  e_call1 hT (op_of (fun _ _ => rfl) (e_at rfl hx)) h rfl
theorem and2 {T : Tb} {C : Nat → Option PyData} {a b : E} {n : En} {x y : Bool} (ha : (ev T C a).e n = .ok (dbl x) n) (hb : x = true → (ev T C b).e n = .ok (dbl y) n) : (ev T C (.and a b)).e n = .ok (dbl (x && y)) n := by
  cases x with
  | true => exact e_and_t ha (hb rfl)
  | false => exact e_and_f ha
theorem or2t {T : Tb} {C : Nat → Option PyData} {a b : E} {n : En} {x y : Bool} (ha : (ev T C a).t n = .ok x n) (hb : x = false → (ev T C b).t n = .ok y n) : (ev T C (.or a b)).t n = .ok (x || y) n := by
  cases x with
  | true => exact t_or_t ha
  | false => exact t_or_f ha (hb rfl)
theorem and2t {T : Tb} {C : Nat → Option PyData} {a b : E} {n : En} {x y : Bool} (ha : (ev T C a).t n = .ok x n) (hb : x = true → (ev T C b).t n = .ok y n) : (ev T C (.and a b)).t n = .ok (x && y) n := by
  cases x with
  | true => exact t_and_t ha (hb rfl)
  | false => exact t_and_f ha
/-- the look ahead of all -/
theorem cond0 {T : Tb} {C : Nat → Option PyData} {op : Str} {rest : List PyData} {m : Int} (h1 : ¬ m < 1) (s2 : Sl) : (ev T C (.or (.op (.cmp .lt) (.cons (.pk 1) (.cons (.cst (.int 1)) .nil))) (.or (.not (.op (.isi .tuple) (.cons (.pk 0) .nil))) (.or (.not (.pk 0)) (.not (.op (.isi .str) (.cons (.op .idx (.cons (.pk 0) (.cons (.cst (.int 0)) .nil))) .nil))))))).t [.fz (.tuple (.str op :: rest)), .fz (.int m), s2] = .ok false [.fz (.tuple (.str op :: rest)), .fz (.int m), s2] := by
  have ht : isTy .str (.str op) = true := rfl
  simp [evDef, sv, ev, Fl.of, Ev.val, Ev.no, Ev.itr, opd_pk, opd_io, opd_var, opd_cst, opd_glb, opd_op, opd_chn, opd_slc, opd_and, opd_or, opd_not, opd_ife, opd_call, opd_lc, Ou.bd, zOp, opdl, retains, rsl, Z.rs, frl, opD, binD, cmpD, Ou.of, slD, atI, ixN, eqv_int, shaped_int, dbl, dint, zVar, zPkT, putR, ownAt, R.sl, R.d, finD, truD, zCall, locT, cstC, argsS, argS, ioIx, afterCall, putBack, zAnd, zOr, zNot, zChn, zSlc, slcD, cutD, Tg.put, setAll, seqD, isTy_tt, fmtOk, fitL, zRng1, zRng2, smallI, zChn3, zLrg1, zLrg2, zEnm, zZip, opd_chn3, opd_lrg1, opd_lrg2, h1, ht]
theorem len3 (x : PyData) (rest : List PyData) (j : Int) : decide ((((x :: rest).length : Nat) : Int) = j) = decide ((rest.length : Int) + 1 = j) := by simp
theorem F1s (k : Nat) {m : Int} (h1 : ¬ m < 1) {op : Str} (ho : SeqAt.shaped (.str op) = true) {rest : List PyData} {w1 w2 : PyData → Bool} (e1 : ∀ x ∈ rest, Fd k 1 [.fz x, .fz (.int (m - 1))] = .ret (.fr (.bool (w1 x))) [.none, .none]) (e2 : ∀ x ∈ rest, Fd k 2 [.fz x, .fz (.int (m - 1))] = .ret (.fr (.bool (w2 x))) [.none, .none]) :
    Fd (k + 1) 1 [.fz (.tuple (.str op :: rest)), .fz (.int m)] = .ret (.fr (.bool (numL w1 w2 op rest))) [.none, .none] := by
  have t0 : locT c_is_number.calls (tbl cs (k + 1)) 0 = some (1, Fd k 0) := rfl
  have t1 : locT c_is_number.calls (tbl cs (k + 1)) 1 = some (2, Fd k 1) := rfl
  have t2 : locT c_is_number.calls (tbl cs (k + 1)) 2 = some (2, Fd k 2) := rfl
  have g0 : cstC c_is_number.gcs 0 = some (.tuple factsD) := rfl
  have g1 : cstC c_is_number.gcs 1 = some (.tuple pairsD) := rfl
  have e0 := F0' k
  rw [U1]
  refine def_rt (m := 3) (ss := [.fz (.tuple (.str op :: rest)), .fz (.int m)]) (n1 := [.fz (.tuple (.str op :: rest)), .fz (.int m), .fz (.str op)]) ?_
  generalize locT c_is_number.calls (tbl cs (k + 1)) = T at *
  generalize cstC c_is_number.gcs = C at *
  show sv T C c_is_number.body [.fz (.tuple (.str op :: rest)), .fz (.int m), .un] = _
  refine sv_nx (sv_iff (cond0 h1 .un) sv_end) ?_
  refine sv_nx (n1 := [.fz (.tuple (.str op :: rest)), .fz (.int m), .fz (.str op)]) (sv_set (r := .fr (.str op)) (n1 := [.fz (.tuple (.str op :: rest)), .fz (.int m), .un]) (t := .un) (e_at rfl (atI0 _ _)) rfl rfl) ?_
  have q0 := t_inG (T := T) (C := C) (n := [.fz (.tuple (.str op :: rest)), .fz (.int m), .fz (.str op)]) (i := 2) rfl g0 ho sh_facts
  have q1 := t_eqS (T := T) (C := C) (n := [.fz (.tuple (.str op :: rest)), .fz (.int m), .fz (.str op)]) (i := 2) rfl ho sh_number
  have q2 := t_inG (T := T) (C := C) (n := [.fz (.tuple (.str op :: rest)), .fz (.int m), .fz (.str op)]) (i := 2) rfl g1 ho sh_pairs
  have q3 := t_eqS (T := T) (C := C) (n := [.fz (.tuple (.str op :: rest)), .fz (.int m), .fz (.str op)]) (i := 2) rfl ho sh_part
  have q4 := t_neS (T := T) (C := C) (n := [.fz (.tuple (.str op :: rest)), .fz (.int m), .fz (.str op)]) (i := 2) rfl ho sh_cond
  have ln := fun j => e_lenIs (T := T) (C := C) (n := [.fz (.tuple (.str op :: rest)), .fz (.int m), .fz (.str op)]) (i := 0) (xs := .str op :: rest) (j := j) rfl
  have lnt := t_lenNe (T := T) (C := C) (n := [.fz (.tuple (.str op :: rest)), .fz (.int m), .fz (.str op)]) (i := 0) (xs := .str op :: rest) (j := 4) rfl
  unfold numL
  cases b0 : inL factsD op <;> rw [b0] at q0
  · rw [if_neg Bool.false_ne_true]
    refine sv_nx (sv_iff q0 sv_end) ?_
    cases b1 : isS op "number" <;> rw [b1] at q1
    · rw [if_neg Bool.false_ne_true]
      refine sv_nx (sv_iff q1 sv_end) ?_
      cases b2 : inL pairsD op <;> rw [b2] at q2
      · rw [if_neg Bool.false_ne_true]
        refine sv_nx (sv_iff q2 sv_end) ?_
        cases b3 : isS op "part" <;> rw [b3] at q3
        · rw [if_neg Bool.false_ne_true]
          refine sv_nx (sv_iff q3 sv_end) ?_
          cases b4 : isS op "cond" <;> rw [b4] at q4
          · rw [if_neg Bool.false_ne_true]
            exact sv_rt (sv_ift (t_or_t q4) (sv_rt rfl))
          · rw [if_pos rfl]
            rcases rest with _ | ⟨x1, _ | ⟨x2, _ | ⟨x3, _ | ⟨x4, rest⟩⟩⟩⟩
            · exact sv_rt (sv_ift (t_or_f q4 (t_or_t lnt)) (sv_rt rfl))
            · exact sv_rt (sv_ift (t_or_f q4 (t_or_t lnt)) (sv_rt rfl))
            · exact sv_rt (sv_ift (t_or_f q4 (t_or_t lnt)) (sv_rt rfl))
            · have f1 := c2 (T := T) (C := C) (g := 2) (s2 := .fz (.str op)) (m := m) (xs := [.str op, x1, x2, x3]) (j := 1) (x := x1) (w := w2) t2 rfl (e2 x1 (by simp))
              have f2 := c2 (T := T) (C := C) (g := 1) (s2 := .fz (.str op)) (m := m) (xs := [.str op, x1, x2, x3]) (j := 2) (x := x2) (w := w1) t1 rfl (e1 x2 (by simp))
              have f3 := c2 (T := T) (C := C) (g := 1) (s2 := .fz (.str op)) (m := m) (xs := [.str op, x1, x2, x3]) (j := 3) (x := x3) (w := w1) t1 rfl (e1 x3 (by simp))
              have f1t : (ev T C (.call 2 (.cons (.op .idx (.cons (.pk 0) (.cons (.cst (.int 1)) .nil))) (.cons (.op (.bin .sub) (.cons (.pk 1) (.cons (.cst (.int 1)) .nil))) .nil)))).t [.fz (.tuple [.str op, x1, x2, x3]), .fz (.int m), .fz (.str op)] = .ok (w2 x1) [.fz (.tuple [.str op, x1, x2, x3]), .fz (.int m), .fz (.str op)] := by
                show ((ev T C (.call 2 _)).e _).bd (fun r n1 => .of (truD r.d) n1) = _
                rw [f1]; rfl
              dsimp only
              cases g : w2 x1 <;> rw [g] at f1t
              · exact sv_rt (sv_ift (t_or_f q4 (t_or_f lnt (t_notB f1t))) (sv_rt rfl))
              · refine sv_nx (sv_iff (t_or_f q4 (t_or_f lnt (t_notB f1t))) sv_end) ?_
                have z := sv_rt (r := .nil) (sv_ret (and2 f2 fun _ => f3))
                exact z
            · have hl : decide ((((PyData.str op :: x1 :: x2 :: x3 :: x4 :: rest).length : Nat) : Int) = 4) = false := decide_eq_false (by simp; omega)
              rw [hl] at lnt
              exact sv_rt (sv_ift (t_or_f q4 (t_or_t lnt)) (sv_rt rfl))
        · rw [if_pos rfl]
          refine sv_rt (sv_ift q3 (sv_rt (sv_ret ?_)))
          rcases rest with _ | ⟨x1, _ | ⟨x2, _ | ⟨x3, rest⟩⟩⟩
          · exact e_and_f (ln 3)
          · exact e_and_f (ln 3)
          · have f1 := c2 (T := T) (C := C) (g := 1) (s2 := .fz (.str op)) (m := m) (xs := [.str op, x1, x2]) (j := 1) (x := x1) (w := w1) t1 rfl (e1 x1 (by simp))
            have f2 := c1 (T := T) (C := C) (g := 0) (s1 := .fz (.int m)) (s2 := .fz (.str op)) (xs := [.str op, x1, x2]) (j := 2) (x := x2) (w := isI) t0 rfl (e0 x2)
            exact e_and_t (ln 3) (and2 f1 fun _ => f2)
          · have l3 := ln 3
            rw [decide_eq_false (show ¬ ((((PyData.str op :: x1 :: x2 :: x3 :: rest).length : Nat) : Int) = 3) by simp; omega)] at l3
            exact e_and_f l3
      · rw [if_pos rfl]
        refine sv_rt (sv_ift q2 (sv_rt (sv_ret ?_)))
        rcases rest with _ | ⟨x1, _ | ⟨x2, _ | ⟨x3, rest⟩⟩⟩
        · exact e_and_f (ln 3)
        · exact e_and_f (ln 3)
        · have f1 := c2 (T := T) (C := C) (g := 1) (s2 := .fz (.str op)) (m := m) (xs := [.str op, x1, x2]) (j := 1) (x := x1) (w := w1) t1 rfl (e1 x1 (by simp))
          have f2 := c2 (T := T) (C := C) (g := 1) (s2 := .fz (.str op)) (m := m) (xs := [.str op, x1, x2]) (j := 2) (x := x2) (w := w1) t1 rfl (e1 x2 (by simp))
          exact e_and_t (ln 3) (and2 f1 fun _ => f2)
        · have l3 := ln 3
          rw [decide_eq_false (show ¬ ((((PyData.str op :: x1 :: x2 :: x3 :: rest).length : Nat) : Int) = 3) by simp; omega)] at l3
          exact e_and_f l3
    · rw [if_pos rfl]
      refine sv_rt (sv_ift q1 (sv_rt (sv_ret ?_)))
      rcases rest with _ | ⟨x1, _ | ⟨x2, rest⟩⟩
      · exact e_and_f (ln 2)
      · have f1 := c1 (T := T) (C := C) (g := 0) (s1 := .fz (.int m)) (s2 := .fz (.str op)) (xs := [.str op, x1]) (j := 1) (x := x1) (w := isI) t0 rfl (e0 x1)
        exact e_and_t (ln 2) f1
      · have l3 := ln 2
        rw [decide_eq_false (show ¬ ((((PyData.str op :: x1 :: x2 :: rest).length : Nat) : Int) = 2) by simp; omega)] at l3
        exact e_and_f l3
  · rw [if_pos rfl]
    refine sv_rt (sv_ift q0 (sv_rt (sv_ret ?_)))
    rcases rest with _ | ⟨x1, rest⟩
    · exact ln 1
    · have l3 := ln 1
      rw [decide_eq_false (show ¬ ((((PyData.str op :: x1 :: rest).length : Nat) : Int) = 1) by simp; omega)] at l3
      exact l3
theorem F2s (k : Nat) {m : Int} (h1 : ¬ m < 1) {op : Str} (ho : SeqAt.shaped (.str op) = true) {rest : List PyData} {w1 w2 : PyData → Bool} (e1 : ∀ x ∈ rest, Fd k 1 [.fz x, .fz (.int (m - 1))] = .ret (.fr (.bool (w1 x))) [.none, .none]) (e2 : ∀ x ∈ rest, Fd k 2 [.fz x, .fz (.int (m - 1))] = .ret (.fr (.bool (w2 x))) [.none, .none]) :
    Fd (k + 1) 2 [.fz (.tuple (.str op :: rest)), .fz (.int m)] = .ret (.fr (.bool (tstL w1 w2 op rest))) [.none, .none] := by
  have t1 : locT c_is_test.calls (tbl cs (k + 1)) 0 = some (2, Fd k 1) := rfl
  have t2 : locT c_is_test.calls (tbl cs (k + 1)) 1 = some (2, Fd k 2) := rfl
  have g0 : cstC c_is_test.gcs 0 = some (.tuple testsD) := rfl
  have g1 : cstC c_is_test.gcs 1 = some (.tuple joinsD) := rfl
  rw [U2]
  refine def_rt (m := 3) (ss := [.fz (.tuple (.str op :: rest)), .fz (.int m)]) (n1 := [.fz (.tuple (.str op :: rest)), .fz (.int m), .fz (.str op)]) ?_
  generalize locT c_is_test.calls (tbl cs (k + 1)) = T at *
  generalize cstC c_is_test.gcs = C at *
  show sv T C c_is_test.body [.fz (.tuple (.str op :: rest)), .fz (.int m), .un] = _
  refine sv_nx (sv_iff (cond0 h1 .un) sv_end) ?_
  refine sv_nx (n1 := [.fz (.tuple (.str op :: rest)), .fz (.int m), .fz (.str op)]) (sv_set (r := .fr (.str op)) (n1 := [.fz (.tuple (.str op :: rest)), .fz (.int m), .un]) (t := .un) (e_at rfl (atI0 _ _)) rfl rfl) ?_
  have q0 := t_inG (T := T) (C := C) (n := [.fz (.tuple (.str op :: rest)), .fz (.int m), .fz (.str op)]) (i := 2) rfl g0 ho sh_tests
  have q1 := t_inG (T := T) (C := C) (n := [.fz (.tuple (.str op :: rest)), .fz (.int m), .fz (.str op)]) (i := 2) rfl g1 ho sh_joins
  have q2 := e_eqS (T := T) (C := C) (n := [.fz (.tuple (.str op :: rest)), .fz (.int m), .fz (.str op)]) (i := 2) rfl ho sh_no
  have ln := fun j => e_lenIs (T := T) (C := C) (n := [.fz (.tuple (.str op :: rest)), .fz (.int m), .fz (.str op)]) (i := 0) (xs := .str op :: rest) (j := j) rfl
  unfold tstL
  cases b0 : inL testsD op <;> rw [b0] at q0
  · rw [if_neg Bool.false_ne_true]
    refine sv_nx (sv_iff q0 sv_end) ?_
    cases b1 : inL joinsD op <;> rw [b1] at q1
    · rw [if_neg Bool.false_ne_true]
      refine sv_nx (sv_iff q1 sv_end) (sv_rt (sv_ret ?_))
      refine and2 q2 fun _ => ?_
      rcases rest with _ | ⟨x1, _ | ⟨x2, rest⟩⟩
      · exact e_and_f (ln 2)
      · have f1 := c2 (T := T) (C := C) (g := 1) (s2 := .fz (.str op)) (m := m) (xs := [.str op, x1]) (j := 1) (x := x1) (w := w2) t2 rfl (e2 x1 (by simp))
        exact e_and_t (ln 2) f1
      · have l3 := ln 2
        rw [decide_eq_false (show ¬ ((((PyData.str op :: x1 :: x2 :: rest).length : Nat) : Int) = 2) by simp; omega)] at l3
        exact e_and_f l3
    · rw [if_pos rfl]
      refine sv_rt (sv_ift q1 (sv_rt (sv_ret ?_)))
      rcases rest with _ | ⟨x1, _ | ⟨x2, _ | ⟨x3, rest⟩⟩⟩
      · exact e_and_f (ln 3)
      · exact e_and_f (ln 3)
      · have f1 := c2 (T := T) (C := C) (g := 1) (s2 := .fz (.str op)) (m := m) (xs := [.str op, x1, x2]) (j := 1) (x := x1) (w := w2) t2 rfl (e2 x1 (by simp))
        have f2 := c2 (T := T) (C := C) (g := 1) (s2 := .fz (.str op)) (m := m) (xs := [.str op, x1, x2]) (j := 2) (x := x2) (w := w2) t2 rfl (e2 x2 (by simp))
        exact e_and_t (ln 3) (and2 f1 fun _ => f2)
      · have l3 := ln 3
        rw [decide_eq_false (show ¬ ((((PyData.str op :: x1 :: x2 :: x3 :: rest).length : Nat) : Int) = 3) by simp; omega)] at l3
        exact e_and_f l3
  · rw [if_pos rfl]
    refine sv_rt (sv_ift q0 (sv_rt (sv_ret ?_)))
    rcases rest with _ | ⟨x1, _ | ⟨x2, _ | ⟨x3, rest⟩⟩⟩
    · exact e_and_f (ln 3)
    · exact e_and_f (ln 3)
    · have f1 := c2 (T := T) (C := C) (g := 0) (s2 := .fz (.str op)) (m := m) (xs := [.str op, x1, x2]) (j := 1) (x := x1) (w := w1) t1 rfl (e1 x1 (by simp))
      have f2 := c2 (T := T) (C := C) (g := 0) (s2 := .fz (.str op)) (m := m) (xs := [.str op, x1, x2]) (j := 2) (x := x2) (w := w1) t1 rfl (e1 x2 (by simp))
      exact e_and_t (ln 3) (and2 f1 fun _ => f2)
    · have l3 := ln 3
      rw [decide_eq_false (show ¬ ((((PyData.str op :: x1 :: x2 :: x3 :: rest).length : Nat) : Int) = 3) by simp; omega)] at l3
      exact e_and_f l3
/-- what is_number and is_test tell -/
theorem wf_ok (b : Nat) : ∀ (d k h : Nat) (v : PyData), okV b h v → d ≤ k → Fd (k + 1) 1 [.fz v, .fz (.int d)] = .ret (.fr (.bool (wf d true v))) [.none, .none] ∧ Fd (k + 1) 2 [.fz v, .fz (.int d)] = .ret (.fr (.bool (wf d false v))) [.none, .none]
  | 0, k, h, v, q, hd => by
    constructor
    · rw [U1]
      simp [evDef, sv, ev, Fl.of, Ev.val, Ev.no, Ev.itr, opd_pk, opd_io, opd_var, opd_cst, opd_glb, opd_op, opd_chn, opd_slc, opd_and, opd_or, opd_not, opd_ife, opd_call, opd_lc, Ou.bd, zOp, opdl, retains, rsl, Z.rs, frl, opD, binD, cmpD, Ou.of, slD, atI, ixN, eqv_int, shaped_int, dbl, dint, zVar, zPkT, putR, ownAt, R.sl, R.d, finD, truD, zCall, locT, cstC, argsS, argS, ioIx, afterCall, putBack, zAnd, zOr, zNot, zChn, zSlc, slcD, cutD, Tg.put, setAll, seqD, isTy_tt, fmtOk, fitL, zRng1, zRng2, smallI, zChn3, zLrg1, zLrg2, zEnm, zZip, opd_chn3, opd_lrg1, opd_lrg2, c_is_number, wf]
    · rw [U2]
      simp [evDef, sv, ev, Fl.of, Ev.val, Ev.no, Ev.itr, opd_pk, opd_io, opd_var, opd_cst, opd_glb, opd_op, opd_chn, opd_slc, opd_and, opd_or, opd_not, opd_ife, opd_call, opd_lc, Ou.bd, zOp, opdl, retains, rsl, Z.rs, frl, opD, binD, cmpD, Ou.of, slD, atI, ixN, eqv_int, shaped_int, dbl, dint, zVar, zPkT, putR, ownAt, R.sl, R.d, finD, truD, zCall, locT, cstC, argsS, argS, ioIx, afterCall, putBack, zAnd, zOr, zNot, zChn, zSlc, slcD, cutD, Tg.put, setAll, seqD, isTy_tt, fmtOk, fitL, zRng1, zRng2, smallI, zChn3, zLrg1, zLrg2, zEnm, zZip, opd_chn3, opd_lrg1, opd_lrg2, c_is_test, wf]
  | d + 1, 0, h, v, q, hd => by omega
  | d + 1, k + 1, h, v, q, hd => by
    have h1 : ¬ (((d + 1 : Nat) : Int) < 1) := by omega
    have no : ∀ v : PyData, (∀ op rest, v ≠ .tuple (.str op :: rest)) → wf (d + 1) true v = false ∧ wf (d + 1) false v = false := by
      intro v hv
      unfold wf
      cases v <;> try exact ⟨rfl, rfl⟩
      rename_i xs
      rcases xs with _ | ⟨x, xs⟩
      · exact ⟨rfl, rfl⟩
      · cases x <;> first | exact ⟨rfl, rfl⟩ | exact absurd rfl (hv _ _)
    by_cases hs : ∃ op rest, v = .tuple (.str op :: rest)
    · obtain ⟨op, rest, rfl⟩ := hs
      have so := sh_str (okV_str (okV_mem q (x := .str op) (by simp))).1
      have ih : ∀ x ∈ rest, _ := fun x hx => wf_ok b d k h x (okV_mem q (by simp [hx])) (by omega)
      have ed : (((d + 1 : Nat) : Int) - 1) = (d : Int) := by omega
      constructor
      · exact F1s (k + 1) h1 so (fun x hx => by rw [ed]; exact (ih x hx).1) (fun x hx => by rw [ed]; exact (ih x hx).2)
      · exact F2s (k + 1) h1 so (fun x hx => by rw [ed]; exact (ih x hx).1) (fun x hx => by rw [ed]; exact (ih x hx).2)
    · obtain ⟨n1, n2⟩ := no v fun op rest e => hs ⟨op, rest, e⟩
      rw [n1, n2]
      generalize ((d + 1 : Nat) : Int) = m at *
      have c : ∀ (T : Tb) (C : Nat → Option PyData), (ev T C (.or (.op (.cmp .lt) (.cons (.pk 1) (.cons (.cst (.int 1)) .nil))) (.or (.not (.op (.isi .tuple) (.cons (.pk 0) .nil))) (.or (.not (.pk 0)) (.not (.op (.isi .str) (.cons (.op .idx (.cons (.pk 0) (.cons (.cst (.int 0)) .nil))) .nil))))))).t [.fz v, .fz (.int m), .un] = .ok true [.fz v, .fz (.int m), .un] := by
        intro T C
        cases v
        case tuple xs =>
          rcases xs with _ | ⟨x, xs⟩
          · simp [evDef, sv, ev, Fl.of, Ev.val, Ev.no, Ev.itr, opd_pk, opd_io, opd_var, opd_cst, opd_glb, opd_op, opd_chn, opd_slc, opd_and, opd_or, opd_not, opd_ife, opd_call, opd_lc, Ou.bd, zOp, opdl, retains, rsl, Z.rs, frl, opD, binD, cmpD, Ou.of, slD, atI, ixN, eqv_int, shaped_int, dbl, dint, zVar, zPkT, putR, ownAt, R.sl, R.d, finD, truD, zCall, locT, cstC, argsS, argS, ioIx, afterCall, putBack, zAnd, zOr, zNot, zChn, zSlc, slcD, cutD, Tg.put, setAll, seqD, isTy_tt, fmtOk, fitL, zRng1, zRng2, smallI, zChn3, zLrg1, zLrg2, zEnm, zZip, opd_chn3, opd_lrg1, opd_lrg2, h1]
          · have hx : isTy .str x = false := by cases x <;> first | rfl | exact absurd ⟨_, _, rfl⟩ hs
            simp [evDef, sv, ev, Fl.of, Ev.val, Ev.no, Ev.itr, opd_pk, opd_io, opd_var, opd_cst, opd_glb, opd_op, opd_chn, opd_slc, opd_and, opd_or, opd_not, opd_ife, opd_call, opd_lc, Ou.bd, zOp, opdl, retains, rsl, Z.rs, frl, opD, binD, cmpD, Ou.of, slD, atI, ixN, eqv_int, shaped_int, dbl, dint, zVar, zPkT, putR, ownAt, R.sl, R.d, finD, truD, zCall, locT, cstC, argsS, argS, ioIx, afterCall, putBack, zAnd, zOr, zNot, zChn, zSlc, slcD, cutD, Tg.put, setAll, seqD, isTy_tt, fmtOk, fitL, zRng1, zRng2, smallI, zChn3, zLrg1, zLrg2, zEnm, zZip, opd_chn3, opd_lrg1, opd_lrg2, h1, hx]
        all_goals
          have ht : ∀ z : PyData, (∀ xs, z ≠ .tuple xs) → isTy .tuple z = false := fun z hz => by cases z <;> first | rfl | exact absurd rfl (hz _)
          simp [evDef, sv, ev, Fl.of, Ev.val, Ev.no, Ev.itr, opd_pk, opd_io, opd_var, opd_cst, opd_glb, opd_op, opd_chn, opd_slc, opd_and, opd_or, opd_not, opd_ife, opd_call, opd_lc, Ou.bd, zOp, opdl, retains, rsl, Z.rs, frl, opD, binD, cmpD, Ou.of, slD, atI, ixN, eqv_int, shaped_int, dbl, dint, zVar, zPkT, putR, ownAt, R.sl, R.d, finD, truD, zCall, locT, cstC, argsS, argS, ioIx, afterCall, putBack, zAnd, zOr, zNot, zChn, zSlc, slcD, cutD, Tg.put, setAll, seqD, isTy_tt, fmtOk, fitL, zRng1, zRng2, smallI, zChn3, zLrg1, zLrg2, zEnm, zZip, opd_chn3, opd_lrg1, opd_lrg2, h1, ht]
      constructor
      · rw [U1]
        exact def_rt (m := 3) (ss := [.fz v, .fz (.int m)]) (n1 := [.fz v, .fz (.int m), .un]) (sv_rt (sv_ift (c _ _) (sv_rt rfl)))
      · rw [U2]
        exact def_rt (m := 3) (ss := [.fz v, .fz (.int m)]) (n1 := [.fz v, .fz (.int m), .un]) (sv_rt (sv_ift (c _ _) (sv_rt rfl)))
end Z

set_option Elab.async false
set_option linter.all false
set_option maxRecDepth 100000
set_option maxHeartbeats 0
namespace Z
open PySem PySem.Spec PyProof.Rows L2
/-! ## parts -/
def isTup (v : PyData) : Bool := isTy .tuple v
def kids : PyData → List PyData
  | .tuple (_ :: rest) => rest.filter isTup
  | _ => []
def dfs : Nat → PyData → List PyData
  | 0, _ => []
  | d + 1, v => v :: (kids v).flatMap (dfs d)
theorem wf_inv {d : Nat} {s : Bool} {v : PyData} (h : wf (d + 1) s v = true) : ∃ op rest, v = .tuple (.str op :: rest) ∧ (if s then numL (wf d true) (wf d false) op rest else tstL (wf d true) (wf d false) op rest) = true := by
  unfold wf at h
  cases v <;> try (cases h; done)
  rename_i xs
  rcases xs with _ | ⟨x, xs⟩
  · cases h
  · cases x <;> first | (cases h; done) | exact ⟨_, _, rfl, h⟩
theorem wf_tup {d : Nat} {s : Bool} {v : PyData} (h : wf d s v = true) : isTup v = true := by
  cases d with
  | zero => cases h
  | succ d => obtain ⟨op, rest, rfl, _⟩ := wf_inv h; rfl
theorem isI_tup {v : PyData} (h : isI v = true) : isTup v = false := by
  obtain ⟨i, rfl⟩ := isI_int h
  rfl
/-- the shapes of what is right -/
theorem wf_shape {d : Nat} {s : Bool} {op : Str} {rest : List PyData} (h : wf (d + 1) s (.tuple (.str op :: rest)) = true) :
    (∀ x ∈ rest.filter isTup, ∃ s', wf d s' x = true) ∧ (isS op "part" = true → s = true → ∃ a n, rest = [a, .int n] ∧ wf d true a = true) ∧ (isS op "number" = true → s = true → ∃ n, rest = [.int n]) := by
  obtain ⟨op', rest', e, h⟩ := wf_inv h
  cases e
  have bs := bs_cases op
  cases s with
  | true =>
    rw [if_pos rfl] at h
    unfold numL at h
    rcases bs with z | z | z | z | z | z | z | z | z <;> (simp only [bsOf, List.cons.injEq, and_true] at z; obtain ⟨b1, b2, b3, b4, b5, b6, b7, b8, b9, b10⟩ := z; simp only [b1, b2, b3, b4, b5] at h ⊢; simp at h)
    · subst h
      exact ⟨fun x hx => (by simp at hx), (fun z => by cases z), fun z => by cases z⟩
    · rcases rest with _ | ⟨n, _ | ⟨_, _⟩⟩ <;> try (cases h; done)
      have h : isI n = true := h
      obtain ⟨i, rfl⟩ := isI_int h
      exact ⟨fun x hx => by simp [isTup, isTy] at hx, (fun z => by cases z), fun _ _ => ⟨i, rfl⟩⟩
    · rcases rest with _ | ⟨a, _ | ⟨b, _ | ⟨_, _⟩⟩⟩ <;> try (cases h; done)
      obtain ⟨h1, h2⟩ := ba h
      refine ⟨fun x hx => ?_, (fun z => by cases z), fun z => by cases z⟩
      have := (List.mem_filter.mp hx).1
      simp at this
      rcases this with rfl | rfl
      · exact ⟨true, h1⟩
      · exact ⟨true, h2⟩
    · rcases rest with _ | ⟨a, _ | ⟨b, _ | ⟨_, _⟩⟩⟩ <;> try (cases h; done)
      obtain ⟨h1, h2⟩ := ba h
      obtain ⟨i, rfl⟩ := isI_int h2
      refine ⟨fun x hx => ?_, fun _ _ => ⟨a, i, rfl, h1⟩, fun z => by cases z⟩
      obtain ⟨m1, m2⟩ := List.mem_filter.mp hx
      simp at m1
      rcases m1 with rfl | rfl
      · exact ⟨true, h1⟩
      · cases m2
    · rcases rest with _ | ⟨a, _ | ⟨b, _ | ⟨c, _ | ⟨_, _⟩⟩⟩⟩ <;> try (cases h; done)
      obtain ⟨h1, h⟩ := ba h
      obtain ⟨h2, h3⟩ := ba h
      refine ⟨fun x hx => ?_, (fun z => by cases z), fun z => by cases z⟩
      have := (List.mem_filter.mp hx).1
      simp at this
      rcases this with rfl | rfl | rfl
      · exact ⟨false, h1⟩
      · exact ⟨true, h2⟩
      · exact ⟨true, h3⟩
  | false =>
    rw [if_neg Bool.false_ne_true] at h
    unfold tstL at h
    refine ⟨?_, (fun _ z => by cases z), fun _ z => by cases z⟩
    rcases bs with z | z | z | z | z | z | z | z | z <;> (simp only [bsOf, List.cons.injEq, and_true] at z; obtain ⟨b1, b2, b3, b4, b5, b6, b7, b8, b9, b10⟩ := z; simp only [b6, b7, b8] at h; simp at h)
    · rcases rest with _ | ⟨a, _ | ⟨b, _ | ⟨_, _⟩⟩⟩ <;> try (cases h; done)
      obtain ⟨h1, h2⟩ := ba h
      intro x hx
      have := (List.mem_filter.mp hx).1
      simp at this
      rcases this with rfl | rfl
      · exact ⟨true, h1⟩
      · exact ⟨true, h2⟩
    · rcases rest with _ | ⟨a, _ | ⟨b, _ | ⟨_, _⟩⟩⟩ <;> try (cases h; done)
      obtain ⟨h1, h2⟩ := ba h
      intro x hx
      have := (List.mem_filter.mp hx).1
      simp at this
      rcases this with rfl | rfl
      · exact ⟨false, h1⟩
      · exact ⟨false, h2⟩
    · rcases rest with _ | ⟨a, _ | ⟨_, _⟩⟩ <;> try (cases h; done)
      intro x hx
      have := (List.mem_filter.mp hx).1
      simp at this
      subst this
      exact ⟨false, h⟩
/-- tests have other words -/
theorem tst_words {d : Nat} {op : Str} {rest : List PyData} (h : wf (d + 1) false (.tuple (.str op :: rest)) = true) : isS op "part" = false ∧ isS op "number" = false := by
  obtain ⟨op', rest', e, h⟩ := wf_inv h
  cases e
  rw [if_neg Bool.false_ne_true] at h
  unfold tstL at h
  rcases bs_cases op with z | z | z | z | z | z | z | z | z <;> (simp only [bsOf, List.cons.injEq, and_true] at z; obtain ⟨b1, b2, b3, b4, b5, b6, b7, b8, b9, b10⟩ := z; first | exact ⟨b4, b2⟩ | (simp only [b6, b7, b8] at h; simp at h))
theorem kids_wf {d : Nat} {s : Bool} {v : PyData} (h : wf (d + 1) s v = true) : ∀ x ∈ kids v, ∃ s', wf d s' x = true := by
  obtain ⟨op, rest, rfl, _⟩ := wf_inv h
  exact (wf_shape h).1
theorem szs_filter (p : PyData → Bool) : ∀ xs : List PyData, szs (xs.filter p) ≤ szs xs
  | [] => Nat.le_refl _
  | x :: xs => by
    have := szs_filter p xs
    by_cases h : p x = true
    · rw [List.filter_cons_of_pos h, szs, szs]; omega
    · rw [List.filter_cons_of_neg h, szs]; omega
theorem kids_sz (v : PyData) : szs (kids v) + 1 ≤ sz v := by
  unfold kids
  split
  · rename_i x rest
    have := szs_filter isTup rest
    simp only [sz, szs]
    omega
  · cases v <;> simp [sz, szs]
theorem dfs_len : ∀ (d : Nat) (v : PyData), (dfs d v).length ≤ sz v
  | 0, v => Nat.zero_le _
  | d + 1, v => by
    have h : ∀ xs : List PyData, (xs.flatMap (dfs d)).length ≤ szs xs := by
      intro xs
      induction xs with
      | nil => simp [szs]
      | cons x xs ih =>
        rw [List.flatMap_cons, List.length_append, szs]
        have := dfs_len d x
        omega
    have a := h (kids v)
    have b := kids_sz v
    rw [dfs, List.length_cons]
    omega
/-! ## inner -/
theorem cut1 (x : PyData) (rest : List PyData) : cutD (x :: rest) (some 1) none = rest := by
  have := cut_suf (xs := x :: rest) (a := 0) (by omega) (by simp)
  simpa using this
theorem F3 (k : Nat) {d : Nat} {s : Bool} {v : PyData} (h : wf (d + 1) s v = true) {b hh : Nat} (q : okV b hh v) (hb : b ≤ sizeLine) : Fd k 3 [.fz v] = .ret (.nw (.list (kids v))) [.none] := by
  obtain ⟨op, rest, rfl, _⟩ := wf_inv h
  have so := sh_str (okV_str (okV_mem q (x := .str op) (by simp))).1
  have hl := okV_len q
  rw [U3]
  generalize locT c_inner.calls (tbl cs k) = T
  generalize cstC c_inner.gcs = C
  have hc : (ev T C (.op (.cmp .eq) (.cons (.op .idx (.cons (.pk 0) (.cons (.cst (.int 0)) .nil))) (.cons (.cst (.str "part")) .nil)))).t [.fz (.tuple (.str op :: rest)), .un] = .ok (isS op "part") [.fz (.tuple (.str op :: rest)), .un] := by
    refine t_cmp (op_of (fun _ _ => rfl) (e_at rfl (atI0 _ _))) (op_of (r := .fr (.str "part")) (fun _ _ => rfl) rfl) rfl rfl ?_
    show (if SeqAt.shaped (.str op) && SeqAt.shaped (.str "part") then some (PyData.eqv (.str op) (.str "part")) else none) = _
    rw [so, sh_part]; rfl
  cases hp : isS op "part" <;> rw [hp] at hc
  · have e := zLc_look (tg := .nm 1) (own := [1]) (fi := (ev T C (.op (.slc true false) (.cons (.pk 0) (.cons (.cst (.int 1)) .nil)))).i) (fc := (ev T C (.op (.isi .tuple) (.cons (.pk 1) .nil))).t) (fe := (ev T C (.var 1)).e)
      (n := [.fz (.tuple (.str op :: rest)), .un]) (n1 := [.fz (.tuple (.str op :: rest)), .un]) (n0 := [.fz (.tuple (.str op :: rest)), .un]) (xs := rest) (p := isTup) (f := fun x => x)
      (by have := cut1 (.str op) rest; simp [evDef, sv, ev, Fl.of, Ev.val, Ev.no, Ev.itr, opd_pk, opd_io, opd_var, opd_cst, opd_glb, opd_op, opd_chn, opd_slc, opd_and, opd_or, opd_not, opd_ife, opd_call, opd_lc, Ou.bd, zOp, opdl, retains, rsl, Z.rs, frl, opD, binD, cmpD, Ou.of, slD, atI, ixN, eqv_int, shaped_int, dbl, dint, zVar, zPkT, putR, ownAt, R.sl, R.d, finD, truD, zCall, locT, cstC, argsS, argS, ioIx, afterCall, putBack, zAnd, zOr, zNot, zChn, zSlc, slcD, Tg.put, setAll, seqD, isTy_tt, fmtOk, fitL, zRng1, zRng2, smallI, zChn3, zLrg1, zLrg2, zEnm, zZip, opd_chn3, opd_lrg1, opd_lrg2, this]) rfl rfl rfl (fun x hx => ⟨[.fz (.tuple (.str op :: rest)), .fz x], rfl, rfl, rfl, fun _ => ⟨_, rfl, rfl⟩⟩) (by simp at hl; omega)
    rw [List.map_id'] at e
    refine def_rt (m := 2) (ss := [.fz (.tuple (.str op :: rest))]) (n1 := [.fz (.tuple (.str op :: rest)), .un]) ?_
    exact sv_nx (sv_iff hc sv_end) (sv_rt (sv_ret e))
  · have st : s = true := by
      cases s with
      | true => rfl
      | false => have := (tst_words h).1; rw [hp] at this; cases this
    obtain ⟨a, n, rfl, ha⟩ := (wf_shape h).2.1 hp st
    have hk : kids (.tuple [.str op, a, .int n]) = [a] := by
      show [a, .int n].filter isTup = [a]
      rw [List.filter_cons_of_pos (wf_tup ha), List.filter_cons_of_neg (by simp [isTup, isTy])]
      rfl
    rw [hk]
    refine def_rt (m := 2) (ss := [.fz (.tuple [.str op, a, .int n])]) (n1 := [.fz (.tuple [.str op, a, .int n]), .un]) ?_
    have z1 : (1 : Nat) ≤ sizeLine := by simp at hl; omega
    refine sv_rt (sv_ift hc (sv_rt (sv_ret ?_)))
    simp [evDef, sv, ev, Fl.of, Ev.val, Ev.no, Ev.itr, opd_pk, opd_io, opd_var, opd_cst, opd_glb, opd_op, opd_chn, opd_slc, opd_and, opd_or, opd_not, opd_ife, opd_call, opd_lc, Ou.bd, zOp, opdl, retains, rsl, Z.rs, frl, opD, binD, cmpD, Ou.of, slD, atI, ixN, eqv_int, shaped_int, dbl, dint, zVar, zPkT, putR, ownAt, R.sl, R.d, finD, truD, zCall, locT, cstC, argsS, argS, ioIx, afterCall, putBack, zAnd, zOr, zNot, zChn, zSlc, slcD, cutD, Tg.put, setAll, seqD, isTy_tt, fmtOk, fitL, zRng1, zRng2, smallI, zChn3, zLrg1, zLrg2, zEnm, zZip, opd_chn3, opd_lrg1, opd_lrg2, z1]
/-! ## parts_of -/
theorem F4 (b : Nat) (hb : b ≤ sizeLine) : ∀ (d k : Nat) (s : Bool) (v : PyData) (hh : Nat), d ≤ k → wf d s v = true → okV b hh v → sz v ≤ sizeLine → Fd k 4 [.fz v] = .ret (.fr (.list (dfs d v))) [.none]
  | 0, k, s, v, hh, _, h, _, _ => by cases h
  | d + 1, 0, s, v, hh, hk, _, _, _ => by omega
  | d + 1, k + 1, s, v, hh, hk, h, q, hz => by
    have e3 := F3 k h q hb
    have hkw := kids_wf h
    have hks := kids_sz v
    have kok : ∀ x ∈ kids v, okV b hh x := by
      obtain ⟨op, rest, rfl, _⟩ := wf_inv h
      intro x hx
      exact okV_mem q (List.mem_cons_of_mem _ (List.mem_filter.mp hx).1)
    rw [U4]
    have t3 : locT c_parts_of.calls (tbl cs (k + 1)) 0 = some (1, Fd k 3) := rfl
    have t4 : locT c_parts_of.calls (tbl cs (k + 1)) 1 = some (1, Fd k 4) := rfl
    generalize locT c_parts_of.calls (tbl cs (k + 1)) = T at *
    generalize cstC c_parts_of.gcs = C at *
    have loop : ∀ (xs acc : List PyData) (t : Sl), unfz t → (∀ x ∈ xs, x ∈ kids v) → acc.length + szs xs ≤ sz v → ∃ t', unfz t' ∧ forGo (.nm 2) (sv T C b_parts_of_0) xs [.fz v, .ow (.list acc), t] = .nx [.fz v, .ow (.list (acc ++ xs.flatMap (dfs d))), t'] := by
      intro xs
      induction xs with
      | nil => intro acc t ht _ _; exact ⟨t, ht, by rw [forGo_nil]; simp⟩
      | cons x xs ih =>
        intro acc t ht hx hl
        rw [szs] at hl
        have hxk := hx x List.mem_cons_self
        obtain ⟨s', hw⟩ := hkw x hxk
        have zx : sz x ≤ szs (kids v) := szs_mem hxk
        have e4 := F4 b hb d k s' x hh (by omega) hw (kok x hxk) (by omega)
        have dl := dfs_len d x
        have hp : (Tg.nm 2).put x [.fz v, .ow (.list acc), t] = some [.fz v, .ow (.list acc), .fz x] := by rcases ht with rfl | ⟨y, rfl⟩ <;> rfl
        have z : acc.length + (dfs d x).length ≤ sizeLine := by omega
        have hb : sv T C b_parts_of_0 [.fz v, .ow (.list acc), .fz x] = .nx [.fz v, .ow (.list (acc ++ dfs d x)), .fz x] := by
          simp [evDef, sv, ev, Fl.of, Ev.val, Ev.no, Ev.itr, opd_pk, opd_io, opd_var, opd_cst, opd_glb, opd_op, opd_chn, opd_slc, opd_and, opd_or, opd_not, opd_ife, opd_call, opd_lc, Ou.bd, zOp, opdl, retains, rsl, Z.rs, frl, opD, binD, cmpD, Ou.of, slD, atI, ixN, eqv_int, shaped_int, dbl, dint, zVar, zPkT, putR, ownAt, R.sl, R.d, finD, truD, zCall, locT, cstC, argsS, argS, ioIx, afterCall, putBack, zAnd, zOr, zNot, zChn, zSlc, slcD, cutD, Tg.put, setAll, seqD, isTy_tt, fmtOk, fitL, zRng1, zRng2, smallI, zChn3, zLrg1, zLrg2, zEnm, zZip, opd_chn3, opd_lrg1, opd_lrg2, b_parts_of_0, t4, e4, z]
        obtain ⟨t', ht', e⟩ := ih (acc ++ dfs d x) (.fz x) (.inr ⟨x, rfl⟩) (fun y hy => hx y (List.mem_cons_of_mem _ hy)) (by rw [List.length_append]; omega)
        refine ⟨t', ht', ?_⟩
        rw [forGo_cons, hp]
        dsimp only
        rw [hb]
        dsimp only
        rw [e, List.flatMap_cons, List.append_assoc]
    obtain ⟨t', _, e⟩ := loop (kids v) [v] .un (.inl rfl) (fun _ h => h) (by simp; omega)
    refine def_rt (m := 3) (ss := [.fz v]) (n1 := [.fz v, .fz (.list (dfs (d + 1) v)), t']) ?_
    have z1 : (1 : Nat) ≤ sizeLine := by omega
    refine sv_nx (n1 := [.fz v, .ow (.list [v]), .un]) (by simp [evDef, sv, ev, Fl.of, Ev.val, Ev.no, Ev.itr, opd_pk, opd_io, opd_var, opd_cst, opd_glb, opd_op, opd_chn, opd_slc, opd_and, opd_or, opd_not, opd_ife, opd_call, opd_lc, Ou.bd, zOp, opdl, retains, rsl, Z.rs, frl, opD, binD, cmpD, Ou.of, slD, atI, ixN, eqv_int, shaped_int, dbl, dint, zVar, zPkT, putR, ownAt, R.sl, R.d, finD, truD, zCall, locT, cstC, argsS, argS, ioIx, afterCall, putBack, zAnd, zOr, zNot, zChn, zSlc, slcD, cutD, Tg.put, setAll, seqD, isTy_tt, fmtOk, fitL, zRng1, zRng2, smallI, zChn3, zLrg1, zLrg2, zEnm, zZip, opd_chn3, opd_lrg1, opd_lrg2, z1]) ?_
    refine sv_nx (n1 := [.fz v, .ow (.list (dfs (d + 1) v)), t']) (sv_for (xs := kids v) (n1 := [.fz v, .ow (.list [v]), .un]) ?_ e) (sv_rt rfl)
    have ec : (ev T C (.call 0 (.cons (.var 0) .nil))).e [.fz v, .ow (.list [v]), .un] = .ok (.nw (.list (kids v))) [.fz v, .ow (.list [v]), .un] := e_call1 t3 rfl e3 rfl
    show ((ev T C (.call 0 (.cons (.var 0) .nil))).e _).bd (fun r n1 => .of (seqD r.d) n1) = _
    rw [ec]; rfl
end Z

set_option Elab.async false
set_option linter.all false
set_option maxRecDepth 100000
set_option maxHeartbeats 0
namespace Z
open PySem PySem.Spec PyProof.Rows L2
/-! ## limits -/
def limB : PyData → Bool
  | .tuple (.str op :: rest) => if isS op "number" then (match rest with | .int n :: _ => decide (0 ≤ n) && decide (n ≤ 1000) | _ => false) else !isS op "part" || (match rest with | _ :: .int n :: _ => decide (1 ≤ n) && decide (n ≤ 1000) | _ => false)
  | _ => false
theorem F9 (k : Nat) {d : Nat} {s : Bool} {v : PyData} (h : wf (d + 1) s v = true) {b hh : Nat} (q : okV b hh v) : Fd k 9 [.fz v] = .ret (.fr (.bool (limB v))) [.none] := by
  obtain ⟨op, rest, rfl, _⟩ := wf_inv h
  have so := sh_str (okV_str (okV_mem q (x := .str op) (by simp))).1
  have sh := wf_shape h
  rw [U9]
  generalize hC : cstC c_within_limits.gcs = C
  have g0 : C 0 = some (.int 1000) := by rw [← hC]; rfl
  generalize locT c_within_limits.calls (tbl cs k) = T
  clear hC
  have n0 : ([.fz (.tuple (.str op :: rest))] : En)[0]? = some (.fz (.tuple (.str op :: rest))) := rfl
  have hn : (ev T C (.op (.cmp .eq) (.cons (.op .idx (.cons (.pk 0) (.cons (.cst (.int 0)) .nil))) (.cons (.cst (.str "number")) .nil)))).t [.fz (.tuple (.str op :: rest))] = .ok (isS op "number") [.fz (.tuple (.str op :: rest))] := by
    refine t_cmp (op_of (fun _ _ => rfl) (e_at rfl (atI0 _ _))) (op_of (r := .fr (.str "number")) (fun _ _ => rfl) rfl) rfl rfl ?_
    show (if SeqAt.shaped (.str op) && SeqAt.shaped (.str "number") then some (PyData.eqv (.str op) (.str "number")) else none) = _
    rw [so, sh_number]; rfl
  have hp : (ev T C (.op (.cmp .ne) (.cons (.op .idx (.cons (.pk 0) (.cons (.cst (.int 0)) .nil))) (.cons (.cst (.str "part")) .nil)))).e [.fz (.tuple (.str op :: rest))] = .ok (dbl (!isS op "part")) [.fz (.tuple (.str op :: rest))] := by
    refine e_cmp (op_of (fun _ _ => rfl) (e_at rfl (atI0 _ _))) (op_of (r := .fr (.str "part")) (fun _ _ => rfl) rfl) rfl rfl ?_
    show (if SeqAt.shaped (.str op) && SeqAt.shaped (.str "part") then some (!PyData.eqv (.str op) (.str "part")) else none) = _
    rw [so, sh_part]; rfl
  refine def_rt (m := 1) (ss := [.fz (.tuple (.str op :: rest))]) (n1 := [.fz (.tuple (.str op :: rest))]) ?_
  show sv T C c_within_limits.body [.fz (.tuple (.str op :: rest))] = _
  have st : ∀ w, isS op w = true → (w = "part" ∨ w = "number") → s = true := by
    intro w hw hor
    cases s with
    | true => rfl
    | false =>
      obtain ⟨a, b⟩ := tst_words h
      rcases hor with rfl | rfl
      · rw [hw] at a; cases a
      · rw [hw] at b; cases b
  unfold limB
  dsimp only
  cases b1 : isS op "number" <;> rw [b1] at hn
  · rw [if_neg Bool.false_ne_true]
    refine sv_nx (sv_iff hn sv_end) (sv_rt (sv_ret ?_))
    cases b2 : isS op "part" <;> rw [b2] at hp
    · exact e_or_t hp
    · obtain ⟨a, n, rfl, _⟩ := sh.2.1 b2 (st _ b2 (.inl rfl))
      have z := e_or_f (b := .chn .le .le (.cst (.int 1)) (.op .idx (.cons (.pk 0) (.cons (.cst (.int 2)) .nil))) (.glb 0)) (r := dbl (decide (1 ≤ n) && decide (n ≤ 1000))) (n2 := [.fz (.tuple [.str op, a, .int n])]) hp (by
        by_cases h1 : 1 ≤ n
        · by_cases h2 : n ≤ 1000
          · simp [evDef, sv, ev, Fl.of, Ev.val, Ev.no, Ev.itr, opd_pk, opd_io, opd_var, opd_cst, opd_glb, opd_op, opd_chn, opd_slc, opd_and, opd_or, opd_not, opd_ife, opd_call, opd_lc, Ou.bd, zOp, opdl, retains, rsl, Z.rs, frl, opD, binD, cmpD, Ou.of, slD, atI, ixN, eqv_int, shaped_int, dbl, dint, zVar, zPkT, putR, ownAt, R.sl, R.d, finD, truD, zCall, locT, cstC, argsS, argS, ioIx, afterCall, putBack, zAnd, zOr, zNot, zChn, zSlc, slcD, cutD, Tg.put, setAll, seqD, isTy_tt, fmtOk, fitL, zRng1, zRng2, smallI, zChn3, zLrg1, zLrg2, zEnm, zZip, opd_chn3, opd_lrg1, opd_lrg2, g0, h1, h2]
          · simp [evDef, sv, ev, Fl.of, Ev.val, Ev.no, Ev.itr, opd_pk, opd_io, opd_var, opd_cst, opd_glb, opd_op, opd_chn, opd_slc, opd_and, opd_or, opd_not, opd_ife, opd_call, opd_lc, Ou.bd, zOp, opdl, retains, rsl, Z.rs, frl, opD, binD, cmpD, Ou.of, slD, atI, ixN, eqv_int, shaped_int, dbl, dint, zVar, zPkT, putR, ownAt, R.sl, R.d, finD, truD, zCall, locT, cstC, argsS, argS, ioIx, afterCall, putBack, zAnd, zOr, zNot, zChn, zSlc, slcD, cutD, Tg.put, setAll, seqD, isTy_tt, fmtOk, fitL, zRng1, zRng2, smallI, zChn3, zLrg1, zLrg2, zEnm, zZip, opd_chn3, opd_lrg1, opd_lrg2, g0, h1, h2]
        · simp [evDef, sv, ev, Fl.of, Ev.val, Ev.no, Ev.itr, opd_pk, opd_io, opd_var, opd_cst, opd_glb, opd_op, opd_chn, opd_slc, opd_and, opd_or, opd_not, opd_ife, opd_call, opd_lc, Ou.bd, zOp, opdl, retains, rsl, Z.rs, frl, opD, binD, cmpD, Ou.of, slD, atI, ixN, eqv_int, shaped_int, dbl, dint, zVar, zPkT, putR, ownAt, R.sl, R.d, finD, truD, zCall, locT, cstC, argsS, argS, ioIx, afterCall, putBack, zAnd, zOr, zNot, zChn, zSlc, slcD, cutD, Tg.put, setAll, seqD, isTy_tt, fmtOk, fitL, zRng1, zRng2, smallI, zChn3, zLrg1, zLrg2, zEnm, zZip, opd_chn3, opd_lrg1, opd_lrg2, g0, h1])
      exact z
  · rw [if_pos rfl]
    obtain ⟨n, rfl⟩ := sh.2.2 b1 (st _ b1 (.inr rfl))
    refine sv_rt (sv_ift hn (sv_rt (sv_ret ?_)))
    by_cases h1 : 0 ≤ n
    · by_cases h2 : n ≤ 1000
      · simp [evDef, sv, ev, Fl.of, Ev.val, Ev.no, Ev.itr, opd_pk, opd_io, opd_var, opd_cst, opd_glb, opd_op, opd_chn, opd_slc, opd_and, opd_or, opd_not, opd_ife, opd_call, opd_lc, Ou.bd, zOp, opdl, retains, rsl, Z.rs, frl, opD, binD, cmpD, Ou.of, slD, atI, ixN, eqv_int, shaped_int, dbl, dint, zVar, zPkT, putR, ownAt, R.sl, R.d, finD, truD, zCall, locT, cstC, argsS, argS, ioIx, afterCall, putBack, zAnd, zOr, zNot, zChn, zSlc, slcD, cutD, Tg.put, setAll, seqD, isTy_tt, fmtOk, fitL, zRng1, zRng2, smallI, zChn3, zLrg1, zLrg2, zEnm, zZip, opd_chn3, opd_lrg1, opd_lrg2, g0, h1, h2]
      · simp [evDef, sv, ev, Fl.of, Ev.val, Ev.no, Ev.itr, opd_pk, opd_io, opd_var, opd_cst, opd_glb, opd_op, opd_chn, opd_slc, opd_and, opd_or, opd_not, opd_ife, opd_call, opd_lc, Ou.bd, zOp, opdl, retains, rsl, Z.rs, frl, opD, binD, cmpD, Ou.of, slD, atI, ixN, eqv_int, shaped_int, dbl, dint, zVar, zPkT, putR, ownAt, R.sl, R.d, finD, truD, zCall, locT, cstC, argsS, argS, ioIx, afterCall, putBack, zAnd, zOr, zNot, zChn, zSlc, slcD, cutD, Tg.put, setAll, seqD, isTy_tt, fmtOk, fitL, zRng1, zRng2, smallI, zChn3, zLrg1, zLrg2, zEnm, zZip, opd_chn3, opd_lrg1, opd_lrg2, g0, h1, h2]
    · simp [evDef, sv, ev, Fl.of, Ev.val, Ev.no, Ev.itr, opd_pk, opd_io, opd_var, opd_cst, opd_glb, opd_op, opd_chn, opd_slc, opd_and, opd_or, opd_not, opd_ife, opd_call, opd_lc, Ou.bd, zOp, opdl, retains, rsl, Z.rs, frl, opD, binD, cmpD, Ou.of, slD, atI, ixN, eqv_int, shaped_int, dbl, dint, zVar, zPkT, putR, ownAt, R.sl, R.d, finD, truD, zCall, locT, cstC, argsS, argS, ioIx, afterCall, putBack, zAnd, zOr, zNot, zChn, zSlc, slcD, cutD, Tg.put, setAll, seqD, isTy_tt, fmtOk, fitL, zRng1, zRng2, smallI, zChn3, zLrg1, zLrg2, zEnm, zZip, opd_chn3, opd_lrg1, opd_lrg2, g0, h1]
/-! ## check_rule -/
def outR (v : PyData) : Option Str := if wf 20 true v then (if decide (((dfs 20 v).length : Int) ≤ 100) && (dfs 20 v).all limB then none else some "limits") else some "form"
theorem dfs_wf : ∀ (d : Nat) (s : Bool) (v : PyData), wf d s v = true → ∀ x ∈ dfs d v, ∃ d' s', wf (d' + 1) s' x = true
  | 0, s, v, h, x, hx => by cases h
  | d + 1, s, v, h, x, hx => by
    rw [dfs] at hx
    rcases List.mem_cons.mp hx with rfl | hx
    · exact ⟨d, s, h⟩
    · obtain ⟨y, hy, hx⟩ := List.mem_flatMap.mp hx
      obtain ⟨s', hw⟩ := kids_wf h y hy
      exact dfs_wf d s' y hw x hx
theorem kids_ok {b hh : Nat} {v : PyData} (q : okV b hh v) : ∀ x ∈ kids v, okV b hh x := by
  intro x hx
  unfold kids at hx
  split at hx
  · exact okV_mem q (List.mem_cons_of_mem _ (List.mem_filter.mp hx).1)
  · cases hx
theorem dfs_ok {b : Nat} : ∀ (d hh : Nat) (v : PyData), okV b hh v → ∀ x ∈ dfs d v, okV b hh x
  | 0, hh, v, q, x, hx => by cases hx
  | d + 1, hh, v, q, x, hx => by
    rw [dfs] at hx
    rcases List.mem_cons.mp hx with rfl | hx
    · exact q
    · obtain ⟨y, hy, hx⟩ := List.mem_flatMap.mp hx
      exact dfs_ok d hh y (kids_ok q y hy) x hx
theorem len_form : (Str.ofString "form").length ≤ 1000 := by decide +kernel
theorem len_limits : (Str.ofString "limits").length ≤ 1000 := by decide +kernel
def outC (v : PyData) : Rt := match outR v with
  | none => .ret (.fr .none) [.none]
  | some s => .ex 3 (.str s) [.none]
theorem oC0 {f : En → Ou R} {n : En} : opd l_check_rule_0 f n = (f n).bd fun r n1 => .ok (.dd r.d) n1 := rfl
theorem F12 (k b hh : Nat) (hb : b ≤ sizeLine) {v : PyData} (q : okV b hh v) (hz : sz v ≤ sizeLine) : Fd (k + 22) 12 [.fz v] = outC v := by
  have e1 := (wf_ok b 20 (k + 20) hh v q (by omega)).1
  have t0 : locT c_check_rule.calls (tbl cs (k + 22)) 0 = some (2, Fd (k + 21) 1) := rfl
  have t1 : locT c_check_rule.calls (tbl cs (k + 22)) 1 = some (1, Fd (k + 21) 4) := rfl
  have t2 : locT c_check_rule.calls (tbl cs (k + 22)) 2 = some (1, Fd (k + 21) 9) := rfl
  have g0 : cstC c_check_rule.gcs 0 = some (.int 20) := rfl
  have g1 : cstC c_check_rule.gcs 1 = some (.int 100) := rfl
  rw [U12]
  generalize locT c_check_rule.calls (tbl cs (k + 22)) = T at *
  generalize cstC c_check_rule.gcs = C at *
  have ef : (ev T C (.call 0 (.cons (.var 0) (.cons (.glb 0) .nil)))).t [.fz v, .un, .un] = .ok (wf 20 true v) [.fz v, .un, .un] := by
    have hb : (ev T C (.glb 0)).e [.fz v, .un, .un] = .ok (.fr (.int 20)) [.fz v, .un, .un] := by
      show (match C 0 with
        | some d => Ou.ok (R.fr d) _
        | none => .st) = _
      rw [g0]
    have z := e_call2 (T := T) (C := C) (a := .var 0) (b := .glb 0) (n := [.fz v, .un, .un]) (n1 := [.fz v, .un, .un]) (n2 := [.fz v, .un, .un]) (x := v) (y := .int 20) t0 rfl (op_of (fun _ _ => rfl) hb) e1 rfl
    show ((ev T C (.call 0 _)).e _).bd (fun r n1 => .of (truD r.d) n1) = _
    rw [z]; rfl
  unfold outC outR
  cases hw : wf 20 true v <;> rw [hw] at ef
  · rw [if_neg Bool.false_ne_true]
    refine def_ex (m := 3) (ss := [.fz v]) (n1 := [.fz v, .un, .un]) (sv_ex (sv_ift (t_notB ef) (sv_ex ?_)))
    simp [evDef, sv, ev, Fl.of, Ev.val, Ev.no, Ev.itr, opd_pk, opd_io, opd_var, opd_cst, opd_glb, opd_op, opd_chn, opd_slc, opd_and, opd_or, opd_not, opd_ife, opd_call, opd_lc, Ou.bd, zOp, opdl, retains, rsl, Z.rs, frl, opD, binD, cmpD, Ou.of, slD, atI, ixN, eqv_int, shaped_int, dbl, dint, zVar, zPkT, putR, ownAt, R.sl, R.d, finD, truD, zCall, locT, cstC, argsS, argS, ioIx, afterCall, putBack, zAnd, zOr, zNot, zChn, zSlc, slcD, cutD, Tg.put, setAll, seqD, isTy_tt, fmtOk, fitL, zRng1, zRng2, smallI, zChn3, zLrg1, zLrg2, zEnm, zZip, opd_chn3, opd_lrg1, opd_lrg2, len_form]
  · rw [if_pos rfl]
    have e4 := F4 b hb 20 (k + 21) true v hh (by omega) hw q hz
    have dl := dfs_len 20 v
    have dw := dfs_wf 20 true v hw
    have dok := dfs_ok (b := b) 20 hh v q
    generalize dfs 20 v = L at *
    have el := zLc_look (tg := .nm 2) (own := [2]) (fi := (ev T C (.var 1)).i) (fc := (ev T C .yes).t) (fe := (ev T C (.call 2 (.cons (.var 2) .nil))).e) (n := [.fz v, .fz (.list L), .un]) (n1 := [.fz v, .fz (.list L), .un]) (n0 := [.fz v, .fz (.list L), .un]) (xs := L) (p := fun _ => true) (f := fun x => .bool (limB x))
      rfl rfl rfl rfl (fun x hx => by
        obtain ⟨d', s', hw'⟩ := dw x hx
        have e9 := F9 (k + 21) hw' (dok x hx)
        exact ⟨[.fz v, .fz (.list L), .fz x], rfl, rfl, rfl, fun _ => ⟨.fr (.bool (limB x)), e_call1 t2 rfl e9 rfl, rfl⟩⟩) (by omega)
    rw [ft] at el
    have el : (ev T C l_check_rule_0).e [.fz v, .fz (.list L), .un] = _ := el
    have elo : (ev T C l_check_rule_0).e [.fz v, .ow (.list L), .un] = .ok (.nw (.list (L.map fun x => .bool (limB x)))) [.fz v, .fz (.list L), .un] := el
    have s1 : sv T C (.set (.nm 1) (.call 1 (.cons (.var 0) .nil))) [.fz v, .un, .un] = .nx [.fz v, .fz (.list L), .un] := sv_set (r := .fr (.list L)) (n1 := [.fz v, .un, .un]) (t := .un) (e_call1 t1 rfl e4 rfl) rfl rfl
    have hc : (ev T C (.or (.op (.cmp .gt) (.cons (.op .len (.cons (.pk 1) .nil)) (.cons (.glb 1) .nil))) (.not (.op .all (.cons l_check_rule_0 .nil))))).t [.fz v, .fz (.list L), .un] = .ok (!(decide ((L.length : Int) ≤ 100) && L.all limB)) [.fz v, .fz (.list L), .un] := by
      by_cases h1 : (L.length : Int) ≤ 100
      · have h2 : ¬ (100 : Int) < L.length := by omega
        have h3 : ¬ 100 < L.length := by omega
        have h4 : L.length ≤ 100 := by omega
        simp [evDef, sv, ev, Fl.of, Ev.val, Ev.no, Ev.itr, opd_pk, opd_io, opd_var, opd_cst, opd_glb, opd_op, opd_chn, opd_slc, opd_and, opd_or, opd_not, opd_ife, opd_call, opd_lc, Ou.bd, zOp, opdl, retains, rsl, Z.rs, frl, opD, binD, cmpD, Ou.of, slD, atI, ixN, eqv_int, shaped_int, dbl, dint, zVar, zPkT, putR, ownAt, R.sl, R.d, finD, truD, zCall, locT, cstC, argsS, argS, ioIx, afterCall, putBack, zAnd, zOr, zNot, zChn, zSlc, slcD, cutD, Tg.put, setAll, seqD, isTy_tt, fmtOk, fitL, zRng1, zRng2, smallI, zChn3, zLrg1, zLrg2, zEnm, zZip, opd_chn3, opd_lrg1, opd_lrg2, g1, h1, h2, h3, h4, oC0, el, boolsD_map, all_id]
      · have h2 : (100 : Int) < L.length := by omega
        have h3 : 100 < L.length := by omega
        have h4 : ¬ L.length ≤ 100 := by omega
        simp [evDef, sv, ev, Fl.of, Ev.val, Ev.no, Ev.itr, opd_pk, opd_io, opd_var, opd_cst, opd_glb, opd_op, opd_chn, opd_slc, opd_and, opd_or, opd_not, opd_ife, opd_call, opd_lc, Ou.bd, zOp, opdl, retains, rsl, Z.rs, frl, opD, binD, cmpD, Ou.of, slD, atI, ixN, eqv_int, shaped_int, dbl, dint, zVar, zPkT, putR, ownAt, R.sl, R.d, finD, truD, zCall, locT, cstC, argsS, argS, ioIx, afterCall, putBack, zAnd, zOr, zNot, zChn, zSlc, slcD, cutD, Tg.put, setAll, seqD, isTy_tt, fmtOk, fitL, zRng1, zRng2, smallI, zChn3, zLrg1, zLrg2, zEnm, zZip, opd_chn3, opd_lrg1, opd_lrg2, g1, h1, h2, h3, h4]
    cases hg : (decide ((L.length : Int) ≤ 100) && L.all limB) <;> rw [hg] at hc
    · rw [if_neg Bool.false_ne_true]
      refine def_ex (m := 3) (ss := [.fz v]) (n1 := [.fz v, .fz (.list L), .un]) (sv_nx (sv_iff (t_notB ef) sv_end) (sv_nx s1 (sv_ex (sv_ift hc (sv_ex ?_)))))
      simp [evDef, sv, ev, Fl.of, Ev.val, Ev.no, Ev.itr, opd_pk, opd_io, opd_var, opd_cst, opd_glb, opd_op, opd_chn, opd_slc, opd_and, opd_or, opd_not, opd_ife, opd_call, opd_lc, Ou.bd, zOp, opdl, retains, rsl, Z.rs, frl, opD, binD, cmpD, Ou.of, slD, atI, ixN, eqv_int, shaped_int, dbl, dint, zVar, zPkT, putR, ownAt, R.sl, R.d, finD, truD, zCall, locT, cstC, argsS, argS, ioIx, afterCall, putBack, zAnd, zOr, zNot, zChn, zSlc, slcD, cutD, Tg.put, setAll, seqD, isTy_tt, fmtOk, fitL, zRng1, zRng2, smallI, zChn3, zLrg1, zLrg2, zEnm, zZip, opd_chn3, opd_lrg1, opd_lrg2, len_limits]
    · rw [if_pos rfl]
      exact def_nx (m := 3) (ss := [.fz v]) (n1 := [.fz v, .fz (.list L), .un]) (sv_nx (sv_iff (t_notB ef) sv_end) (sv_nx s1 (sv_nx (sv_iff hc sv_end) sv_end)))
/-! ## the others -/
theorem exC {T : Tb} {C : Nat → Option PyData} {g m k : Nat} {v : PyData} {s : Str} {i : Nat} {n : En} (hT : T g = some (1, Fd k m)) (hi : n[i]? = some (.fz v)) (h : Fd k m [.fz v] = .ex 3 (.str s) [.none]) : sv T C (.ex (.call g (.cons (.var i) .nil))) n = .ex 3 (.str s) n := by
  have e : (ev T C (.var i)).e n = .ok (.fr v) n := by
    show zVar i n = _
    unfold zVar
    rw [hi]
  show Fl.of (zCall (T g) (ev T C (.cons (.var i) .nil)).l n) _ = _
  have el : (ev T C (.cons (.var i) .nil)).l n = .ok [.dd v] n := by
    show (opd (.var i) (ev T C (.var i)).e n).bd (fun p n1 => (Ou.ok [] n1).bd fun ps n3 => .ok (p :: ps) n3) = _
    rw [opd_var, e]
    rfl
  rw [hT]
  unfold zCall
  dsimp only
  rw [el]
  dsimp only [Ou.bd]
  rw [if_pos (show [P.dd v].length = 1 from rfl)]
  dsimp only [argsS, argS, Option.bind, Option.map]
  rw [if_pos (show (ioIx [P.dd v]).Nodup from List.nodup_nil), h]
  rfl
theorem outC_some {v : PyData} {s : Str} (h : outR v = some s) : outC v = .ex 3 (.str s) [.none] := by unfold outC; rw [h]
theorem outC_none {v : PyData} (h : outR v = none) : outC v = .ret (.fr .none) [.none] := by unfold outC; rw [h]
section
variable (k b hh : Nat) (hb : b ≤ sizeLine) {v : PyData} (q : okV b hh v) (hz : sz v ≤ sizeLine) {s : Str} (h : outR v = some s)
include hb q hz h
theorem F15 (x : PyData) : Fd (k + 23) 15 [.fz v, .fz x] = .ex 3 (.str s) [.none, .none] := by
  have e := (F12 k b hh hb q hz).trans (outC_some h)
  rw [U15]
  exact def_ex (m := 2) (ss := [.fz v, .fz x]) (n1 := [.fz v, .fz x]) (sv_ex (exC (k := k + 22) (m := 12) rfl rfl e))
theorem F16 (x : PyData) : ∃ ds, Fd (k + 23) 16 [.fz v, .fz x] = .ex 3 (.str s) ds ∧ ds = [.none, .none] := by
  have e := (F12 k b hh hb q hz).trans (outC_some h)
  refine ⟨_, ?_, rfl⟩
  rw [U16]
  exact def_ex (m := 3) (ss := [.fz v, .fz x]) (n1 := [.fz v, .fz x, .un]) (sv_ex (exC (k := k + 22) (m := 12) rfl rfl e))
theorem F18 : Fd (k + 23) 18 [.fz v] = .ex 3 (.str s) [.none] := by
  have e := (F12 k b hh hb q hz).trans (outC_some h)
  rw [U18]
  exact def_ex (m := 1) (ss := [.fz v]) (n1 := [.fz v]) (sv_ex (exC (k := k + 22) (m := 12) rfl rfl e))
theorem F17a (x y : PyData) : Fd (k + 23) 17 [.fz v, .fz x, .fz y] = .ex 3 (.str s) [.none, .none, .none] := by
  have e := (F12 k b hh hb q hz).trans (outC_some h)
  rw [U17]
  exact def_ex (m := 4) (ss := [.fz v, .fz x, .fz y]) (n1 := [.fz v, .fz x, .fz y, .un]) (sv_ex (exC (k := k + 22) (m := 12) rfl rfl e))
theorem F17b {x y : PyData} {bx hx : Nat} (hbx : bx ≤ sizeLine) (qx : okV bx hx x) (hzx : sz x ≤ sizeLine) (ho : outR x = none) : Fd (k + 23) 17 [.fz x, .fz v, .fz y] = .ex 3 (.str s) [.none, .none, .none] := by
  have e := (F12 k b hh hb q hz).trans (outC_some h)
  have e2 := (F12 k bx hx hbx qx hzx).trans (outC_none ho)
  rw [U17]
  have z := e_call1 (T := locT c_first_difference.calls (tbl cs (k + 23))) (C := cstC c_first_difference.gcs) (g := 0) (a := .var 0) (n := [.fz x, .fz v, .fz y, .un]) (n1 := [.fz x, .fz v, .fz y, .un]) (x := x) (fm := Fd (k + 22) 12) rfl rfl e2 rfl
  have z2 : sv (locT c_first_difference.calls (tbl cs (k + 23))) (cstC c_first_difference.gcs) (.ex (.call 0 (.cons (.var 0) .nil))) [.fz x, .fz v, .fz y, .un] = .nx [.fz x, .fz v, .fz y, .un] := by
    show Fl.of ((ev _ _ (.call 0 (.cons (.var 0) .nil))).e [.fz x, .fz v, .fz y, .un]) (fun _ n1 => .nx n1) = _
    rw [z]
  exact def_ex (m := 4) (ss := [.fz x, .fz v, .fz y]) (n1 := [.fz x, .fz v, .fz y, .un]) (sv_nx z2 (sv_ex (exC (k := k + 22) (m := 12) rfl rfl e)))
end
end Z

set_option Elab.async false
set_option linter.all false
set_option maxRecDepth 100000
set_option maxHeartbeats 0
namespace Z
open PySem PySem.Spec PyProof.Rows L2
/-! ## the law's look at the form -/
def sS (s : Bool) : Str := if s then "rule" else "test"
def itD (p : PyData × Bool × Int) : PyData := .tuple [p.1, .str (sS p.2.1), .int p.2.2]
theorem isS_rule (s : Bool) : isS (sS s) "rule" = s := by cases s <;> decide +kernel
theorem isS_test (s : Bool) : isS (sS s) "test" = !s := by cases s <;> decide +kernel
theorem sh_sS (s : Bool) : SeqAt.shaped (.str (sS s)) = true := by cases s <;> decide +kernel
theorem sh_rule : SeqAt.shaped (.str "rule") = true := by decide +kernel
theorem sh_test : SeqAt.shaped (.str "test") = true := by decide +kernel
theorem shl_facts : SeqAt.shaped (.list factsD) = true := by decide +kernel
theorem shl_pairs : SeqAt.shaped (.list pairsD) = true := by decide +kernel
theorem shl_tests : SeqAt.shaped (.list testsD) = true := by decide +kernel
theorem shl_np : SeqAt.shaped (.list npD) = true := by decide +kernel
theorem shl_j3 : SeqAt.shaped (.list j3D) = true := by decide +kernel
def pN (op : Str) : Nat := if isS op "part" then 1 else 0
def stepL (s : Bool) (op : Str) (rest : List PyData) : Option (List Bool × List PyData) :=
  if s && inL factsD op then some ([], rest)
  else if s && inL npD op then (if decide (rest.length = 1 + pN op) && isI (rest.getLast?.getD .none) then some (List.replicate (pN op) true, rest.dropLast) else none)
  else if (s && inL pairsD op) || (!s && inL testsD op) then some ([true, true], rest)
  else if s && isS op "cond" then some ([false, true, true], rest)
  else if !s && inL j3D op then some (List.replicate (1 + (if isS op "no" then 0 else 1)) false, rest)
  else none
def childs (s : Bool) (op : Str) (rest : List PyData) : Option (List (PyData × Bool)) := match stepL s op rest with
  | some (ks, r) => if r.length = ks.length then some (r.zip ks) else none
  | none => none
theorem childs_num (w1 w2 : PyData → Bool) (op : Str) (rest : List PyData) : numL w1 w2 op rest = (match childs true op rest with
    | some l => l.all fun p => if p.2 then w1 p.1 else w2 p.1
    | none => false) := by
  unfold numL childs stepL pN
  rcases bs_cases op with z | z | z | z | z | z | z | z | z <;> (simp only [bsOf, List.cons.injEq, and_true] at z; obtain ⟨b1, b2, b3, b4, b5, b6, b7, b8, b9, b10⟩ := z; simp only [b1, b2, b3, b4, b5, b6, b7, b8, b9, b10]) <;>
    rcases rest with _ | ⟨x1, _ | ⟨x2, _ | ⟨x3, _ | ⟨x4, rest⟩⟩⟩⟩ <;> simp
  all_goals first | (cases isI x1 <;> rfl) | (cases isI x2 <;> cases h : w1 x1 <;> simp [h])
theorem childs_tst (w1 w2 : PyData → Bool) (op : Str) (rest : List PyData) : tstL w1 w2 op rest = (match childs false op rest with
    | some l => l.all fun p => if p.2 then w1 p.1 else w2 p.1
    | none => false) := by
  unfold tstL childs stepL pN
  rcases bs_cases op with z | z | z | z | z | z | z | z | z <;> (simp only [bsOf, List.cons.injEq, and_true] at z; obtain ⟨b1, b2, b3, b4, b5, b6, b7, b8, b9, b10⟩ := z; simp only [b1, b2, b3, b4, b5, b6, b7, b8, b9, b10]) <;>
    rcases rest with _ | ⟨x1, _ | ⟨x2, _ | ⟨x3, _ | ⟨x4, rest⟩⟩⟩⟩ <;> simp [List.replicate]
theorem childs_sz {s : Bool} {op : Str} {rest : List PyData} {l : List (PyData × Bool)} (h : childs s op rest = some l) : l.length ≤ rest.length ∧ szs (l.map (·.1)) ≤ szs rest ∧ ∀ p ∈ l, p.1 ∈ rest := by
  unfold childs at h
  split at h
  · rename_i ks r hs
    by_cases hl : r.length = ks.length
    · rw [if_pos hl] at h
      cases h
      have hm : (r.zip ks).map (·.1) = r := List.map_fst_zip (Nat.le_of_eq hl)
      have sub : szs r ≤ szs rest ∧ r.length ≤ rest.length ∧ ∀ x ∈ r, x ∈ rest := by
        unfold stepL at hs
        split at hs
        · cases hs; exact ⟨Nat.le_refl _, Nat.le_refl _, fun _ h => h⟩
        · split at hs
          · split at hs
            · cases hs
              refine ⟨?_, by rw [List.length_dropLast]; omega, fun x hx => List.dropLast_subset _ hx⟩
              rw [List.dropLast_eq_take]
              have := szs_take rest (rest.length - 1)
              omega
            · cases hs
          · split at hs
            · cases hs; exact ⟨Nat.le_refl _, Nat.le_refl _, fun _ h => h⟩
            · split at hs
              · cases hs; exact ⟨Nat.le_refl _, Nat.le_refl _, fun _ h => h⟩
              · split at hs
                · cases hs; exact ⟨Nat.le_refl _, Nat.le_refl _, fun _ h => h⟩
                · cases hs
      refine ⟨?_, ?_, fun p hp => sub.2.2 _ (List.of_mem_zip hp).1⟩
      · rw [List.length_zip]; have := sub.2.1; omega
      · rw [hm]; exact sub.1
    · rw [if_neg hl] at h; cases h
  · cases h
end Z

set_option Elab.async false
set_option linter.all false
set_option maxRecDepth 100000
set_option maxHeartbeats 0
namespace Z
open PySem PySem.Spec PyProof.Rows L2
/-! ## one turn of _law_rule_form -/
def np (s : Sl) : Prop := isPn (some s) = false
theorem np_fz (d : PyData) : np (.fz d) := rfl
theorem np_ow (d : PyData) : np (.ow d) := rfl
theorem np_un : np .un := rfl
def S.hd : S → S
  | .cons s _ => s
  | s => s
def S.tl : S → S
  | .cons _ s => s
  | s => s
def sF (n : Nat) : S := (Nat.rec b__law_rule_form_0 (fun _ s => s.tl) n : S).hd
theorem bF {T : Tb} {C : Nat → Option PyData} : sv T C b__law_rule_form_0 = sv T C (.cons (sF 0) (.cons (sF 1) (.cons (sF 2) (.cons (sF 3) (.cons (sF 4) (.cons (sF 5) (.cons (sF 6) .nil))))))) := rfl
def eF (v : PyData) (A : List PyData) (i : Int) (s3 s4 s5 s6 s7 s8 : Sl) : En := [.fz v, .ow (.list A), .fz (.int i), s3, s4, s5, s6, s7, s8, .un]
section
variable {T : Tb} {C : Nat → Option PyData} {v : PyData} {A : List PyData} {i : Int} {s3 s4 s5 s6 s7 s8 : Sl}
theorem F20_0 : ∃ k, k = decide (i = (A.length : Int)) ∧ sv T C (sF 0) (eF v A i s3 s4 s5 s6 s7 s8) = if k then .rt (.fr (.bool true)) (eF v A i s3 s4 s5 s6 s7 s8) else .nx (eF v A i s3 s4 s5 s6 s7 s8) := by
  refine ⟨_, rfl, ?_⟩
  have h : (ev T C (.op (.cmp .eq) (.cons (.pk 2) (.cons (.op .len (.cons (.pk 1) .nil)) .nil)))).t (eF v A i s3 s4 s5 s6 s7 s8) = .ok (decide (i = (A.length : Int))) (eF v A i s3 s4 s5 s6 s7 s8) := by
    refine t_cmp (p := .sl 2) (n1 := eF v A i s3 s4 s5 s6 s7 s8) rfl (op_of (r := .fr (.int A.length)) (fun _ _ => rfl) (e_one (p := .sl 1) (n1 := eF v A i s3 s4 s5 s6 s7 s8) rfl rfl rfl rfl)) (x := .int i) rfl rfl ?_
    show (if SeqAt.shaped (.int i) && SeqAt.shaped (.int A.length) then some (PyData.eqv (.int i) (.int A.length)) else none) = _
    rw [shaped_int, shaped_int, eqv_int]; rfl
  cases hk : decide (i = (A.length : Int)) <;> rw [hk] at h
  · exact sv_iff h sv_end
  · exact sv_ift h (sv_rt rfl)
theorem F20_1 (h3 : np s3) (h4 : np s4) (h5 : np s5) {x y z : PyData} (hA : atI A i = some (.tuple [x, y, z])) : sv T C (sF 1) (eF v A i s3 s4 s5 s6 s7 s8) = .nx (eF v A i (.fz x) (.fz y) (.fz z) s6 s7 s8) := by
  refine sv_setT (r := .fr (.tuple [x, y, z])) (ds := [x, y, z]) (e_two (p := .sl 1) (q := .sl 2) (n1 := eF v A i s3 s4 s5 s6 s7 s8) (n2 := eF v A i s3 s4 s5 s6 s7 s8) (x := .list A) (y := .int i) rfl rfl rfl rfl rfl ?_) rfl ?_
  · show (atI A i).map R.fr = _
    rw [hA]; rfl
  · rw [setAll_cons (t := s3) rfl h3, setAll_cons (t := s4) rfl h4, setAll_cons (t := s5) rfl h5]; rfl
/-- the look ahead: false where it is a text's tuple -/
theorem F20_2f {op : Str} {rest : List PyData} {m : Int} (h1 : ¬ m < 1) : sv T C (sF 2) (eF v A i (.fz (.tuple (.str op :: rest))) s4 (.fz (.int m)) s6 s7 s8) = .nx (eF v A i (.fz (.tuple (.str op :: rest))) s4 (.fz (.int m)) s6 s7 s8) := by
  refine sv_iff (n1 := eF v A i (.fz (.tuple (.str op :: rest))) s4 (.fz (.int m)) s6 s7 s8) ?_ sv_end
  have ht : isTy .str (.str op) = true := rfl
  simp [evDef, sv, ev, Fl.of, Ev.val, Ev.no, Ev.itr, opd_pk, opd_io, opd_var, opd_cst, opd_glb, opd_op, opd_chn, opd_slc, opd_and, opd_or, opd_not, opd_ife, opd_call, opd_lc, Ou.bd, zOp, opdl, retains, rsl, Z.rs, frl, opD, binD, cmpD, Ou.of, slD, atI, ixN, eqv_int, shaped_int, dbl, dint, zVar, zPkT, putR, ownAt, R.sl, R.d, finD, truD, zCall, locT, cstC, argsS, argS, ioIx, afterCall, putBack, zAnd, zOr, zNot, zChn, zSlc, slcD, cutD, Tg.put, setAll, seqD, isTy_tt, fmtOk, fitL, zRng1, zRng2, smallI, zChn3, zLrg1, zLrg2, zEnm, zZip, opd_chn3, opd_lrg1, opd_lrg2, eF, h1, ht]
theorem F20_2t {x : PyData} {m : Int} (h : m < 1 ∨ ∀ op rest, x ≠ .tuple (.str op :: rest)) : sv T C (sF 2) (eF v A i (.fz x) s4 (.fz (.int m)) s6 s7 s8) = .rt (.fr (.bool false)) (eF v A i (.fz x) s4 (.fz (.int m)) s6 s7 s8) := by
  refine sv_ift (n1 := eF v A i (.fz x) s4 (.fz (.int m)) s6 s7 s8) ?_ (sv_rt rfl)
  by_cases h1 : m < 1
  · simp [evDef, sv, ev, Fl.of, Ev.val, Ev.no, Ev.itr, opd_pk, opd_io, opd_var, opd_cst, opd_glb, opd_op, opd_chn, opd_slc, opd_and, opd_or, opd_not, opd_ife, opd_call, opd_lc, Ou.bd, zOp, opdl, retains, rsl, Z.rs, frl, opD, binD, cmpD, Ou.of, slD, atI, ixN, eqv_int, shaped_int, dbl, dint, zVar, zPkT, putR, ownAt, R.sl, R.d, finD, truD, zCall, locT, cstC, argsS, argS, ioIx, afterCall, putBack, zAnd, zOr, zNot, zChn, zSlc, slcD, cutD, Tg.put, setAll, seqD, isTy_tt, fmtOk, fitL, zRng1, zRng2, smallI, zChn3, zLrg1, zLrg2, zEnm, zZip, opd_chn3, opd_lrg1, opd_lrg2, eF, h1]
  · have hs := h.resolve_left h1
    cases x
    case tuple xs =>
      rcases xs with _ | ⟨x, xs⟩
      · simp [evDef, sv, ev, Fl.of, Ev.val, Ev.no, Ev.itr, opd_pk, opd_io, opd_var, opd_cst, opd_glb, opd_op, opd_chn, opd_slc, opd_and, opd_or, opd_not, opd_ife, opd_call, opd_lc, Ou.bd, zOp, opdl, retains, rsl, Z.rs, frl, opD, binD, cmpD, Ou.of, slD, atI, ixN, eqv_int, shaped_int, dbl, dint, zVar, zPkT, putR, ownAt, R.sl, R.d, finD, truD, zCall, locT, cstC, argsS, argS, ioIx, afterCall, putBack, zAnd, zOr, zNot, zChn, zSlc, slcD, cutD, Tg.put, setAll, seqD, isTy_tt, fmtOk, fitL, zRng1, zRng2, smallI, zChn3, zLrg1, zLrg2, zEnm, zZip, opd_chn3, opd_lrg1, opd_lrg2, eF, h1]
      · have hx : isTy .str x = false := by cases x <;> first | rfl | exact absurd rfl (hs _ _)
        simp [evDef, sv, ev, Fl.of, Ev.val, Ev.no, Ev.itr, opd_pk, opd_io, opd_var, opd_cst, opd_glb, opd_op, opd_chn, opd_slc, opd_and, opd_or, opd_not, opd_ife, opd_call, opd_lc, Ou.bd, zOp, opdl, retains, rsl, Z.rs, frl, opD, binD, cmpD, Ou.of, slD, atI, ixN, eqv_int, shaped_int, dbl, dint, zVar, zPkT, putR, ownAt, R.sl, R.d, finD, truD, zCall, locT, cstC, argsS, argS, ioIx, afterCall, putBack, zAnd, zOr, zNot, zChn, zSlc, slcD, cutD, Tg.put, setAll, seqD, isTy_tt, fmtOk, fitL, zRng1, zRng2, smallI, zChn3, zLrg1, zLrg2, zEnm, zZip, opd_chn3, opd_lrg1, opd_lrg2, eF, h1, hx]
    all_goals
      have ht : ∀ z : PyData, (∀ xs, z ≠ .tuple xs) → isTy .tuple z = false := fun z hz => by cases z <;> first | rfl | exact absurd rfl (hz _)
      simp [evDef, sv, ev, Fl.of, Ev.val, Ev.no, Ev.itr, opd_pk, opd_io, opd_var, opd_cst, opd_glb, opd_op, opd_chn, opd_slc, opd_and, opd_or, opd_not, opd_ife, opd_call, opd_lc, Ou.bd, zOp, opdl, retains, rsl, Z.rs, frl, opD, binD, cmpD, Ou.of, slD, atI, ixN, eqv_int, shaped_int, dbl, dint, zVar, zPkT, putR, ownAt, R.sl, R.d, finD, truD, zCall, locT, cstC, argsS, argS, ioIx, afterCall, putBack, zAnd, zOr, zNot, zChn, zSlc, slcD, cutD, Tg.put, setAll, seqD, isTy_tt, fmtOk, fitL, zRng1, zRng2, smallI, zChn3, zLrg1, zLrg2, zEnm, zZip, opd_chn3, opd_lrg1, opd_lrg2, eF, h1, ht]
theorem F20_3 {x : PyData} {rest : List PyData} (h6 : np s6) (h7 : np s7) (hz : 2 ≤ sizeLine) : sv T C (sF 3) (eF v A i (.fz (.tuple (x :: rest))) s4 s5 s6 s7 s8) = .nx (eF v A i (.fz (.tuple (x :: rest))) s4 s5 (.fz x) (.fz (.tuple rest)) s8) := by
  let n := eF v A i (.fz (.tuple (x :: rest))) s4 s5 s6 s7 s8
  have e1 : (ev T C (.op .idx (.cons (.pk 3) (.cons (.cst (.int 0)) .nil)))).e n = .ok (.fr x) n := e_at (xs := x :: rest) rfl (atI0 _ _)
  have e2 : (ev T C (.op (.slc true false) (.cons (.pk 3) (.cons (.cst (.int 1)) .nil)))).e n = .ok (.fr (.tuple rest)) n := by
    refine e_two (p := .sl 3) (n1 := n) rfl rfl (op_of (r := .fr (.int 1)) (n1 := n) (fun _ _ => rfl) rfl) (x := .tuple (x :: rest)) rfl rfl ?_
    show some (R.fr (.tuple (cutD (x :: rest) (some 1) none))) = _
    rw [cut1]
  refine sv_setT (r := .fr (.tuple [x, .tuple rest])) (ds := [x, .tuple rest]) (n1 := n) (e_tup (l_cons (op_of (fun _ _ => rfl) e1) (l_cons (op_of (fun _ _ => rfl) e2) l_nil)) hz) rfl ?_
  show setAll (eF v A i (.fz (.tuple (x :: rest))) s4 s5 s6 s7 s8) _ _ = _
  rw [setAll_cons (t := s6) rfl h6, setAll_cons (t := s7) rfl h7]; rfl
end
end Z

set_option Elab.async false
set_option linter.all false
set_option maxRecDepth 100000
set_option maxHeartbeats 0
namespace Z
open PySem PySem.Spec PyProof.Rows L2
theorem sh_part' : SeqAt.shaped (.str "part") = true := sh_part
theorem cut_last (xs : List PyData) : cutD xs none (some (-1)) = xs.dropLast := by
  unfold cutD HT.sIx
  dsimp only
  rw [if_pos (by omega), List.drop_zero, Nat.sub_zero, List.dropLast_eq_take]
  congr 1
  omega
theorem atI_last {xs : List PyData} (h : xs ≠ []) : atI xs (-1) = some (xs.getLast?.getD .none) := by
  have hl : 0 < xs.length := List.length_pos_iff.mpr h
  have e : ixN xs.length (-1) = some (xs.length - 1) := by
    unfold ixN
    first | (rw [if_neg (by omega), if_pos (by omega)]; congr 1; omega) | (simp; omega)
  unfold atI
  rw [e]
  show xs[xs.length - 1]? = _
  rw [← List.getLast?_eq_getElem?]
  cases q : xs.getLast? with
  | none => exact absurd (List.getLast?_eq_none_iff.mp q) h
  | some y => rfl
def kD (ks : List Bool) : PyData := .list (ks.map fun b => .str (sS b))
/-- the slot of sorts -/
def isK (ks : List Bool) (s : Sl) : Prop := s = .ow (kD ks) ∨ s = .fz (kD ks)
theorem isK.np {ks : List Bool} {s : Sl} (h : isK ks s) : np s := by rcases h with rfl | rfl <;> rfl
section
variable {T : Tb} {C : Nat → Option PyData} {v : PyData} {A : List PyData} {i : Int} {x : PyData} {op : Str} {rest : List PyData} {s5 s8 : Sl} {s : Bool}
theorem F20_4 (t0 : ∃ k, T 0 = some (1, Fd k 19)) (so : SeqAt.shaped (.str op) = true) (hz : 5 ≤ sizeLine) (h8 : np s8) : match stepL s op rest with
    | none => sv T C (sF 4) (eF v A i (.fz x) (.fz (.str (sS s))) s5 (.fz (.str op)) (.fz (.tuple rest)) s8) = .rt (.fr (.bool false)) (eF v A i (.fz x) (.fz (.str (sS s))) s5 (.fz (.str op)) (.fz (.tuple rest)) s8)
    | some (ks, r) => ∃ s8', isK ks s8' ∧ sv T C (sF 4) (eF v A i (.fz x) (.fz (.str (sS s))) s5 (.fz (.str op)) (.fz (.tuple rest)) s8) = .nx (eF v A i (.fz x) (.fz (.str (sS s))) s5 (.fz (.str op)) (.fz (.tuple r)) s8') := by
  obtain ⟨k, t0⟩ := t0
  let n := eF v A i (.fz x) (.fz (.str (sS s))) s5 (.fz (.str op)) (.fz (.tuple rest)) s8
  have hn : eF v A i (.fz x) (.fz (.str (sS s))) s5 (.fz (.str op)) (.fz (.tuple rest)) s8 = n := rfl
  rw [hn]
  have r4 := t_eqS (T := T) (C := C) (n := n) (i := 4) (op := sS s) rfl (sh_sS s) sh_rule
  rw [isS_rule] at r4
  have u4 := t_eqS (T := T) (C := C) (n := n) (i := 4) (op := sS s) rfl (sh_sS s) sh_test
  rw [isS_test] at u4
  have lf := e_lst (T := T) (C := C) (n := n) (n1 := n) (ds := factsD) (as := (.cons (.cst (.str "buffer")) (.cons (.cst (.str "piece")) (.cons (.cst (.str "last")) (.cons (.cst (.str "units")) (.cons (.cst (.str "rates")) .nil)))))) rfl hz
  have ln := e_lst (T := T) (C := C) (n := n) (n1 := n) (ds := npD) (as := (.cons (.cst (.str "number")) (.cons (.cst (.str "part")) .nil))) rfl (Nat.le_trans (by decide) hz)
  have lp := e_lst (T := T) (C := C) (n := n) (n1 := n) (ds := pairsD) (as := (.cons (.cst (.str "add")) (.cons (.cst (.str "sub")) (.cons (.cst (.str "mul")) (.cons (.cst (.str "least")) (.cons (.cst (.str "most")) .nil)))))) rfl hz
  have lt := e_lst (T := T) (C := C) (n := n) (n1 := n) (ds := testsD) (as := (.cons (.cst (.str "less")) (.cons (.cst (.str "equal")) .nil))) rfl (Nat.le_trans (by decide) hz)
  have lj := e_lst (T := T) (C := C) (n := n) (n1 := n) (ds := j3D) (as := (.cons (.cst (.str "both")) (.cons (.cst (.str "either")) (.cons (.cst (.str "no")) .nil)))) rfl (Nat.le_trans (by decide) hz)
  have q0 := and2t r4 fun _ => t_inD (i := 6) (op := op) rfl lf so shl_facts
  have q1 := and2t r4 fun _ => t_inD (i := 6) (op := op) rfl ln so shl_np
  have q2 := or2t (and2t r4 fun _ => t_inD (i := 6) (op := op) rfl lp so shl_pairs) fun _ => and2t u4 fun _ => t_inD (i := 6) (op := op) rfl lt so shl_tests
  have q3 := and2t r4 fun _ => t_eqS (T := T) (C := C) (n := n) (i := 6) (op := op) rfl so sh_cond
  have q4 := and2t u4 fun _ => t_inD (i := 6) (op := op) rfl lj so shl_j3
  have set8 : ∀ {a : E} {ks : List Bool}, (ev T C a).e n = .ok (.nw (kD ks)) n → sv T C (.cons (.set (.nm 8) a) .nil) n = .nx (eF v A i (.fz x) (.fz (.str (sS s))) s5 (.fz (.str op)) (.fz (.tuple rest)) (.ow (kD ks))) := by
    intro a ks h
    exact sv_nx (sv_set (t := s8) h rfl h8) sv_end
  unfold stepL
  cases b0 : (s && inL factsD op) <;> rw [b0] at q0
  · rw [if_neg Bool.false_ne_true]
    cases b1 : (s && inL npD op) <;> rw [b1] at q1
    · rw [if_neg Bool.false_ne_true]
      cases b2 : ((s && inL pairsD op) || (!s && inL testsD op)) <;> rw [b2] at q2
      · rw [if_neg Bool.false_ne_true]
        cases b3 : (s && isS op "cond") <;> rw [b3] at q3
        · rw [if_neg Bool.false_ne_true]
          cases b4 : (!s && inL j3D op) <;> rw [b4] at q4
          · rw [if_neg Bool.false_ne_true]
            exact sv_iff q0 (sv_rt (sv_iff q1 (sv_rt (sv_iff q2 (sv_rt (sv_iff q3 (sv_rt (sv_iff q4 (sv_rt rfl)))))))))
          · rw [if_pos rfl]
            refine ⟨_, .inl rfl, sv_iff q0 (sv_nx (sv_iff q1 (sv_nx (sv_iff q2 (sv_nx (sv_iff q3 (sv_nx (sv_ift q4 (set8 (ks := List.replicate (1 + (if isS op "no" then 0 else 1)) false) ?_)) sv_end)) sv_end)) sv_end)) sv_end)⟩
            have en : (ev T C (.op (.cmp .ne) (.cons (.pk 6) (.cons (.cst (.str "no")) .nil)))).e n = .ok (dbl (!isS op "no")) n := by
              refine e_cmp (p := .sl 6) (n1 := n) rfl (op_of (r := .fr (.str "no")) (n1 := n) (fun _ _ => rfl) rfl) (x := .str op) rfl rfl ?_
              show (if SeqAt.shaped (.str op) && SeqAt.shaped (.str "no") then some (!PyData.eqv (.str op) (.str "no")) else none) = _
              rw [so, sh_no]; rfl
            have ei : (ev T C (.op .int1 (.cons (.op (.cmp .ne) (.cons (.pk 6) (.cons (.cst (.str "no")) .nil))) .nil))).e n = .ok (.fr (.int (if !isS op "no" then 1 else 0))) n := e_one rfl (op_of (fun _ _ => rfl) en) (x := .bool (!isS op "no")) rfl rfl
            have ea : (ev T C (.op (.bin .add) (.cons (.cst (.int 1)) (.cons (.op .int1 (.cons (.op (.cmp .ne) (.cons (.pk 6) (.cons (.cst (.str "no")) .nil))) .nil)) .nil)))).e n = .ok (.fr (.int (1 + (if !isS op "no" then 1 else 0)))) n := e_two rfl (op_of (r := .fr (.int 1)) (n1 := n) (fun _ _ => rfl) rfl) (op_of (fun _ _ => rfl) ei) rfl rfl rfl
            have l1 := e_lst (T := T) (C := C) (n := n) (n1 := n) (ds := [.str "test"]) (as := (.cons (.cst (.str "test")) .nil)) rfl (Nat.le_trans (by decide) hz)
            refine e_two rfl (op_of (fun _ _ => rfl) l1) (op_of (fun _ _ => rfl) ea) rfl rfl ?_
            have z1 : (1 : Nat) ≤ sizeLine := by omega
            have z2 : (2 : Nat) ≤ sizeLine := by omega
            cases isS op "no"
            · have y : (if rngOk 2 && fitL 2 then some (R.nw (.list (List.replicate 2 [PyData.str "test"]).flatten)) else none) = some (.nw (kD (List.replicate 2 false))) := by rw [show fitL 2 = true from decide_eq_true z2]; rfl
              exact y
            · have y : (if rngOk 1 && fitL 1 then some (R.nw (.list (List.replicate 1 [PyData.str "test"]).flatten)) else none) = some (.nw (kD (List.replicate 1 false))) := by rw [show fitL 1 = true from decide_eq_true z1]; rfl
              exact y
        · rw [if_pos rfl]
          refine ⟨_, .inl rfl, sv_iff q0 (sv_nx (sv_iff q1 (sv_nx (sv_iff q2 (sv_nx (sv_ift q3 (set8 (ks := [false, true, true]) ?_)) sv_end)) sv_end)) sv_end)⟩
          exact e_lst (ds := [.str "test", .str "rule", .str "rule"]) rfl (Nat.le_trans (by decide) hz)
      · rw [if_pos rfl]
        refine ⟨_, .inl rfl, sv_iff q0 (sv_nx (sv_iff q1 (sv_nx (sv_ift q2 (set8 (ks := [true, true]) ?_)) sv_end)) sv_end)⟩
        exact e_lst (ds := [.str "rule", .str "rule"]) rfl (Nat.le_trans (by decide) hz)
    · rw [if_pos rfl]
      have en : (ev T C (.op (.cmp .eq) (.cons (.pk 6) (.cons (.cst (.str "part")) .nil)))).e n = .ok (dbl (isS op "part")) n := e_eqS rfl so sh_part
      have ei : (ev T C (.op .int1 (.cons (.op (.cmp .eq) (.cons (.pk 6) (.cons (.cst (.str "part")) .nil))) .nil))).e n = .ok (.fr (.int (if isS op "part" then 1 else 0))) n := e_one rfl (op_of (fun _ _ => rfl) en) (x := .bool (isS op "part")) rfl rfl
      have ea : (ev T C (.op (.bin .add) (.cons (.cst (.int 1)) (.cons (.op .int1 (.cons (.op (.cmp .eq) (.cons (.pk 6) (.cons (.cst (.str "part")) .nil))) .nil)) .nil)))).e n = .ok (.fr (.int (1 + (if isS op "part" then 1 else 0)))) n := e_two rfl (op_of (r := .fr (.int 1)) (n1 := n) (fun _ _ => rfl) rfl) (op_of (fun _ _ => rfl) ei) rfl rfl rfl
      have pk : (if isS op "part" then (1 : Int) else 0) = (pN op : Int) := by unfold pN; cases isS op "part" <;> rfl
      rw [pk] at ei ea
      have hl : (ev T C (.op (.cmp .ne) (.cons (.op .len (.cons (.pk 7) .nil)) (.cons (.op (.bin .add) (.cons (.cst (.int 1)) (.cons (.op .int1 (.cons (.op (.cmp .eq) (.cons (.pk 6) (.cons (.cst (.str "part")) .nil))) .nil)) .nil))) .nil)))).t n = .ok (!decide (rest.length = 1 + pN op)) n := by
        refine t_cmp (op_of (fun _ _ => rfl) (e_len (i := 7) (xs := rest) rfl)) (op_of (fun _ _ => rfl) ea) rfl rfl ?_
        show (if SeqAt.shaped (.int rest.length) && SeqAt.shaped (.int (1 + (pN op : Int))) then some (!PyData.eqv (.int (rest.length : Int)) (.int (1 + (pN op : Int)))) else none) = _
        rw [shaped_int, shaped_int, eqv_int]
        have : decide ((rest.length : Int) = 1 + (pN op : Int)) = decide (rest.length = 1 + pN op) := by
          refine decide_eq_decide.mpr ?_
          omega
        rw [this]; rfl
      have hq : (ev T C (.or (.op (.cmp .ne) (.cons (.op .len (.cons (.pk 7) .nil)) (.cons (.op (.bin .add) (.cons (.cst (.int 1)) (.cons (.op .int1 (.cons (.op (.cmp .eq) (.cons (.pk 6) (.cons (.cst (.str "part")) .nil))) .nil)) .nil))) .nil))) (.not (.call 0 (.cons (.op .idx (.cons (.pk 7) (.cons (.op .neg (.cons (.cst (.int 1)) .nil)) .nil))) .nil))))).t n = .ok (!(decide (rest.length = 1 + pN op) && isI (rest.getLast?.getD .none))) n := by
        by_cases g : rest.length = 1 + pN op
        · rw [decide_eq_true g] at hl ⊢
          rw [Bool.true_and]
          have gn : rest ≠ [] := by intro e; rw [e] at g; simp at g; omega
          have e1 : (ev T C (.op .neg (.cons (.cst (.int 1)) .nil))).e n = .ok (.fr (.int (-1))) n := rfl
          have e2 : (ev T C (.op .idx (.cons (.pk 7) (.cons (.op .neg (.cons (.cst (.int 1)) .nil)) .nil)))).e n = .ok (.fr (rest.getLast?.getD .none)) n := by
            refine e_two (p := .sl 7) (n1 := n) rfl rfl (op_of (fun _ _ => rfl) e1) (x := .tuple rest) rfl rfl ?_
            show (atI rest (-1)).map R.fr = _
            rw [atI_last gn]; rfl
          have e3 := e_call1 t0 (op_of (fun _ _ => rfl) e2) (F19' k (rest.getLast?.getD .none)) rfl
          refine t_or_f hl (t_notB ?_)
          show ((ev T C (.call 0 _)).e n).bd (fun r n1 => .of (truD r.d) n1) = _
          rw [e3]; rfl
        · rw [decide_eq_false g] at hl ⊢
          exact t_or_t hl
      cases b5 : (decide (rest.length = 1 + pN op) && isI (rest.getLast?.getD .none)) <;> rw [b5] at hq
      · rw [if_neg Bool.false_ne_true]
        exact sv_iff q0 (sv_rt (sv_ift q1 (sv_rt (sv_ift hq (sv_rt rfl)))))
      · rw [if_pos rfl]
        have l1 := e_lst (T := T) (C := C) (n := n) (n1 := n) (ds := [.str "rule"]) (as := (.cons (.cst (.str "rule")) .nil)) rfl (Nat.le_trans (by decide) hz)
        have em : (ev T C (.op (.bin .mul) (.cons (.op .lst (.cons (.cst (.str "rule")) .nil)) (.cons (.op .int1 (.cons (.op (.cmp .eq) (.cons (.pk 6) (.cons (.cst (.str "part")) .nil))) .nil)) .nil)))).e n = .ok (.nw (kD (List.replicate (pN op) true))) n := by
          refine e_two rfl (op_of (fun _ _ => rfl) l1) (op_of (fun _ _ => rfl) ei) rfl rfl ?_
          unfold pN
          have z1 : (1 : Nat) ≤ sizeLine := by omega
          have z0 : (0 : Nat) ≤ sizeLine := by omega
          cases isS op "part"
          · have y : (if rngOk 0 && fitL 0 then some (R.nw (.list (List.replicate 0 [PyData.str "rule"]).flatten)) else none) = some (.nw (kD (List.replicate 0 true))) := by rw [show fitL 0 = true from decide_eq_true z0]; rfl
            exact y
          · have y : (if rngOk 1 && fitL 1 then some (R.nw (.list (List.replicate 1 [PyData.str "rule"]).flatten)) else none) = some (.nw (kD (List.replicate 1 true))) := by rw [show fitL 1 = true from decide_eq_true z1]; rfl
            exact y
        have es : (ev T C (.op (.slc false true) (.cons (.pk 7) (.cons (.op .neg (.cons (.cst (.int 1)) .nil)) .nil)))).e n = .ok (.fr (.tuple rest.dropLast)) n := by
          refine e_two (p := .sl 7) (n1 := n) rfl rfl (op_of (r := .fr (.int (-1))) (n1 := n) (fun _ _ => rfl) rfl) (x := .tuple rest) rfl rfl ?_
          show some (R.fr (.tuple (cutD rest none (some (-1))))) = _
          rw [cut_last]
        have e8 := e_tup (l_cons (op_of (fun _ _ => rfl) em) (l_cons (op_of (fun _ _ => rfl) es) l_nil)) (show 2 ≤ sizeLine by omega)
        refine ⟨_, .inr rfl, sv_iff q0 (sv_nx (sv_ift q1 (sv_nx (sv_iff hq sv_end) (sv_nx (sv_setT e8 rfl ?_) sv_end))) sv_end)⟩
        show setAll (eF v A i (.fz x) (.fz (.str (sS s))) s5 (.fz (.str op)) (.fz (.tuple rest)) s8) _ _ = _
        rw [setAll_cons (t := s8) rfl h8]; rfl
  · rw [if_pos rfl]
    refine ⟨_, .inl rfl, sv_ift q0 (set8 (ks := []) ?_)⟩
    exact e_lst (ds := []) rfl (Nat.zero_le _)
end
end Z

set_option Elab.async false
set_option linter.all false
set_option maxRecDepth 100000
set_option maxHeartbeats 0
namespace Z
open PySem PySem.Spec PyProof.Rows L2
theorem K_opd {T : Tb} {C : Nat → Option PyData} {v : PyData} {A : List PyData} {i : Int} {s3 s4 s5 s6 s7 s8 : Sl} {ks : List Bool} (h : isK ks s8) : opd (.pk 8) (ev T C (.pk 8)).e (eF v A i s3 s4 s5 s6 s7 s8) = .ok (.sl 8) (eF v A i s3 s4 s5 s6 s7 s8) ∧ Z.rs (eF v A i s3 s4 s5 s6 s7 s8) (.sl 8) = some (kD ks) := by
  rcases h with rfl | rfl <;> exact ⟨rfl, rfl⟩
theorem K_len {T : Tb} {C : Nat → Option PyData} {v : PyData} {A : List PyData} {i : Int} {s3 s4 s5 s6 s7 s8 : Sl} {ks : List Bool} (h : isK ks s8) : (ev T C (.op .len (.cons (.pk 8) .nil))).e (eF v A i s3 s4 s5 s6 s7 s8) = .ok (.fr (.int ks.length)) (eF v A i s3 s4 s5 s6 s7 s8) := by
  refine e_one rfl (K_opd h).1 (K_opd (T := T) (C := C) h).2 ?_
  show some (R.fr (.int ((ks.map fun b => PyData.str (sS b)).length : Nat))) = _
  rw [List.length_map]
theorem rangeD_mem {n : Nat} {x : PyData} (h : x ∈ rangeD 0 n) : ∃ j : Nat, x = .int j ∧ j < n := by
  unfold rangeD at h
  obtain ⟨j, hj, rfl⟩ := List.mem_map.mp h
  refine ⟨j, by simp, ?_⟩
  have := List.mem_range.mp hj
  omega
def jN : PyData → Nat
  | .int i => i.toNat
  | _ => 0
theorem gD {α : Type} {l : List α} {j : Nat} {d : α} (h : j < l.length) : l.getD j d = l[j] := by
  rw [List.getD_eq_getElem?_getD, List.getElem?_eq_getElem h]; rfl
theorem atI_nat {xs : List PyData} {j : Nat} (h : j < xs.length) : atI xs (j : Int) = some xs[j] := by
  have e : ixN xs.length (j : Int) = some j := by
    unfold ixN
    rw [if_pos (by omega), if_pos (by omega)]
    rfl
  unfold atI
  rw [e]
  show xs[j]? = _
  exact List.getElem?_eq_getElem h
section
variable {T : Tb} {C : Nat → Option PyData} {v x : PyData} {A : List PyData} {i m : Int} {r : List PyData} {s4 s6 s8 : Sl} {ks : List Bool}
theorem F20_5 (h8 : isK ks s8) : sv T C (sF 5) (eF v A i (.fz x) s4 (.fz (.int m)) s6 (.fz (.tuple r)) s8) = if r.length = ks.length then .nx (eF v A i (.fz x) s4 (.fz (.int m)) s6 (.fz (.tuple r)) s8) else .rt (.fr (.bool false)) (eF v A i (.fz x) s4 (.fz (.int m)) s6 (.fz (.tuple r)) s8) := by
  have h : (ev T C (.op (.cmp .ne) (.cons (.op .len (.cons (.pk 7) .nil)) (.cons (.op .len (.cons (.pk 8) .nil)) .nil)))).t (eF v A i (.fz x) s4 (.fz (.int m)) s6 (.fz (.tuple r)) s8) = .ok (!decide (r.length = ks.length)) (eF v A i (.fz x) s4 (.fz (.int m)) s6 (.fz (.tuple r)) s8) := by
    refine t_cmp (op_of (fun _ _ => rfl) (e_len (i := 7) (xs := r) rfl)) (op_of (fun _ _ => rfl) (K_len h8)) rfl rfl ?_
    show (if SeqAt.shaped (.int r.length) && SeqAt.shaped (.int ks.length) then some (!PyData.eqv (.int (r.length : Int)) (.int ks.length)) else none) = _
    rw [shaped_int, shaped_int, eqv_int]
    have : decide ((r.length : Int) = (ks.length : Int)) = decide (r.length = ks.length) := decide_eq_decide.mpr (by omega)
    rw [this]; rfl
  by_cases g : r.length = ks.length
  · rw [if_pos g]
    rw [decide_eq_true g] at h
    exact sv_iff h sv_end
  · rw [if_neg g]
    rw [decide_eq_false g] at h
    exact sv_ift h (sv_rt rfl)
theorem K_lc (h8 : isK ks s8) (hl : r.length = ks.length) (hz : r.length ≤ 16000000) (hs : 3 ≤ sizeLine ∧ r.length ≤ sizeLine) : (ev T C l__law_rule_form_0).e (eF v A i (.fz x) s4 (.fz (.int m)) s6 (.fz (.tuple r)) s8) = .ok (.nw (.list ((r.zip ks).map fun p => itD (p.1, p.2, m - 1)))) (eF v A i (.fz x) s4 (.fz (.int m)) s6 (.fz (.tuple r)) s8) := by
  have hr : rngOk (ks.length : Int) = true := by
    unfold rngOk
    refine decide_eq_true ?_
    omega
  have hi := rng1_ok (op_of (fun _ _ => rfl) (K_len (T := T) (C := C) (v := v) (A := A) (i := i) (s3 := .fz x) (s4 := s4) (s5 := .fz (.int m)) (s6 := s6) (s7 := .fz (.tuple r)) h8)) rfl hr
  have e := zLc_look (tg := .nm 9) (own := [9]) (n0 := eF v A i (.fz x) s4 (.fz (.int m)) s6 (.fz (.tuple r)) s8) (p := fun _ => true)
    (fc := (ev T C .yes).t) (fe := (ev T C (.op .tup (.cons (.op .idx (.cons (.pk 7) (.cons (.pk 9) .nil))) (.cons (.op .idx (.cons (.pk 8) (.cons (.pk 9) .nil))) (.cons (.op (.bin .sub) (.cons (.pk 5) (.cons (.cst (.int 1)) .nil))) .nil))))).e)
    (f := fun y => itD (r.getD (jN y) .none, ks.getD (jN y) false, m - 1)) hi rfl rfl rfl (fun y hy => by
      obtain ⟨j, rfl, hj⟩ := rangeD_mem hy
      have hjr : j < r.length := by omega
      let n9 : En := [.fz v, .ow (.list A), .fz (.int i), .fz x, s4, .fz (.int m), s6, .fz (.tuple r), s8, .fz (.int j)]
      refine ⟨n9, rfl, rfl, rfl, fun _ => ?_⟩
      have e1 : (ev T C (.op .idx (.cons (.pk 7) (.cons (.pk 9) .nil)))).e n9 = .ok (.fr r[j]) n9 := by
        refine e_two (p := .sl 7) (q := .sl 9) (n1 := n9) rfl rfl rfl (x := .tuple r) (y := .int j) rfl rfl ?_
        show (atI r (j : Int)).map R.fr = _
        rw [atI_nat hjr]; rfl
      have e2 : (ev T C (.op .idx (.cons (.pk 8) (.cons (.pk 9) .nil)))).e n9 = .ok (.fr (.str (sS ks[j]))) n9 := by
        have o : opd (.pk 8) (ev T C (.pk 8)).e n9 = .ok (.sl 8) n9 ∧ Z.rs n9 (.sl 8) = some (kD ks) := by rcases h8 with rfl | rfl <;> exact ⟨rfl, rfl⟩
        refine e_two (q := .sl 9) (n1 := n9) rfl o.1 rfl o.2 (y := .int j) rfl ?_
        show (atI (ks.map fun b => PyData.str (sS b)) (j : Int)).map R.fr = _
        rw [atI_nat (by rw [List.length_map]; exact hj), List.getElem_map]; rfl
      have e3 : (ev T C (.op (.bin .sub) (.cons (.pk 5) (.cons (.cst (.int 1)) .nil)))).e n9 = .ok (.fr (.int (m - 1))) n9 := e_dec rfl
      refine ⟨_, e_tup (l_cons (op_of (fun _ _ => rfl) e1) (l_cons (op_of (fun _ _ => rfl) e2) (l_cons (op_of (fun _ _ => rfl) e3) l_nil))) hs.1, ?_⟩
      show PyData.tuple [r[j], .str (sS ks[j]), .int (m - 1)] = .tuple [r.getD j .none, .str (sS (ks.getD j false)), .int (m - 1)]
      rw [gD hjr, gD hj])
    (by unfold rangeD; rw [List.length_map, List.length_range]; omega)
  rw [ft] at e
  have q : (rangeD 0 (ks.length : Int)).map (fun y => itD (r.getD (jN y) .none, ks.getD (jN y) false, m - 1)) = (r.zip ks).map fun p => itD (p.1, p.2, m - 1) := by
    unfold rangeD
    refine List.ext_getElem ?_ fun j h1 h2 => ?_
    · simp; omega
    · have hj : j < ks.length := by simp at h1; exact h1
      simp only [List.getElem_map, List.getElem_range, List.getElem_zip]
      have hjN : jN (.int (0 + (j : Int))) = j := by show (0 + (j : Int)).toNat = j; omega
      rw [hjN, gD (show j < r.length by omega), gD hj]
  rw [q] at e
  exact e
theorem F20_6 (h8 : isK ks s8) (hl : r.length = ks.length) (hz : r.length ≤ 16000000) (hs : 3 ≤ sizeLine ∧ r.length ≤ sizeLine) (hA : A.length + r.length ≤ sizeLine) : sv T C (sF 6) (eF v A i (.fz x) s4 (.fz (.int m)) s6 (.fz (.tuple r)) s8) = .nx (eF v (A ++ (r.zip ks).map fun p => itD (p.1, p.2, m - 1)) i (.fz x) s4 (.fz (.int m)) s6 (.fz (.tuple r)) s8) := by
  refine sv_ext (i := 1) (a := l__law_rule_form_0) (n1 := eF v A i (.fz x) s4 (.fz (.int m)) s6 (.fz (.tuple r)) s8) (ds := A) ?_ (K_lc h8 hl hz hs) rfl rfl ?_
  · intro h; cases h
  · rw [List.length_map, List.length_zip]; omega
end
/-- a whole turn -/
theorem turnF {T : Tb} {C : Nat → Option PyData} {v x : PyData} {A : List PyData} {i : Nat} {s3 s4 s5 s6 s7 s8 : Sl} {s : Bool} {m : Int} (t0 : ∃ k, T 0 = some (1, Fd k 19)) (h3 : np s3) (h4 : np s4) (h5 : np s5) (h6 : np s6) (h7 : np s7) (h8 : np s8) (hi : i < A.length) (hA : A[i] = itD (x, s, m)) (hz : 5 ≤ sizeLine) :
    (m < 1 ∨ (∀ op rest, x ≠ .tuple (.str op :: rest)) → ∃ n', sv T C b__law_rule_form_0 (eF v A i s3 s4 s5 s6 s7 s8) = .rt (.fr (.bool false)) n') ∧
    (∀ op rest, ¬ m < 1 → x = .tuple (.str op :: rest) → SeqAt.shaped (.str op) = true → rest.length ≤ 16000000 → A.length + rest.length ≤ sizeLine → match childs s op rest with
      | none => ∃ n', sv T C b__law_rule_form_0 (eF v A i s3 s4 s5 s6 s7 s8) = .rt (.fr (.bool false)) n'
      | some l => ∃ t3 t4 t5 t6 t7 t8, (np t3 ∧ np t4 ∧ np t5 ∧ np t6 ∧ np t7 ∧ np t8) ∧ sv T C b__law_rule_form_0 (eF v A i s3 s4 s5 s6 s7 s8) = .nx (eF v (A ++ l.map fun p => itD (p.1, p.2, m - 1)) i t3 t4 t5 t6 t7 t8)) := by
  have e0 : sv T C (sF 0) (eF v A i s3 s4 s5 s6 s7 s8) = .nx (eF v A i s3 s4 s5 s6 s7 s8) := by
    obtain ⟨k, hk, e⟩ := F20_0 (T := T) (C := C) (v := v) (A := A) (i := i) (s3 := s3) (s4 := s4) (s5 := s5) (s6 := s6) (s7 := s7) (s8 := s8)
    rw [e, hk, decide_eq_false (by omega), if_neg Bool.false_ne_true]
  have e1 := F20_1 (T := T) (C := C) (v := v) (A := A) (i := (i : Int)) (s6 := s6) (s7 := s7) (s8 := s8) h3 h4 h5 (x := x) (y := .str (sS s)) (z := .int m) (by rw [atI_nat hi, hA]; rfl)
  refine ⟨fun h => ⟨eF v A i (.fz x) (.fz (.str (sS s))) (.fz (.int m)) s6 s7 s8, ?_⟩, fun op rest h1 hx so hr hsz => ?_⟩
  · rw [bF]
    exact sv_nx e0 (sv_nx e1 (sv_rt (F20_2t h)))
  · subst hx
    have e2 := F20_2f (T := T) (C := C) (v := v) (A := A) (i := (i : Int)) (s4 := .fz (.str (sS s))) (s6 := s6) (s7 := s7) (s8 := s8) (op := op) (rest := rest) h1
    have e3 := F20_3 (T := T) (C := C) (v := v) (A := A) (i := (i : Int)) (s4 := .fz (.str (sS s))) (s5 := .fz (.int m)) (s8 := s8) (x := .str op) (rest := rest) h6 h7 (by omega)
    have e4 := F20_4 (T := T) (C := C) (v := v) (A := A) (i := (i : Int)) (x := .tuple (.str op :: rest)) (s5 := .fz (.int m)) (s := s) (op := op) (rest := rest) t0 so hz h8
    have sub : ∀ ks r, stepL s op rest = some (ks, r) → r.length ≤ rest.length := by
      intro ks r hs
      unfold stepL at hs
      split at hs
      · cases hs; exact Nat.le_refl _
      · split at hs
        · split at hs
          · cases hs; rw [List.length_dropLast]; omega
          · cases hs
        · split at hs
          · cases hs; exact Nat.le_refl _
          · split at hs
            · cases hs; exact Nat.le_refl _
            · split at hs
              · cases hs; exact Nat.le_refl _
              · cases hs
    unfold childs
    cases q : stepL s op rest with
    | none =>
      rw [q] at e4
      exact ⟨_, (by rw [bF]; exact sv_nx e0 (sv_nx e1 (sv_nx e2 (sv_nx e3 (sv_rt e4)))))⟩
    | some w =>
      obtain ⟨ks, r⟩ := w
      have hrl := sub ks r q
      rw [q] at e4
      obtain ⟨s8', hk, e4⟩ := e4
      have e5 := F20_5 (T := T) (C := C) (v := v) (x := .tuple (.str op :: rest)) (A := A) (i := (i : Int)) (m := m) (r := r) (s4 := .fz (.str (sS s))) (s6 := .fz (.str op)) hk
      dsimp only
      by_cases g : r.length = ks.length
      · rw [if_pos g] at e5 ⊢
        have e6 := F20_6 (T := T) (C := C) (v := v) (x := .tuple (.str op :: rest)) (A := A) (i := (i : Int)) (m := m) (r := r) (s4 := .fz (.str (sS s))) (s6 := .fz (.str op)) hk g (by omega) ⟨by omega, by omega⟩ (by omega)
        refine ⟨.fz (.tuple (.str op :: rest)), .fz (.str (sS s)), .fz (.int m), .fz (.str op), .fz (.tuple r), s8', ⟨rfl, rfl, rfl, rfl, rfl, hk.np⟩, ?_⟩
        rw [bF]
        exact sv_nx e0 (sv_nx e1 (sv_nx e2 (sv_nx e3 (sv_nx e4 (sv_nx e5 (sv_nx e6 sv_end))))))
      · rw [if_neg g] at e5 ⊢
        exact ⟨_, (by rw [bF]; exact sv_nx e0 (sv_nx e1 (sv_nx e2 (sv_nx e3 (sv_nx e4 (sv_rt e5))))))⟩
end Z

set_option Elab.async false
set_option linter.all false
set_option maxRecDepth 100000
set_option maxHeartbeats 0
namespace Z
open PySem PySem.Spec PyProof.Rows L2
/-! ## the loop of _law_rule_form -/
/-- what waits: a value, rule or test, how deep -/
abbrev It := PyData × Bool × Nat
def iD (p : It) : PyData := itD (p.1, p.2.1, (p.2.2 : Int))
def szI : List It → Nat
  | [] => 0
  | p :: r => sz p.1 + szI r
theorem szI_app : ∀ a b : List It, szI (a ++ b) = szI a + szI b
  | [], b => by simp [szI]
  | p :: a, b => by rw [List.cons_append, szI, szI, szI_app a b]; omega
theorem sz_pos (v : PyData) : 1 ≤ sz v := by cases v <;> simp [sz]
theorem szI_len : ∀ a : List It, a.length ≤ szI a
  | [] => Nat.le_refl _
  | p :: a => by rw [szI, List.length_cons]; have := szI_len a; have := sz_pos p.1; omega
theorem szI_kids (d : Nat) : ∀ l : List (PyData × Bool), szI (l.map fun p => ((p.1, p.2, d) : It)) = szs (l.map (·.1))
  | [] => rfl
  | p :: l => by rw [List.map_cons, szI, szI_kids d l]; rfl
theorem len_szs : ∀ xs : List PyData, xs.length ≤ szs xs
  | [] => Nat.le_refl _
  | x :: xs => by rw [szs, List.length_cons]; have := len_szs xs; have := sz_pos x; omega
def wfI (p : It) : Bool := wf p.2.2 p.2.1 p.1
theorem wf_step (d : Nat) (s : Bool) (op : Str) (rest : List PyData) : wf (d + 1) s (.tuple (.str op :: rest)) = (match childs s op rest with
    | none => false
    | some l => (l.map fun p => ((p.1, p.2, d) : It)).all wfI) := by
  show (if s then numL (wf d true) (wf d false) op rest else tstL (wf d true) (wf d false) op rest) = _
  have q : ∀ l : List (PyData × Bool), (l.all fun p => if p.2 then wf d true p.1 else wf d false p.1) = (l.map fun p => ((p.1, p.2, d) : It)).all wfI := by
    intro l
    rw [List.all_map]
    congr 1
    funext p
    obtain ⟨x, b⟩ := p
    cases b <;> rfl
  cases s with
  | true =>
    rw [if_pos rfl, childs_num]
    cases childs true op rest with
    | none => rfl
    | some l => exact q l
  | false =>
    rw [if_neg Bool.false_ne_true, childs_tst]
    cases childs false op rest with
    | none => rfl
    | some l => exact q l
theorem wf_no {d : Nat} {s : Bool} {x : PyData} (h : (d : Int) < 1 ∨ ∀ op rest, x ≠ .tuple (.str op :: rest)) : wf d s x = false := by
  cases d with
  | zero => rfl
  | succ d =>
    replace h := h.resolve_left (by omega)
    unfold wf
    cases x
    case tuple xs =>
      rcases xs with _ | ⟨x, xs⟩
      · rfl
      · cases x <;> first | rfl | exact absurd rfl (h _ _)
    all_goals rfl
theorem finD1 (v : PyData) (n : En) : finD [.fz v] n = [.none] := by cases n <;> rfl
theorem loopF {T : Tb} {C : Nat → Option PyData} {v : PyData} {b hh B : Nat} (t0 : ∃ k, T 0 = some (1, Fd k 19)) (hz : 5 ≤ sizeLine) (hB : 2 * B ≤ sizeLine) (hB2 : B ≤ 16000000) : ∀ (c i : Nat) (W : List It) (s2 s3 s4 s5 s6 s7 s8 : Sl), np s2 → np s3 → np s4 → np s5 → np s6 → np s7 → np s8 →
    (∀ p ∈ W, okV b hh p.1) → i ≤ W.length → szI (W.drop i) < c → i + szI (W.drop i) ≤ B →
    ∃ n', forGo (.nm 2) (sv T C b__law_rule_form_0) ((List.range' i c).map fun (j : Nat) => PyData.int j) [.fz v, .ow (.list (W.map iD)), s2, s3, s4, s5, s6, s7, s8, .un] = .rt (.fr (.bool ((W.drop i).all wfI))) n'
  | 0, i, W, s2, s3, s4, s5, s6, s7, s8, _, _, _, _, _, _, _, _, _, h, _ => by omega
  | c + 1, i, W, s2, s3, s4, s5, s6, s7, s8, h2, h3, h4, h5, h6, h7, h8, hok, hi, hc, hb => by
    rw [List.range'_succ, List.map_cons, forGo_cons]
    have hp : (Tg.nm 2).put (.int (i : Int)) [.fz v, .ow (.list (W.map iD)), s2, s3, s4, s5, s6, s7, s8, .un] = some (eF v (W.map iD) i s3 s4 s5 s6 s7 s8) := by
      show setAll _ [2] [.int (i : Int)] = _
      rw [setAll_cons (t := s2) rfl h2]; rfl
    rw [hp]
    dsimp only
    by_cases he : i = W.length
    · have hd : W.drop i = [] := by rw [he]; exact List.drop_length
      obtain ⟨k, hk, e⟩ := F20_0 (T := T) (C := C) (v := v) (A := W.map iD) (i := i) (s3 := s3) (s4 := s4) (s5 := s5) (s6 := s6) (s7 := s7) (s8 := s8)
      have hk2 : k = true := by rw [hk]; exact decide_eq_true (by rw [List.length_map, he])
      rw [hk2, if_pos rfl] at e
      refine ⟨eF v (W.map iD) i s3 s4 s5 s6 s7 s8, ?_⟩
      rw [bF, sv_rt e, hd]
      rfl
    · have hl : i < W.length := by omega
      have hd : W.drop i = W[i] :: W.drop (i + 1) := List.drop_eq_getElem_cons hl
      generalize hx : W[i] = p at hd
      obtain ⟨x, s, d⟩ := p
      have qx : okV b hh x := by
        have := hok W[i] (List.getElem_mem hl)
        rw [hx] at this
        exact this
      rw [hd, szI] at hc hb
      have hA : (W.map iD)[i]'(by rw [List.length_map]; exact hl) = itD (x, s, (d : Int)) := by rw [List.getElem_map, hx]; rfl
      have tf := turnF (T := T) (C := C) (v := v) (A := W.map iD) (i := i) (x := x) (s := s) (m := d) t0 h3 h4 h5 h6 h7 h8 (by rw [List.length_map]; exact hl) hA hz
      have dl : (W.drop (i + 1)).length ≤ szI (W.drop (i + 1)) := szI_len _
      have dl2 : W.length = i + 1 + (W.drop (i + 1)).length := by rw [List.length_drop]; omega
      dsimp only at hc hb
      by_cases hs : (d : Int) < 1 ∨ ∀ op rest, x ≠ .tuple (.str op :: rest)
      · obtain ⟨n', e⟩ := tf.1 hs
        refine ⟨n', ?_⟩
        rw [e, hd, List.all_cons]
        have : wfI (x, s, d) = false := wf_no hs
        rw [this]; rfl
      · have hs1 : ¬ (d : Int) < 1 := fun z => hs (.inl z)
        have hs2 : ∃ op rest, x = .tuple (.str op :: rest) := by
          by_cases q : ∃ op rest, x = .tuple (.str op :: rest)
          · exact q
          · exact absurd (.inr fun op rest z => q ⟨op, rest, z⟩) hs
        obtain ⟨op, rest, rfl⟩ := hs2
        have hsz : sz (.tuple (.str op :: rest)) = 2 + szs rest := by simp only [sz, szs]; omega
        rw [hsz] at hc hb
        have rl := len_szs rest
        have so := sh_str (okV_str (okV_mem qx (x := .str op) (by simp))).1
        obtain ⟨d, rfl⟩ : ∃ e, d = e + 1 := ⟨d - 1, by omega⟩
        have t2 := tf.2 op rest hs1 rfl so (by omega) (by rw [List.length_map]; omega)
        have wq : wfI (.tuple (.str op :: rest), s, d + 1) = _ := wf_step d s op rest
        rw [hd, List.all_cons, wq]
        cases q : childs s op rest with
        | none =>
          rw [q] at t2
          obtain ⟨n', e⟩ := t2
          exact ⟨n', by rw [e]; rfl⟩
        | some l =>
          rw [q] at t2
          obtain ⟨t3, t4, t5, t6, t7, t8, ⟨g3, g4, g5, g6, g7, g8⟩, e⟩ := t2
          rw [e]
          dsimp only
          have cl := childs_sz q
          let K : List It := l.map fun p => (p.1, p.2, d)
          have hK : (l.map fun p => itD (p.1, p.2, ((d + 1 : Nat) : Int) - 1)) = K.map iD := by
            rw [List.map_map]
            refine List.map_congr_left fun p _ => ?_
            show itD _ = itD _
            rw [show ((d + 1 : Nat) : Int) - 1 = (d : Int) by omega]
          have hKs : szI K = szs (l.map (·.1)) := szI_kids d l
          have hdr : (W ++ K).drop (i + 1) = W.drop (i + 1) ++ K := List.drop_append_of_le_length (by omega)
          rw [hK, ← List.map_append]
          have ih := loopF (v := v) (b := b) (hh := hh) (C := C) t0 hz hB hB2 c (i + 1) (W ++ K) (.fz (.int (i : Int))) t3 t4 t5 t6 t7 t8 rfl g3 g4 g5 g6 g7 g8
            (fun p hp => by
              rcases List.mem_append.mp hp with z | z
              · exact hok p z
              · obtain ⟨p', hp', rfl⟩ := List.mem_map.mp z
                exact okV_mem qx (List.mem_cons_of_mem _ (cl.2.2 p' hp')))
            (by rw [List.length_append]; omega)
            (by rw [hdr, szI_app, hKs]; omega) (by rw [hdr, szI_app, hKs]; omega)
          obtain ⟨n', e2⟩ := ih
          refine ⟨n', ?_⟩
          rw [hdr, List.all_append, Bool.and_comm] at e2
          exact e2
theorem F20 (k b hh : Nat) {v : PyData} (q : okV b hh v) (hv : sz v < 100000) (hz : 200000 ≤ sizeLine) : Fd (k + 1) 20 [.fz v] = .ret (.fr (.bool (wf 20 true v))) [.none] := by
  have t0 : locT c__law_rule_form.calls (tbl cs (k + 1)) 0 = some (1, Fd k 19) := rfl
  rw [U20]
  generalize locT c__law_rule_form.calls (tbl cs (k + 1)) = T at *
  generalize cstC c__law_rule_form.gcs = C at *
  obtain ⟨n', e⟩ := loopF (T := T) (C := C) (v := v) (b := b) (hh := hh) (B := 99999) ⟨k, t0⟩ (by omega) (by omega) (by omega) 100000 0 [(v, true, 20)] .un .un .un .un .un .un .un rfl rfl rfl rfl rfl rfl rfl
    (fun p hp => by rw [List.mem_singleton.mp hp]; exact q) (by simp) (by simp [szI]; exact hv) (by simp [szI]; omega)
  have hr : rangeD 0 100000 = (List.range' 0 100000).map fun (j : Nat) => PyData.int j := by
    unfold rangeD
    rw [show ((100000 : Int) - 0).toNat = 100000 from rfl, List.range_eq_range']
    refine List.map_congr_left fun j _ => ?_
    rw [Int.zero_add]
  have all1 : (([(v, true, 20)] : List It).drop 0).all wfI = wf 20 true v := by
    show (wfI (v, true, 20) && true) = _
    rw [Bool.and_true]; rfl
  rw [all1] at e
  let n0 : En := [.fz v, .un, .un, .un, .un, .un, .un, .un, .un, .un]
  let n1 : En := [.fz v, .ow (.list [iD (v, true, 20)]), .un, .un, .un, .un, .un, .un, .un, .un]
  have e1 : (ev T C (.op .tup (.cons (.var 0) (.cons (.cst (.str "rule")) (.cons (.cst (.int 20)) .nil))))).e n0 = .ok (.fr (iD (v, true, 20))) n0 := e_tup (ds := [v, .str "rule", .int 20]) rfl (by simp; omega)
  have e2 := e_lst (l_cons (op_of (fun _ _ => rfl) e1) l_nil) (show 1 ≤ sizeLine by omega)
  rw [← finD1 v n']
  refine def_rt (m := 10) (ss := [.fz v]) (n1 := n') ?_
  refine sv_nx (n1 := n1) (sv_set (r := .nw (.list [iD (v, true, 20)])) (n1 := n0) (t := .un) e2 rfl rfl) ?_
  refine sv_rt (sv_for (xs := rangeD 0 100000) (n1 := n1) (rng1_ok (i := 100000) (op_of (r := .fr (.int 100000)) (fun _ _ => rfl) rfl) rfl (by decide)) ?_)
  rw [hr]
  exact e
end Z

set_option Elab.async false
set_option linter.all false
set_option maxRecDepth 100000
set_option maxHeartbeats 0
namespace Z
open PySem PySem.Spec PyProof.Rows L2
/-! ## _law_rule_due: the parts -/
def gD2 (v : PyData) (A : List PyData) (i : Int) (s5 : Sl) : En := [.fz v, .ow (.list A), .fz (.int i), .un, .un, s5, .un, .un]
theorem noPn1 {n : En} {i : Nat} {s : Sl} (h : n[i]? = some s) (hs : np s) : noPn n [i] = true := by
  unfold noPn
  rw [List.all_cons, h]
  cases s <;> first | rfl | (cases hs; done)
theorem turnD {T : Tb} {C : Nat → Option PyData} {v x : PyData} {A : List PyData} {i : Nat} {s5 : Sl} (h5 : np s5) :
    (i = A.length → sv T C b__law_rule_due_0 (gD2 v A i s5) = .bk (gD2 v A i s5)) ∧
    (∀ (hi : i < A.length) (op : Str) (rest : List PyData), A[i] = .tuple (.str op :: rest) → A.length + rest.length ≤ sizeLine → sv T C b__law_rule_due_0 (gD2 v A i s5) = .nx (gD2 v (A ++ rest.filter isTup) i (.fz (.tuple (.str op :: rest))))) := by
  have h : (ev T C (.op (.cmp .eq) (.cons (.pk 2) (.cons (.op .len (.cons (.pk 1) .nil)) .nil)))).t (gD2 v A i s5) = .ok (decide ((i : Int) = (A.length : Int))) (gD2 v A i s5) := by
    refine t_cmp (p := .sl 2) (n1 := gD2 v A i s5) rfl (op_of (r := .fr (.int A.length)) (fun _ _ => rfl) (e_one (p := .sl 1) (n1 := gD2 v A i s5) rfl rfl rfl rfl)) (x := .int i) rfl rfl ?_
    show (if SeqAt.shaped (.int i) && SeqAt.shaped (.int A.length) then some (PyData.eqv (.int i) (.int A.length)) else none) = _
    rw [shaped_int, shaped_int, eqv_int]; rfl
  refine ⟨fun he => ?_, fun hi op rest hA hz => ?_⟩
  · rw [decide_eq_true (by omega)] at h
    exact sv_bk (sv_ift h (sv_bk rfl))
  · rw [decide_eq_false (by omega)] at h
    let n5 := gD2 v A i (.fz (.tuple (.str op :: rest)))
    have e1 : sv T C (.set (.nm 5) (.op .idx (.cons (.pk 1) (.cons (.pk 2) .nil)))) (gD2 v A i s5) = .nx n5 := by
      refine sv_set (r := .fr (.tuple (.str op :: rest))) (n1 := gD2 v A i s5) (t := s5) (e_two (p := .sl 1) (q := .sl 2) (n1 := gD2 v A i s5) rfl rfl rfl (x := .list A) (y := .int i) rfl rfl ?_) rfl h5
      show (atI A (i : Int)).map R.fr = _
      rw [atI_nat hi, hA]; rfl
    have ei : (ev T C (.op (.slc true false) (.cons (.pk 5) (.cons (.cst (.int 1)) .nil)))).i n5 = .ok rest n5 := by
      have e2 : (ev T C (.op (.slc true false) (.cons (.pk 5) (.cons (.cst (.int 1)) .nil)))).e n5 = .ok (.fr (.tuple rest)) n5 := by
        refine e_two (p := .sl 5) (n1 := n5) rfl rfl (op_of (r := .fr (.int 1)) (n1 := n5) (fun _ _ => rfl) rfl) (x := .tuple (.str op :: rest)) rfl rfl ?_
        show some (R.fr (.tuple (cutD (.str op :: rest) (some 1) none))) = _
        rw [cut1]
      show ((ev T C (.op (.slc true false) (.cons (.pk 5) (.cons (.cst (.int 1)) .nil)))).e n5).bd (fun r n1 => Ou.of (seqD r.d) n1) = _
      rw [e2]; rfl
    have e := zLc_look (tg := .nm 7) (own := [7]) (fi := (ev T C (.op (.slc true false) (.cons (.pk 5) (.cons (.cst (.int 1)) .nil)))).i) (fc := (ev T C (.op (.isi .tuple) (.cons (.pk 7) .nil))).t) (fe := (ev T C (.var 7)).e)
      (n := n5) (n1 := n5) (n0 := n5) (xs := rest) (p := isTup) (f := fun x => x) ei rfl rfl rfl (fun x hx => ⟨[.fz v, .ow (.list A), .fz (.int i), .un, .un, .fz (.tuple (.str op :: rest)), .un, .fz x], rfl, rfl, rfl, fun _ => ⟨_, rfl, rfl⟩⟩) (by omega)
    rw [List.map_id'] at e
    refine sv_nx (sv_iff h sv_end) (sv_nx e1 (sv_nx (sv_ext (i := 1) (a := l__law_rule_due_0) (n1 := n5) (ds := A) ?_ e rfl rfl ?_) sv_end))
    · intro q; cases q
    · have := List.length_filter_le isTup rest; omega
/-- what waits, how deep -/
abbrev Jt := PyData × Nat
def szJ : List Jt → Nat
  | [] => 0
  | p :: r => sz p.1 + szJ r
theorem szJ_app : ∀ a b : List Jt, szJ (a ++ b) = szJ a + szJ b
  | [], b => by simp [szJ]
  | p :: a, b => by rw [List.cons_append, szJ, szJ, szJ_app a b]; omega
theorem szJ_len : ∀ a : List Jt, a.length ≤ szJ a
  | [] => Nat.le_refl _
  | p :: a => by rw [szJ, List.length_cons]; have := szJ_len a; have := sz_pos p.1; omega
theorem szJ_kids (d : Nat) : ∀ l : List PyData, szJ (l.map fun x => ((x, d) : Jt)) = szs l
  | [] => rfl
  | p :: l => by rw [List.map_cons, szJ, szJ_kids d l]; rfl
def dJ (p : Jt) : List PyData := dfs p.2 p.1
theorem loopD {T : Tb} {C : Nat → Option PyData} {v : PyData} {B : Nat} (hB : 2 * B ≤ sizeLine) : ∀ (c i : Nat) (W : List Jt) (s2 s5 : Sl), np s2 → np s5 →
    (∀ p ∈ W.drop i, ∃ s, wf p.2 s p.1 = true) → i ≤ W.length → szJ (W.drop i) < c → i + szJ (W.drop i) ≤ B →
    ∃ A' s2' s5', np s2' ∧ np s5' ∧ A'.Perm ((W.take i).map (·.1) ++ (W.drop i).flatMap dJ) ∧ forGo (.nm 2) (sv T C b__law_rule_due_0) ((List.range' i c).map fun (j : Nat) => PyData.int j) [.fz v, .ow (.list (W.map (·.1))), s2, .un, .un, s5, .un, .un] = .nx [.fz v, .ow (.list A'), s2', .un, .un, s5', .un, .un]
  | 0, i, W, s2, s5, _, _, _, _, h, _ => by omega
  | c + 1, i, W, s2, s5, h2, h5, hok, hi, hc, hb => by
    rw [List.range'_succ, List.map_cons, forGo_cons]
    have hp : (Tg.nm 2).put (.int (i : Int)) [.fz v, .ow (.list (W.map (·.1))), s2, .un, .un, s5, .un, .un] = some (gD2 v (W.map (·.1)) i s5) := by
      show setAll _ [2] [.int (i : Int)] = _
      rw [setAll_cons (t := s2) rfl h2]; rfl
    rw [hp]
    dsimp only
    have td := turnD (T := T) (C := C) (v := v) (x := v) (A := W.map (·.1)) (i := i) h5
    by_cases he : i = W.length
    · have hd : W.drop i = [] := by rw [he]; exact List.drop_length
      have ht : W.take i = W := by rw [he]; exact List.take_length
      refine ⟨W.map (·.1), .fz (.int (i : Int)), s5, rfl, h5, ?_, ?_⟩
      · rw [hd, ht, List.flatMap_nil, List.append_nil]
      · rw [td.1 (by rw [List.length_map]; exact he)]; rfl
    · have hl : i < W.length := by omega
      have hd : W.drop i = W[i] :: W.drop (i + 1) := List.drop_eq_getElem_cons hl
      have hok1 := hok W[i] (by rw [hd]; exact List.mem_cons_self)
      have hokr : ∀ p ∈ W.drop (i + 1), ∃ s, wf p.2 s p.1 = true := fun p hp => hok p (by rw [hd]; exact List.mem_cons_of_mem _ hp)
      have htk : W.take (i + 1) = W.take i ++ [W[i]] := by rw [List.take_succ_eq_append_getElem hl]
      generalize hx : W[i] = p at hd hok1 htk
      obtain ⟨x, d⟩ := p
      obtain ⟨s, hw⟩ := hok1
      dsimp only at hw
      cases d with
      | zero => cases hw
      | succ d =>
        obtain ⟨op, rest, rfl, _⟩ := wf_inv hw
        have kw := kids_wf hw
        have ks := kids_sz (.tuple (.str op :: rest))
        have hsz : sz (.tuple (.str op :: rest)) = 2 + szs rest := by simp only [sz, szs]; omega
        have rl := len_szs rest
        rw [hd, szJ] at hc hb
        dsimp only at hc hb
        have dl : (W.drop (i + 1)).length ≤ szJ (W.drop (i + 1)) := szJ_len _
        have dl2 : W.length = i + 1 + (W.drop (i + 1)).length := by rw [List.length_drop]; omega
        have e := td.2 (by rw [List.length_map]; exact hl) op rest (by rw [List.getElem_map, hx]) (by rw [List.length_map]; omega)
        rw [e]
        dsimp only
        let K : List Jt := (kids (.tuple (.str op :: rest))).map fun x => (x, d)
        have hK : rest.filter isTup = K.map (·.1) := by
          rw [List.map_map]
          exact (List.map_id' _).symm
        have hdr : (W ++ K).drop (i + 1) = W.drop (i + 1) ++ K := List.drop_append_of_le_length (by omega)
        have htr : (W ++ K).take (i + 1) = W.take i ++ [(.tuple (.str op :: rest), d + 1)] := by rw [List.take_append_of_le_length (by omega), htk]
        have hKs : szJ K = szs (kids (.tuple (.str op :: rest))) := szJ_kids d _
        obtain ⟨A', s2', s5', g2, g5, gp, ge⟩ := loopD (v := v) (T := T) (C := C) hB c (i + 1) (W ++ K) (.fz (.int (i : Int))) (.fz (.tuple (.str op :: rest))) rfl rfl
          (fun p hp => by
            rw [hdr] at hp
            rcases List.mem_append.mp hp with z | z
            · exact hokr p z
            · obtain ⟨y, hy, rfl⟩ := List.mem_map.mp z
              exact kw y hy)
          (by rw [List.length_append]; omega)
          (by rw [hdr, szJ_app, hKs]; omega) (by rw [hdr, szJ_app, hKs]; omega)
        refine ⟨A', s2', s5', g2, g5, gp.trans ?_, ?_⟩
        · rw [hdr, htr, hd, List.flatMap_cons, List.flatMap_append, List.map_append]
          have hk : K.flatMap dJ = (kids (.tuple (.str op :: rest))).flatMap (dfs d) := by rw [List.flatMap_map]; rfl
          have hx1 : dJ (.tuple (.str op :: rest), d + 1) = .tuple (.str op :: rest) :: K.flatMap dJ := by rw [hk]; rfl
          rw [hx1, List.append_assoc]
          refine List.Perm.append_left _ ?_
          show (PyData.tuple (.str op :: rest) :: ((W.drop (i + 1)).flatMap dJ ++ K.flatMap dJ)).Perm (PyData.tuple (.str op :: rest) :: (K.flatMap dJ ++ (W.drop (i + 1)).flatMap dJ))
          exact List.Perm.cons _ List.perm_append_comm
        · rw [← ge, List.map_append, ← hK]
          rfl
end Z

set_option Elab.async false
set_option linter.all false
set_option maxRecDepth 100000
set_option maxHeartbeats 0
namespace Z
open PySem PySem.Spec PyProof.Rows L2
/-! ## _law_rule_due -/
theorem num_shape {d : Nat} {s : Bool} {op : Str} {rest : List PyData} (h : wf (d + 1) s (.tuple (.str op :: rest)) = true) (hn : isS op "number" = true) : ∃ n, rest = [.int n] := by
  cases s with
  | true => exact (wf_shape h).2.2 hn rfl
  | false => have := (tst_words h).2; rw [hn] at this; cases this
theorem part_shape {d : Nat} {s : Bool} {op : Str} {rest : List PyData} (h : wf (d + 1) s (.tuple (.str op :: rest)) = true) (hn : isS op "part" = true) : ∃ a n, rest = [a, .int n] := by
  cases s with
  | true => obtain ⟨a, n, e, _⟩ := (wf_shape h).2.1 hn rfl; exact ⟨a, n, e⟩
  | false => have := (tst_words h).1; rw [hn] at this; cases this
theorem num_part {op : Str} (h : isS op "number" = true) : isS op "part" = false := by
  rcases bs_cases op with z | z | z | z | z | z | z | z | z <;> (simp only [bsOf, List.cons.injEq, and_true] at z; obtain ⟨b1, b2, b3, b4, b5, b6, b7, b8, b9, b10⟩ := z; first | exact b4 | (rw [h] at b2; cases b2))
def isW (w : Str) : PyData → Bool
  | .tuple (.str op :: _) => isS op w
  | _ => false
def sec : PyData → PyData
  | .tuple (_ :: y :: _) => y
  | _ => .none
def thd : PyData → PyData
  | .tuple (_ :: _ :: y :: _) => y
  | _ => .none
def badI (lo : Int) : PyData → Bool
  | .int n => decide (n < lo) || decide (1000 < n)
  | _ => false
def isWf (x : PyData) : Prop := ∃ d s, wf (d + 1) s x = true
theorem bad_int (lo n : Int) : (decide (lo ≤ n) && decide (n ≤ 1000)) = !badI lo (.int n) := by
  show _ = !(decide (n < lo) || decide (1000 < n))
  by_cases h1 : lo ≤ n
  · by_cases h2 : n ≤ 1000
    · rw [decide_eq_true h1, decide_eq_true h2, decide_eq_false (by omega), decide_eq_false (by omega)]; rfl
    · rw [decide_eq_true h1, decide_eq_false h2, decide_eq_false (by omega), decide_eq_true (by omega)]; rfl
  · rw [decide_eq_false h1, decide_eq_true (show n < lo by omega)]; rfl
theorem lim_all : ∀ A : List PyData, (∀ x ∈ A, isWf x) → A.all limB = !(((A.filter (isW "number")).map sec).any (badI 0) || ((A.filter (isW "part")).map thd).any (badI 1))
  | [], _ => rfl
  | x :: A, h => by
    have ih := lim_all A fun y hy => h y (List.mem_cons_of_mem _ hy)
    obtain ⟨d, s, hw⟩ := h x List.mem_cons_self
    obtain ⟨op, rest, rfl, _⟩ := wf_inv hw
    rw [List.all_cons, ih]
    cases b1 : isS op "number" with
    | true =>
      have b2 := num_part b1
      obtain ⟨n, rfl⟩ := num_shape hw b1
      have l : limB (.tuple [.str op, .int n]) = !badI 0 (.int n) := by
        show (if isS op "number" then _ else _) = _
        rw [b1, if_pos rfl]
        exact bad_int 0 n
      rw [l, List.filter_cons_of_pos (show isW "number" (.tuple [.str op, .int n]) = true from b1), List.filter_cons_of_neg (show ¬ isW "part" (.tuple [.str op, .int n]) = true from by show ¬ isS op "part" = true; rw [b2]; exact Bool.false_ne_true), List.map_cons, List.any_cons]
      show (!badI 0 (.int n) && _) = !((badI 0 (.int n) || _) || _)
      cases badI 0 (.int n) <;> rfl
    | false =>
      rw [List.filter_cons_of_neg (show ¬ isW "number" (.tuple (.str op :: rest)) = true from by show ¬ isS op "number" = true; rw [b1]; exact Bool.false_ne_true)]
      cases b2 : isS op "part" with
      | true =>
        obtain ⟨a, n, rfl⟩ := part_shape hw b2
        have l : limB (.tuple [.str op, a, .int n]) = !badI 1 (.int n) := by
          show (if isS op "number" then _ else (!isS op "part" || (decide (1 ≤ n) && decide (n ≤ 1000)))) = _
          rw [b1, if_neg Bool.false_ne_true, b2]
          exact bad_int 1 n
        rw [l, List.filter_cons_of_pos (show isW "part" (.tuple [.str op, a, .int n]) = true from b2), List.map_cons, List.any_cons]
        show (!badI 1 (.int n) && _) = !(_ || (badI 1 (.int n) || _))
        generalize ((A.filter (isW "number")).map sec).any (badI 0) = u
        cases badI 1 (.int n) <;> cases u <;> rfl
      | false =>
        have l : limB (.tuple (.str op :: rest)) = true := by
          show (if isS op "number" then _ else (!isS op "part" || _)) = _
          rw [b1, if_neg Bool.false_ne_true, b2]; rfl
        rw [l, Bool.true_and, List.filter_cons_of_neg (show ¬ isW "part" (.tuple (.str op :: rest)) = true from by show ¬ isS op "part" = true; rw [b2]; exact Bool.false_ne_true)]
section
variable {T : Tb} {C : Nat → Option PyData} {v : PyData} {A L1 L2 : List PyData} {s2 s3 s4 s5 : Sl}
def q1 (v : PyData) (s1 s2 s3 s4 s5 s6 : Sl) : En := [.fz v, s1, s2, s3, s4, s5, s6, .un]
theorem wordAt {w : Str} {x : PyData} (hx : isWf x) (hok : ∃ b h, okV b h x) (sw : SeqAt.shaped (.str w) = true) {s1 : Sl} : (ev T C (.op (.cmp .eq) (.cons (.op .idx (.cons (.pk 5) (.cons (.cst (.int 0)) .nil))) (.cons (.cst (.str w)) .nil)))).t (q1 v s1 s2 s3 s4 (.fz x) .un) = .ok (isW w x) (q1 v s1 s2 s3 s4 (.fz x) .un) := by
  obtain ⟨d, s, hw⟩ := hx
  obtain ⟨op, rest, rfl, _⟩ := wf_inv hw
  obtain ⟨b, h, q⟩ := hok
  have so := sh_str (okV_str (okV_mem q (x := .str op) (by simp))).1
  refine t_cmp (op_of (fun _ _ => rfl) (e_at (i := 5) rfl (atI0 _ _))) (op_of (r := .fr (.str w)) (fun _ _ => rfl) rfl) rfl rfl ?_
  show (if SeqAt.shaped (.str op) && SeqAt.shaped (.str w) then some (PyData.eqv (.str op) (.str w)) else none) = _
  rw [so, sw]; rfl
theorem D1 (h5 : np s5) (hw : ∀ x ∈ A, isWf x) (hok : ∀ x ∈ A, ∃ b h, okV b h x) (hz : A.length ≤ sizeLine) : (ev T C l__law_rule_due_1).e (q1 v (.ow (.list A)) s2 s3 s4 s5 .un) = .ok (.nw (.list ((A.filter (isW "number")).map sec))) (q1 v (.fz (.list A)) s2 s3 s4 .un .un) := by
  refine zLc_look (tg := .nm 5) (own := [5]) (fi := (ev T C (.var 1)).i) (fc := (ev T C (.op (.cmp .eq) (.cons (.op .idx (.cons (.pk 5) (.cons (.cst (.int 0)) .nil))) (.cons (.cst (.str "number")) .nil)))).t) (fe := (ev T C (.op .idx (.cons (.pk 5) (.cons (.cst (.int 1)) .nil)))).e) (p := isW "number") (f := sec) (n := q1 v (.ow (.list A)) s2 s3 s4 s5 .un) (n0 := q1 v (.fz (.list A)) s2 s3 s4 .un .un) (xs := A) (n1 := q1 v (.fz (.list A)) s2 s3 s4 s5 .un) rfl (noPn1 (s := s5) rfl h5) rfl rfl (fun x hx => ⟨q1 v (.fz (.list A)) s2 s3 s4 (.fz x) .un, rfl, rfl, wordAt (hw x hx) (hok x hx) sh_number, fun hp => ?_⟩) hz
  obtain ⟨d, s, w⟩ := hw x hx
  obtain ⟨op, rest, rfl, _⟩ := wf_inv w
  obtain ⟨n, rfl⟩ := num_shape w hp
  exact ⟨.fr (.int n), e_at (i := 5) (xs := [.str op, .int n]) rfl rfl, rfl⟩
theorem D2 (hw : ∀ x ∈ A, isWf x) (hok : ∀ x ∈ A, ∃ b h, okV b h x) (hz : A.length ≤ sizeLine) : (ev T C l__law_rule_due_2).e (q1 v (.fz (.list A)) s2 s3 s4 .un .un) = .ok (.nw (.list ((A.filter (isW "part")).map thd))) (q1 v (.fz (.list A)) s2 s3 s4 .un .un) := by
  refine zLc_look (tg := .nm 5) (own := [5]) (fi := (ev T C (.var 1)).i) (fc := (ev T C (.op (.cmp .eq) (.cons (.op .idx (.cons (.pk 5) (.cons (.cst (.int 0)) .nil))) (.cons (.cst (.str "part")) .nil)))).t) (fe := (ev T C (.op .idx (.cons (.pk 5) (.cons (.cst (.int 2)) .nil)))).e) (p := isW "part") (f := thd) (n := q1 v (.fz (.list A)) s2 s3 s4 .un .un) (n0 := q1 v (.fz (.list A)) s2 s3 s4 .un .un) (xs := A) (n1 := q1 v (.fz (.list A)) s2 s3 s4 .un .un) rfl rfl rfl rfl (fun x hx => ⟨q1 v (.fz (.list A)) s2 s3 s4 (.fz x) .un, rfl, rfl, wordAt (hw x hx) (hok x hx) sh_part, fun hp => ?_⟩) hz
  obtain ⟨d, s, w⟩ := hw x hx
  obtain ⟨op, rest, rfl, _⟩ := wf_inv w
  obtain ⟨a, n, rfl⟩ := part_shape w hp
  exact ⟨.fr (.int n), e_at (i := 5) (xs := [.str op, a, .int n]) rfl rfl, rfl⟩
theorem badAt {s1 : Sl} {lo n : Int} : (ev T C (.or (.op (.cmp .lt) (.cons (.pk 6) (.cons (.cst (.int lo)) .nil))) (.op (.cmp .gt) (.cons (.pk 6) (.cons (.cst (.int 1000)) .nil))))).t (q1 v s1 s2 s3 s4 s5 (.fz (.int n))) = .ok (badI lo (.int n)) (q1 v s1 s2 s3 s4 s5 (.fz (.int n))) :=
  or2t (x := decide (n < lo)) (y := decide (1000 < n)) (t_cmp (p := .sl 6) (n1 := q1 v s1 s2 s3 s4 s5 (.fz (.int n))) rfl (op_of (r := .fr (.int lo)) (n1 := q1 v s1 s2 s3 s4 s5 (.fz (.int n))) (fun _ _ => rfl) rfl) (x := .int n) rfl rfl rfl) fun _ =>
    t_cmp (p := .sl 6) (n1 := q1 v s1 s2 s3 s4 s5 (.fz (.int n))) rfl (op_of (r := .fr (.int 1000)) (n1 := q1 v s1 s2 s3 s4 s5 (.fz (.int n))) (fun _ _ => rfl) rfl) (x := .int n) rfl rfl rfl
theorem filt_any (p : PyData → Bool) : ∀ xs : List PyData, (!((xs.filter p).map fun x => x).isEmpty) = xs.any p
  | [] => rfl
  | x :: xs => by
    cases h : p x with
    | true => rw [List.filter_cons_of_pos h, List.any_cons, h]; rfl
    | false => rw [List.filter_cons_of_neg (by rw [h]; exact Bool.false_ne_true), List.any_cons, h, filt_any p xs]; rfl
theorem tru_lst (xs : List PyData) : truD (.list xs) = some (!xs.isEmpty) := by cases xs <;> rfl
theorem D3 {s1 : Sl} (hi : ∀ x ∈ L1, ∃ n, x = .int n) (hz : L1.length ≤ sizeLine) : (ev T C l__law_rule_due_3).t (q1 v s1 s2 (.ow (.list L1)) s4 .un .un) = .ok (L1.any (badI 0)) (q1 v s1 s2 (.fz (.list L1)) s4 .un .un) := by
  have e : (ev T C l__law_rule_due_3).e (q1 v s1 s2 (.ow (.list L1)) s4 .un .un) = .ok (.nw (.list ((L1.filter (badI 0)).map fun x => x))) (q1 v s1 s2 (.fz (.list L1)) s4 .un .un) :=
    zLc_look (tg := .nm 6) (own := [6]) (fi := (ev T C (.var 3)).i) (fc := (ev T C (.or (.op (.cmp .lt) (.cons (.pk 6) (.cons (.cst (.int 0)) .nil))) (.op (.cmp .gt) (.cons (.pk 6) (.cons (.cst (.int 1000)) .nil))))).t) (fe := (ev T C (.var 6)).e) (p := badI 0) (f := fun x => x) (n := q1 v s1 s2 (.ow (.list L1)) s4 .un .un) (n0 := q1 v s1 s2 (.fz (.list L1)) s4 .un .un) (xs := L1) (n1 := q1 v s1 s2 (.fz (.list L1)) s4 .un .un) rfl rfl rfl rfl (fun x hx => by
      obtain ⟨n, rfl⟩ := hi x hx
      exact ⟨q1 v s1 s2 (.fz (.list L1)) s4 .un (.fz (.int n)), rfl, rfl, badAt, fun _ => ⟨.fr (.int n), rfl, rfl⟩⟩) hz
  show ((ev T C l__law_rule_due_3).e (q1 v s1 s2 (.ow (.list L1)) s4 .un .un)).bd (fun r n1 => Ou.of (truD r.d) n1) = _
  rw [e]
  show Ou.of (truD (.list _)) _ = _
  rw [tru_lst, filt_any]; rfl
theorem D4 {s1 : Sl} (hi : ∀ x ∈ L2, ∃ n, x = .int n) (hz : L2.length ≤ sizeLine) : (ev T C l__law_rule_due_4).t (q1 v s1 s2 s3 (.ow (.list L2)) .un .un) = .ok (L2.any (badI 1)) (q1 v s1 s2 s3 (.fz (.list L2)) .un .un) := by
  have e : (ev T C l__law_rule_due_4).e (q1 v s1 s2 s3 (.ow (.list L2)) .un .un) = .ok (.nw (.list ((L2.filter (badI 1)).map fun x => x))) (q1 v s1 s2 s3 (.fz (.list L2)) .un .un) :=
    zLc_look (tg := .nm 6) (own := [6]) (fi := (ev T C (.var 4)).i) (fc := (ev T C (.or (.op (.cmp .lt) (.cons (.pk 6) (.cons (.cst (.int 1)) .nil))) (.op (.cmp .gt) (.cons (.pk 6) (.cons (.cst (.int 1000)) .nil))))).t) (fe := (ev T C (.var 6)).e) (p := badI 1) (f := fun x => x) (n := q1 v s1 s2 s3 (.ow (.list L2)) .un .un) (n0 := q1 v s1 s2 s3 (.fz (.list L2)) .un .un) (xs := L2) (n1 := q1 v s1 s2 s3 (.fz (.list L2)) .un .un) rfl rfl rfl rfl (fun x hx => by
      obtain ⟨n, rfl⟩ := hi x hx
      exact ⟨q1 v s1 s2 s3 (.fz (.list L2)) .un (.fz (.int n)), rfl, rfl, badAt, fun _ => ⟨.fr (.int n), rfl, rfl⟩⟩) hz
  show ((ev T C l__law_rule_due_4).e (q1 v s1 s2 s3 (.ow (.list L2)) .un .un)).bd (fun r n1 => Ou.of (truD r.d) n1) = _
  rw [e]
  show Ou.of (truD (.list _)) _ = _
  rw [tru_lst, filt_any]; rfl
end
def outD (v : PyData) : PyData := match outR v with
  | none => .none
  | some s => .str s
theorem F21 (k b hh : Nat) {v : PyData} (q : okV b hh v) (hv : sz v < 100000) (hz : 200000 ≤ sizeLine) : Fd (k + 2) 21 [.fz v] = .ret (.fr (outD v)) [.none] := by
  have e20 := F20 k b hh q hv hz
  have t0 : locT c__law_rule_due.calls (tbl cs (k + 2)) 0 = some (1, Fd (k + 1) 20) := rfl
  rw [U21]
  generalize locT c__law_rule_due.calls (tbl cs (k + 2)) = T at *
  generalize cstC c__law_rule_due.gcs = C at *
  let n0 := q1 v .un .un .un .un .un .un
  have ef : (ev T C (.call 0 (.cons (.var 0) .nil))).t n0 = .ok (wf 20 true v) n0 := by
    have z := e_call1 (T := T) (C := C) (a := .var 0) (n := n0) (n1 := n0) (x := v) t0 rfl e20 rfl
    show ((ev T C (.call 0 (.cons (.var 0) .nil))).e n0).bd (fun r n1 => Ou.of (truD r.d) n1) = _
    rw [z]; rfl
  unfold outD outR
  cases hw : wf 20 true v <;> rw [hw] at ef
  · rw [if_neg Bool.false_ne_true]
    exact def_rt (m := 8) (ss := [.fz v]) (n1 := n0) (sv_rt (sv_ift (t_notB ef) (sv_rt rfl)))
  · rw [if_pos rfl]
    obtain ⟨A, s2, s5, h2, h5, hp, e⟩ := loopD (T := T) (C := C) (v := v) (B := 99999) (by omega) 100000 0 [(v, 20)] .un .un rfl rfl
      (fun p hp => by rw [List.mem_singleton.mp hp]; exact ⟨true, hw⟩) (by simp) (by simp [szJ]; exact hv) (by simp [szJ]; omega)
    have hp : A.Perm (dfs 20 v) := by
      have z : (([(v, 20)] : List Jt).take 0).map (·.1) ++ (([(v, 20)] : List Jt).drop 0).flatMap dJ = dfs 20 v := by
        show [] ++ (dJ (v, 20) ++ []) = _
        rw [List.nil_append, List.append_nil]; rfl
      rw [z] at hp
      exact hp
    have hr : rangeD 0 100000 = (List.range' 0 100000).map fun (j : Nat) => PyData.int j := by
      unfold rangeD
      rw [show ((100000 : Int) - 0).toNat = 100000 from rfl, List.range_eq_range']
      refine List.map_congr_left fun j _ => ?_
      rw [Int.zero_add]
    rw [← hr] at e
    have aw : ∀ x ∈ A, isWf x := fun x hx => dfs_wf 20 true v hw x (hp.mem_iff.mp hx)
    have ao : ∀ x ∈ A, ∃ b h, okV b h x := fun x hx => ⟨b, hh, dfs_ok 20 hh v q x (hp.mem_iff.mp hx)⟩
    have dl := dfs_len 20 v
    have hl : A.length = (dfs 20 v).length := hp.length_eq
    have hal : A.all limB = (dfs 20 v).all limB := hp.all_eq
    have az : A.length ≤ sizeLine := by omega
    have la := lim_all A aw
    rw [← hl, ← hal, la]
    have i1 : ∀ x ∈ (A.filter (isW "number")).map sec, ∃ n, x = .int n := by
      intro y hy
      obtain ⟨x, hx, rfl⟩ := List.mem_map.mp hy
      obtain ⟨h1, h2⟩ := List.mem_filter.mp hx
      obtain ⟨d, s, w⟩ := aw x h1
      obtain ⟨op, rest, rfl, _⟩ := wf_inv w
      obtain ⟨n, rfl⟩ := num_shape w h2
      exact ⟨n, rfl⟩
    have i2 : ∀ x ∈ (A.filter (isW "part")).map thd, ∃ n, x = .int n := by
      intro y hy
      obtain ⟨x, hx, rfl⟩ := List.mem_map.mp hy
      obtain ⟨h1, h2⟩ := List.mem_filter.mp hx
      obtain ⟨d, s, w⟩ := aw x h1
      obtain ⟨op, rest, rfl, _⟩ := wf_inv w
      obtain ⟨a, n, rfl⟩ := part_shape w h2
      exact ⟨n, rfl⟩
    have d1 := D1 (T := T) (C := C) (v := v) (s2 := s2) (s3 := .un) (s4 := .un) h5 aw ao az
    generalize hL1 : (A.filter (isW "number")).map sec = L1 at *
    have d2 := D2 (T := T) (C := C) (v := v) (s2 := s2) (s3 := .ow (.list L1)) (s4 := .un) aw ao az
    generalize hL2 : (A.filter (isW "part")).map thd = L2 at *
    have z1 : L1.length ≤ sizeLine := by rw [← hL1, List.length_map]; have := List.length_filter_le (isW "number") A; omega
    have z2 : L2.length ≤ sizeLine := by rw [← hL2, List.length_map]; have := List.length_filter_le (isW "part") A; omega
    have d3 := D3 (T := T) (C := C) (v := v) (s1 := .fz (.list A)) (s2 := s2) (s4 := .ow (.list L2)) i1 z1
    have d4 := D4 (T := T) (C := C) (v := v) (s1 := .fz (.list A)) (s2 := s2) (s3 := .fz (.list L1)) i2 z2
    let n1 := q1 v (.ow (.list [v])) .un .un .un .un .un
    let n2 := q1 v (.ow (.list A)) s2 .un .un s5 .un
    let n4 := q1 v (.fz (.list A)) s2 (.ow (.list L1)) (.ow (.list L2)) .un .un
    have g1 : sv T C (.set (.nm 1) (.op .lst (.cons (.var 0) .nil))) n0 = .nx n1 := sv_set (r := .nw (.list [v])) (n1 := n0) (t := .un) (e_lst (ds := [v]) rfl (show 1 ≤ sizeLine by omega)) rfl rfl
    have g2 : sv T C (.for_ (.nm 2) (.rng1 (.cst (.int 100000))) b__law_rule_due_0) n1 = .nx n2 := sv_for (xs := rangeD 0 100000) (n1 := n1) (rng1_ok (i := 100000) (op_of (r := .fr (.int 100000)) (fun _ _ => rfl) rfl) rfl (by decide)) e
    have g3 : sv T C (.set (.nm 3) l__law_rule_due_1) n2 = .nx (q1 v (.fz (.list A)) s2 (.ow (.list L1)) .un .un .un) := sv_set (t := .un) d1 rfl rfl
    have g4 : sv T C (.set (.nm 4) l__law_rule_due_2) (q1 v (.fz (.list A)) s2 (.ow (.list L1)) .un .un .un) = .nx n4 := sv_set (t := .un) d2 rfl rfl
    have c1 : (ev T C (.op (.cmp .gt) (.cons (.op .len (.cons (.pk 1) .nil)) (.cons (.cst (.int 100)) .nil)))).t n4 = .ok (decide ((100 : Int) < A.length)) n4 :=
      t_cmp (op_of (r := .fr (.int A.length)) (n1 := n4) (fun _ _ => rfl) (e_one (p := .sl 1) (n1 := n4) rfl rfl rfl rfl)) (op_of (r := .fr (.int 100)) (n1 := n4) (fun _ _ => rfl) rfl) rfl rfl rfl
    have cond : ∃ n5, (ev T C (.or (.op (.cmp .gt) (.cons (.op .len (.cons (.pk 1) .nil)) (.cons (.cst (.int 100)) .nil))) (.or l__law_rule_due_3 l__law_rule_due_4))).t n4 = .ok (decide ((100 : Int) < A.length) || (L1.any (badI 0) || L2.any (badI 1))) n5 := by
      cases u : decide ((100 : Int) < A.length) <;> rw [u] at c1
      · cases u1 : L1.any (badI 0) <;> rw [u1] at d3
        · exact ⟨_, t_or_f c1 (t_or_f d3 d4)⟩
        · exact ⟨_, t_or_f c1 (t_or_t d3)⟩
      · exact ⟨_, t_or_t c1⟩
    obtain ⟨n5, cond⟩ := cond
    have hneg : (decide ((100 : Int) < A.length) || (L1.any (badI 0) || L2.any (badI 1))) = !(decide ((A.length : Int) ≤ 100) && !(L1.any (badI 0) || L2.any (badI 1))) := by
      by_cases u : (A.length : Int) ≤ 100
      · rw [decide_eq_true u, decide_eq_false (by omega)]
        cases (L1.any (badI 0) || L2.any (badI 1)) <;> rfl
      · rw [decide_eq_false u, decide_eq_true (by omega)]; rfl
    rw [hneg] at cond
    cases hg : (decide ((A.length : Int) ≤ 100) && !(L1.any (badI 0) || L2.any (badI 1))) <;> rw [hg] at cond
    · rw [if_neg Bool.false_ne_true, ← finD1 v n5]
      exact def_rt (m := 8) (ss := [.fz v]) (n1 := n5) (sv_nx (sv_iff (t_notB ef) sv_end) (sv_nx g1 (sv_nx g2 (sv_nx g3 (sv_nx g4 (sv_rt (sv_ift cond (sv_rt rfl))))))))
    · rw [if_pos rfl, ← finD1 v n5]
      exact def_rt (m := 8) (ss := [.fz v]) (n1 := n5) (sv_nx (sv_iff (t_notB ef) sv_end) (sv_nx g1 (sv_nx g2 (sv_nx g3 (sv_nx g4 (sv_nx (sv_iff cond sv_end) (sv_rt rfl)))))))
end Z

set_option Elab.async false
set_option linter.all false
set_option maxRecDepth 100000
set_option maxHeartbeats 0
namespace Z
open PySem PySem.Spec PyProof.Rows L2
/-! ## _law_told -/
section
variable {T : Tb} {C : Nat → Option PyData} {n n1 : En}
theorem ex1 {g : Nat} {as : E} {fm : Fm} {x : PyData} {c : Nat} {d : PyData} (hT : T g = some (1, fm)) (hl : (ev T C as).l n = .ok (([x] : List PyData).map P.dd) n1) (h : fm [.fz x] = .ex c d [.none]) : (ev T C (.call g as)).e n = .ex c d n1 := by
  show zCall (T g) (ev T C as).l n = _
  rw [hT]
  unfold zCall
  dsimp only
  rw [hl]
  dsimp only [Ou.bd]
  rw [if_pos (show (([x] : List PyData).map P.dd).length = 1 from rfl)]
  dsimp only [List.map, argsS, argS, Option.bind, Option.map]
  rw [if_pos (show (ioIx [P.dd x]).Nodup from List.nodup_nil), h]
  rfl
theorem ex2 {g : Nat} {as : E} {fm : Fm} {x y : PyData} {c : Nat} {d : PyData} (hT : T g = some (2, fm)) (hl : (ev T C as).l n = .ok (([x, y] : List PyData).map P.dd) n1) (h : fm [.fz x, .fz y] = .ex c d [.none, .none]) : (ev T C (.call g as)).e n = .ex c d n1 := by
  show zCall (T g) (ev T C as).l n = _
  rw [hT]
  unfold zCall
  dsimp only
  rw [hl]
  dsimp only [Ou.bd]
  rw [if_pos (show (([x, y] : List PyData).map P.dd).length = 2 from rfl)]
  dsimp only [List.map, argsS, argS, Option.bind, Option.map]
  rw [if_pos (show (ioIx [P.dd x, P.dd y]).Nodup from List.nodup_nil), h]
  rfl
theorem ex3 {g : Nat} {as : E} {fm : Fm} {x y z : PyData} {c : Nat} {d : PyData} (hT : T g = some (3, fm)) (hl : (ev T C as).l n = .ok (([x, y, z] : List PyData).map P.dd) n1) (h : fm [.fz x, .fz y, .fz z] = .ex c d [.none, .none, .none]) : (ev T C (.call g as)).e n = .ex c d n1 := by
  show zCall (T g) (ev T C as).l n = _
  rw [hT]
  unfold zCall
  dsimp only
  rw [hl]
  dsimp only [Ou.bd]
  rw [if_pos (show (([x, y, z] : List PyData).map P.dd).length = 3 from rfl)]
  dsimp only [List.map, argsS, argS, Option.bind, Option.map]
  rw [if_pos (show (ioIx [P.dd x, P.dd y, P.dd z]).Nodup from List.nodup_nil), h]
  rfl
theorem sv_retx {a : E} {c : Nat} {d : PyData} (h : (ev T C a).e n = .ex c d n1) : sv T C (.ret a) n = .ex c d n1 := by
  show Fl.of ((ev T C a).e n) (fun r n1 => .rt r n1) = _
  rw [h]
theorem sv_tryx {b : S} {i c : Nat} {h : HE} {d r : PyData} {s : Sl} (g : sv T C b n = .ex c d n1) (e : hv c d h = some r) (hs : n1[i]? = some s) : sv T C (.try1 b i h) n = .rt (.fr r) n1 := by
  show (match sv T C b n with
    | .ex c d n1 => match hv c d h, n1[i]? with
      | some r, some _ => Fl.rt (.fr r) n1
      | _, _ => Fl.st
    | f => f) = _
  rw [g]
  dsimp only
  rw [e, hs]
theorem sv_tryr {b : S} {i : Nat} {h : HE} {r : R} (g : sv T C b n = .rt r n1) : sv T C (.try1 b i h) n = .rt r n1 := by
  show (match sv T C b n with
    | .ex c d n1 => match hv c d h, n1[i]? with
      | some r, some _ => Fl.rt (.fr r) n1
      | _, _ => Fl.st
    | f => f) = _
  rw [g]
theorem e_ifE {t a b : E} {k : Bool} {m : Ou R} (h : (ev T C t).t n = .ok k n1) (g : (if k then (ev T C a).e n1 else (ev T C b).e n1) = m) : (ev T C (.ife t a b)).e n = m := by
  show ((ev T C t).t n).bd (fun k n1 => if k then (ev T C a).e n1 else (ev T C b).e n1) = m
  rw [h]
  exact g
theorem t_int {i : Nat} {w j : Int} (hi : n[i]? = some (.fz (.int w))) : (ev T C (.op (.cmp .eq) (.cons (.pk i) (.cons (.cst (.int j)) .nil)))).t n = .ok (decide (w = j)) n := by
  refine t_cmp (op_fz hi) (op_of (r := .fr (.int j)) (fun _ _ => rfl) rfl) (rs_fz hi) rfl ?_
  show (if SeqAt.shaped (.int w) && SeqAt.shaped (.int j) then some (PyData.eqv (.int w) (.int j)) else none) = _
  rw [shaped_int, shaped_int, eqv_int]; rfl
end
section
variable (k b hh : Nat) (hb : b ≤ sizeLine) {v : PyData} (q : okV b hh v) (hz : sz v ≤ sizeLine)
include hb q hz
theorem F23_0 (x : PyData) : Fd (k + 24) 23 [.fz (.int 0), .fz v, .fz x] = .ret (.fr (outD v)) [.none, .none, .none] := by
  have e := F12 (k + 1) b hh hb q hz
  have t0 : locT c__law_told.calls (tbl cs (k + 24)) 0 = some (1, Fd (k + 23) 12) := rfl
  rw [U23]
  generalize locT c__law_told.calls (tbl cs (k + 24)) = T at *
  generalize cstC c__law_told.gcs = C at *
  have tw := t_int (T := T) (C := C) (n := [.fz (.int 0), .fz v, .fz x, .un]) (i := 0) (w := 0) (j := 0) rfl
  unfold outD
  cases h : outR v with
  | none =>
    rw [outC_none h] at e
    exact def_rt (m := 4) (ss := [.fz (.int 0), .fz v, .fz x]) (n1 := [.fz (.int 0), .fz v, .fz x, .un]) (sv_rt (sv_tryr (sv_rt (sv_ift tw (sv_rt (sv_ret (e_call1 (a := .var 1) t0 rfl e rfl)))))))
  | some s =>
    rw [outC_some h] at e
    exact def_rt (m := 4) (ss := [.fz (.int 0), .fz v, .fz x]) (n1 := [.fz (.int 0), .fz v, .fz x, .un]) (sv_rt (sv_tryx (sv_ex (sv_ift tw (sv_ex (sv_retx (ex1 (x := v) t0 rfl e))))) rfl rfl))
theorem F23_w {s : Str} (h : outR v = some s) {x : PyData} {bx hx : Nat} (hbx : bx ≤ sizeLine) (qx : okV bx hx x) (hzx : sz x ≤ sizeLine) (ho : outR x = none) : ∀ w : Int, w = 1 ∨ w = 2 ∨ w = 3 ∨ w = 4 ∨ w = 5 → Fd (k + 24) 23 [.fz (.int w), .fz v, .fz x] = .ret (.fr (.str s)) [.none, .none, .none] := by
  have e18 := F18 k b hh hb q hz h
  have e15 := F15 k b hh hb q hz h .none
  have e16 : Fd (k + 23) 16 [.fz v, .fz .none] = .ex 3 (.str s) [.none, .none] := by
    obtain ⟨ds, e, rfl⟩ := F16 k b hh hb q hz h .none
    exact e
  have e17a := F17a k b hh hb q hz h x .none
  have e17b := F17b k b hh hb q hz h (y := .none) hbx qx hzx ho
  have t1 : locT c__law_told.calls (tbl cs (k + 24)) 1 = some (1, Fd (k + 23) 18) := rfl
  have t2 : locT c__law_told.calls (tbl cs (k + 24)) 2 = some (2, Fd (k + 23) 15) := rfl
  have t3 : locT c__law_told.calls (tbl cs (k + 24)) 3 = some (2, Fd (k + 23) 16) := rfl
  have t4 : locT c__law_told.calls (tbl cs (k + 24)) 4 = some (3, Fd (k + 23) 17) := rfl
  intro w hw
  rw [U23]
  generalize locT c__law_told.calls (tbl cs (k + 24)) = T at *
  generalize cstC c__law_told.gcs = C at *
  have tw := fun j => t_int (T := T) (C := C) (n := [.fz (.int w), .fz v, .fz x, .un]) (i := 0) (w := w) (j := j) rfl
  refine def_rt (m := 4) (ss := [.fz (.int w), .fz v, .fz x]) (n1 := [.fz (.int w), .fz v, .fz x, .un]) (sv_rt (sv_tryx (c := 3) (d := .str s) ?_ rfl rfl))
  rcases hw with rfl | rfl | rfl | rfl | rfl
  · exact sv_nx (sv_iff (tw 0) sv_end) (sv_ex (sv_ift (tw 1) (sv_ex (sv_retx (ex1 (x := v) t1 rfl e18)))))
  · exact sv_nx (sv_iff (tw 0) sv_end) (sv_nx (sv_iff (tw 1) sv_end) (sv_ex (sv_ift (tw 2) (sv_ex (sv_retx (ex2 (x := v) (y := .none) t2 rfl e15))))))
  · exact sv_nx (sv_iff (tw 0) sv_end) (sv_nx (sv_iff (tw 1) sv_end) (sv_nx (sv_iff (tw 2) sv_end) (sv_ex (sv_ift (tw 3) (sv_ex (sv_retx (ex2 (x := v) (y := .none) t3 rfl e16)))))))
  · refine sv_nx (sv_iff (tw 0) sv_end) (sv_nx (sv_iff (tw 1) sv_end) (sv_nx (sv_iff (tw 2) sv_end) (sv_nx (sv_iff (tw 3) sv_end) (sv_ex (sv_retx ?_)))))
    have z := ex3 (T := T) (C := C) (as := (.cons (.var 1) (.cons (.var 2) (.cons (.cst .none) .nil)))) (n := [.fz (.int 4), .fz v, .fz x, .un]) (n1 := [.fz (.int 4), .fz v, .fz x, .un]) (x := v) (y := x) (z := .none) t4 rfl e17a
    exact e_ifE (tw 4) z
  · refine sv_nx (sv_iff (tw 0) sv_end) (sv_nx (sv_iff (tw 1) sv_end) (sv_nx (sv_iff (tw 2) sv_end) (sv_nx (sv_iff (tw 3) sv_end) (sv_ex (sv_retx ?_)))))
    have z := ex3 (T := T) (C := C) (as := (.cons (.var 2) (.cons (.var 1) (.cons (.cst .none) .nil)))) (n := [.fz (.int 5), .fz v, .fz x, .un]) (n1 := [.fz (.int 5), .fz v, .fz x, .un]) (x := x) (y := v) (z := .none) t4 rfl e17b
    exact e_ifE (tw 4) z
end
theorem due_cases (v : PyData) : outD v = .none ∨ outD v = .str "form" ∨ outD v = .str "limits" := by
  unfold outD outR
  split
  · exact .inl rfl
  · rename_i s h
    split at h
    · split at h
      · cases h
      · cases h; exact .inr (.inr rfl)
    · cases h; exact .inr (.inl rfl)
theorem F8 (k : Nat) {a : PyData} (ha : a = .none ∨ a = .str "form" ∨ a = .str "limits") : Fd k 8 [.fz a, .fz a] = .ret (.fr (.bool true)) [.none, .none] := by
  have z : (16 : Nat) ≤ sizeLine := by rw [sizeLine_eq]; decide
  have g : Gd 0 16 a := by
    rcases ha with rfl | rfl | rfl
    · exact Gd.none.mono (Nat.le_refl _) (by decide)
    · exact ⟨by decide +kernel, by decide +kernel, by decide +kernel, by decide +kernel, by decide +kernel⟩
    · exact ⟨by decide +kernel, by decide +kernel, by decide +kernel, by decide +kernel, by decide +kernel⟩
  obtain ⟨h1, h2, h3, _, h5, h6⟩ := g.same (by decide) z
  have h4 := Nat.le_trans g.len z
  rw [U8]
  simp [evDef, sv, ev, Fl.of, Ev.val, Ev.no, Ev.itr, opd_pk, opd_io, opd_var, opd_cst, opd_glb, opd_op, opd_chn, opd_slc, opd_and, opd_or, opd_not, opd_ife, opd_call, opd_lc, Ou.bd, zOp, opdl, retains, rsl, Z.rs, frl, opD, binD, cmpD, Ou.of, slD, atI, ixN, eqv_int, shaped_int, dbl, dint, zVar, zPkT, putR, ownAt, R.sl, R.d, finD, truD, zCall, locT, cstC, argsS, argS, ioIx, afterCall, putBack, zAnd, zOr, zNot, zChn, zSlc, slcD, cutD, Tg.put, setAll, seqD, isTy_tt, fmtOk, fitL, zRng1, zRng2, smallI, zChn3, zLrg1, zLrg2, zEnm, zZip, opd_chn3, opd_lrg1, opd_lrg2, c__law_same, h1, h2, h3, h4, h5, h6]
/-! ## _law_start -/
theorem F5loop (T : Tb) (C : Nat → Option PyData) (v : Sl) : ∀ (ns : List Int) (s : Int) (t : Sl), unfz t → ∃ s' t', forGo (.nm 2) (sv T C b__law_start_0) (ns.map .int) [v, .fz (.int s), t] = .nx [v, .fz (.int s'), t']
  | [], s, t, _ => ⟨s, t, rfl⟩
  | n :: ns, s, t, ht => by
    have hp : (Tg.nm 2).put (.int n) [v, .fz (.int s), t] = some [v, .fz (.int s), .fz (.int n)] := by rcases ht with rfl | ⟨y, rfl⟩ <;> rfl
    rw [List.map_cons, forGo_cons, hp]
    have hb : sv T C b__law_start_0 [v, .fz (.int s), .fz (.int n)] = .nx [v, .fz (.int ((s * 48271 + n).fmod 2147483629 + 1)), .fz (.int n)] := by
      simp [evDef, sv, ev, Fl.of, Ev.val, Ev.no, Ev.itr, opd_pk, opd_io, opd_var, opd_cst, opd_glb, opd_op, opd_chn, opd_slc, opd_and, opd_or, opd_not, opd_ife, opd_call, opd_lc, Ou.bd, zOp, opdl, retains, rsl, Z.rs, frl, opD, binD, cmpD, Ou.of, slD, atI, ixN, eqv_int, shaped_int, dbl, dint, zVar, zPkT, putR, ownAt, R.sl, R.d, finD, truD, zCall, locT, cstC, argsS, argS, ioIx, afterCall, putBack, zAnd, zOr, zNot, zChn, zSlc, slcD, cutD, Tg.put, setAll, seqD, isTy_tt, fmtOk, fitL, zRng1, zRng2, smallI, zChn3, zLrg1, zLrg2, zEnm, zZip, opd_chn3, opd_lrg1, opd_lrg2, b__law_start_0]
    dsimp only
    rw [hb]
    exact F5loop T C v ns _ _ (.inr ⟨_, rfl⟩)
theorem F5 (k : Nat) (ns : List Int) : ∃ d, Fd k 5 [.fz (.list (ns.map .int))] = .ret (.nw d) [.none] ∧ St d := by
  obtain ⟨s', t', e⟩ := F5loop (locT c__law_start.calls (tbl cs k)) (cstC c__law_start.gcs) (.fz (.list (ns.map .int))) ns 7 .un (.inl rfl)
  refine ⟨stD ns 0 0 s', ?_, ns, 0, 0, s', rfl, by omega, by omega⟩
  rw [U5]
  simp only [c__law_start] at e ⊢
  have z4 : (4 : Nat) ≤ sizeLine := by rw [sizeLine_eq]; decide
  simp [evDef, sv, ev, Fl.of, Ev.val, Ev.no, Ev.itr, opd_pk, opd_io, opd_var, opd_cst, opd_glb, opd_op, opd_chn, opd_slc, opd_and, opd_or, opd_not, opd_ife, opd_call, opd_lc, Ou.bd, zOp, opdl, retains, rsl, Z.rs, frl, opD, binD, cmpD, Ou.of, slD, atI, ixN, eqv_int, shaped_int, dbl, dint, zVar, zPkT, putR, ownAt, R.sl, R.d, finD, truD, zCall, locT, cstC, argsS, argS, ioIx, afterCall, putBack, zAnd, zOr, zNot, zChn, zSlc, slcD, cutD, Tg.put, setAll, seqD, isTy_tt, fmtOk, fitL, zRng1, zRng2, smallI, zChn3, zLrg1, zLrg2, zEnm, zZip, opd_chn3, opd_lrg1, opd_lrg2, e, stD, z4, finD1]
end Z

set_option Elab.async false
set_option linter.all false
set_option maxRecDepth 100000
set_option maxHeartbeats 0
namespace Z
open PySem PySem.Spec PyProof.Rows L2
/-! ## drawn rules and tests -/
def GG : Nat → Nat
  | 0 => 3
  | n + 1 => 3 * GG n + 2
theorem GG3 : ∀ n, 3 ≤ GG n
  | 0 => Nat.le_refl _
  | n + 1 => by have := GG3 n; show 3 ≤ 3 * GG n + 2; omega
theorem atI_ok {xs : List PyData} {j : Int} (h0 : 0 ≤ j) (h1 : j < xs.length) : ∃ x, atI xs j = some x ∧ x ∈ xs := by
  have hl : j.toNat < xs.length := by omega
  have e := atI_nat hl
  rw [Int.toNat_of_nonneg h0] at e
  exact ⟨_, e, List.getElem_mem hl⟩
theorem atom_str {s : String} (h : (Str.ofString s).length ≤ 100) : atom (.str s) := ⟨ok_of s, h⟩
theorem at_facts : ∀ x ∈ factsD, atom x := by
  intro x hx
  simp only [factsD, List.mem_cons, List.not_mem_nil, or_false] at hx
  rcases hx with rfl | rfl | rfl | rfl | rfl <;> exact atom_str (by decide +kernel)
theorem at_pairs : ∀ x ∈ pairsD, atom x := by
  intro x hx
  simp only [pairsD, List.mem_cons, List.not_mem_nil, or_false] at hx
  rcases hx with rfl | rfl | rfl | rfl | rfl <;> exact atom_str (by decide +kernel)
def tsts : List PyData := [.str "less", .str "less", .str "equal"]
def jns : List PyData := [.str "both", .str "either", .str "either"]
theorem at_tsts : ∀ x ∈ tsts, atom x := by
  intro x hx
  simp only [tsts, List.mem_cons, List.not_mem_nil, or_false] at hx
  rcases hx with rfl | rfl | rfl <;> exact atom_str (by decide +kernel)
theorem at_jns : ∀ x ∈ jns, atom x := by
  intro x hx
  simp only [jns, List.mem_cons, List.not_mem_nil, or_false] at hx
  rcases hx with rfl | rfl | rfl <;> exact atom_str (by decide +kernel)
theorem at_ints {l : List Int} : ∀ x ∈ l.map PyData.int, atom x := by
  intro x hx
  obtain ⟨i, _, rfl⟩ := List.mem_map.mp hx
  exact trivial
theorem atom_sz {x : PyData} (h : atom x) : sz x = 1 := by cases x <;> first | rfl | exact h.elim
theorem ok4 {n : Nat} {xs : List PyData} (h1 : xs.length ≤ 4) (h2 : ∀ x ∈ xs, okV 4 n x) : okV 4 (n + 1) (.tuple xs) := okV_tup h1 h2
section
variable {T : Tb} {C : Nat → Option PyData} {d d' : PyData} {s1 s2 : Sl}
theorem e_io {g id k : Nat} {a : E} {x y : PyData} (hT : T g = some (2, Fd k id)) (hb : opd a (ev T C a).e [.pn d, s1, s2] = .ok (.dd y) [.pn d, s1, s2]) (h : Fd k id [.pn d, .fz y] = .ret (.fr x) [d', .none]) : (ev T C (.call g (.cons (.io 0) (.cons a .nil)))).e [.pn d, s1, s2] = .ok (.fr x) [.pn d', s1, s2] := by
  show zCall (T g) (ev T C (.cons (.io 0) (.cons a .nil))).l _ = _
  rw [hT]
  have e : (ev T C (.cons (.io 0) (.cons a .nil))).l [.pn d, s1, s2] = .ok [.io 0, .dd y] [.pn d, s1, s2] := by
    show ((opd a (ev T C a).e [.pn d, s1, s2]).bd (fun q n2 => (Ou.ok [] n2).bd fun ps n3 => Ou.ok (q :: ps) n3)).bd (fun ps n2 => Ou.ok (P.io 0 :: ps) n2) = _
    rw [hb]
  unfold zCall
  dsimp only
  rw [e]
  dsimp only [Ou.bd]
  rw [if_pos (show [P.io 0, P.dd y].length = 2 from rfl)]
  have ea : argsS [.pn d, s1, s2] [P.io 0, P.dd y] = some [.pn d, .fz y] := rfl
  rw [ea]
  dsimp only
  rw [if_pos (show (ioIx [P.io 0, P.dd y]).Nodup from by simp [ioIx]), h]
  rfl
theorem t_lt {n : En} {i : Nat} {w j : Int} (hi : n[i]? = some (.fz (.int w))) : (ev T C (.op (.cmp .lt) (.cons (.pk i) (.cons (.cst (.int j)) .nil)))).t n = .ok (decide (w < j)) n :=
  t_cmp (op_fz hi) (op_of (r := .fr (.int j)) (fun _ _ => rfl) rfl) (rs_fz hi) rfl rfl
/-- depth - 1 handed on -/
theorem e_dn {g id k : Nat} {m : Int} {x : PyData} (hT : T g = some (2, Fd k id)) (h : Fd k id [.pn d, .fz (.int (m - 1))] = .ret (.fr x) [d', .none]) : opd (.call g (.cons (.io 0) (.cons (.op (.bin .sub) (.cons (.pk 1) (.cons (.cst (.int 1)) .nil))) .nil))) (ev T C (.call g (.cons (.io 0) (.cons (.op (.bin .sub) (.cons (.pk 1) (.cons (.cst (.int 1)) .nil))) .nil)))).e [.pn d, .fz (.int m), s2] = .ok (.dd x) [.pn d', .fz (.int m), s2] :=
  op_of (fun _ _ => rfl) (e_io hT (op_of (fun _ _ => rfl) (e_dec rfl)) h)
end
theorem RT (hz : 10 ≤ sizeLine) : ∀ n k : Nat, (∀ d m, St d → m ≤ (n : Int) → ∃ x d', Fd (k + n + 2) 13 [.pn d, .fz (.int m)] = .ret (.fr x) [d', .none] ∧ St d' ∧ okV 4 (n + 1) x ∧ sz x ≤ GG n) ∧
    (∀ d m, St d → 2 ≤ m → m ≤ (n : Int) → ∃ x d', Fd (k + n + 2) 14 [.pn d, .fz (.int m)] = .ret (.fr x) [d', .none] ∧ St d' ∧ okV 4 (n + 1) x ∧ sz x ≤ GG n) := by
  intro n
  induction n with
  | zero =>
    intro k
    refine ⟨fun d m hd hm => ?_, fun d m _ h2 hm => by omega⟩
    obtain ⟨v, d1, e1, st1, v0, v1⟩ := draw (k + 1) hd (m := 12) (by omega) (by omega)
    obtain ⟨x, d2, e2, st2, hx⟩ := pick k (xs := factsD) st1 (by simp [factsD]) (by simp [factsD])
    refine ⟨.tuple [x], d2, ?_, st2, ok4 (by simp) (fun y hy => by rw [List.mem_singleton.mp hy]; exact okV_atom (at_facts x hx)), by simp only [sz, szs, atom_sz (at_facts x hx)]; decide⟩
    rw [U13]
    have t0 : locT c__law_rule.calls (tbl cs (k + 0 + 2)) 0 = some (2, Fd (k + 1) 6) := rfl
    have t1 : locT c__law_rule.calls (tbl cs (k + 0 + 2)) 1 = some (2, Fd (k + 1) 7) := rfl
    generalize locT c__law_rule.calls (tbl cs (k + 0 + 2)) = T at *
    generalize cstC c__law_rule.gcs = C at *
    refine def_rt (m := 3) (ss := [.pn d, .fz (.int m)]) (n1 := [.pn d2, .fz (.int m), .fz (.int v)]) ?_
    refine sv_nx (n1 := [.pn d1, .fz (.int m), .fz (.int v)]) (sv_set (r := .fr (.int v)) (n1 := [.pn d1, .fz (.int m), .un]) (t := .un) (e_io (y := .int 12) t0 rfl e1) rfl rfl) ?_
    have tm := t_lt (T := T) (C := C) (n := [.pn d1, .fz (.int m), .fz (.int v)]) (i := 1) (w := m) (j := 2) rfl
    rw [decide_eq_true (by omega)] at tm
    have el := e_lst (T := T) (C := C) (n := [.pn d1, .fz (.int m), .fz (.int v)]) (n1 := [.pn d1, .fz (.int m), .fz (.int v)]) (ds := factsD) (as := (.cons (.cst (.str "buffer")) (.cons (.cst (.str "piece")) (.cons (.cst (.str "last")) (.cons (.cst (.str "units")) (.cons (.cst (.str "rates")) .nil)))))) rfl (show 5 ≤ sizeLine by omega)
    exact sv_rt (sv_ift (t_or_t tm) (sv_rt (sv_ret (e_tup (ds := [x]) (l_cons (op_of (fun _ _ => rfl) (e_io t1 (op_of (fun _ _ => rfl) el) e2)) l_nil) (show 1 ≤ sizeLine by omega)))))
  | succ n ih =>
    intro k
    have ihR := (ih k).1
    have ihT := (ih k).2
    have g3 := GG3 n
    refine ⟨fun d m hd hm => ?_, fun d m hd h2 hm => ?_⟩
    · obtain ⟨v, d1, e1, st1, v0, v1⟩ := draw (k + n + 2) hd (m := 12) (by omega) (by omega)
      rw [U13]
      have t0 : locT c__law_rule.calls (tbl cs (k + (n + 1) + 2)) 0 = some (2, Fd (k + n + 2) 6) := rfl
      have t1 : locT c__law_rule.calls (tbl cs (k + (n + 1) + 2)) 1 = some (2, Fd (k + n + 2) 7) := rfl
      have t2 : locT c__law_rule.calls (tbl cs (k + (n + 1) + 2)) 2 = some (2, Fd (k + n + 2) 13) := rfl
      have t3 : locT c__law_rule.calls (tbl cs (k + (n + 1) + 2)) 3 = some (2, Fd (k + n + 2) 14) := rfl
      generalize locT c__law_rule.calls (tbl cs (k + (n + 1) + 2)) = T at *
      generalize cstC c__law_rule.gcs = C at *
      let N : PyData → En := fun d => [.pn d, .fz (.int m), .fz (.int v)]
      have s0 : sv T C (.set (.nm 2) (.call 0 (.cons (.io 0) (.cons (.cst (.int 12)) .nil)))) [.pn d, .fz (.int m), .un] = .nx (N d1) := sv_set (r := .fr (.int v)) (n1 := [.pn d1, .fz (.int m), .un]) (t := .un) (e_io (y := .int 12) t0 rfl e1) rfl rfl
      have tm := fun j => t_lt (T := T) (C := C) (n := N d1) (i := 1) (w := m) (j := j) rfl
      have tv := fun j => t_lt (T := T) (C := C) (n := N d1) (i := 2) (w := v) (j := j) rfl
      have tq := fun j => t_int (T := T) (C := C) (n := N d1) (i := 2) (w := v) (j := j) rfl
      have c1 := or2t (tm 2) fun _ => tv 2
      by_cases h1 : m < 2 ∨ v < 2
      · have hc : (decide (m < 2) || decide (v < 2)) = true := by rcases h1 with h | h <;> simp [h]
        rw [hc] at c1
        obtain ⟨x, d2, e2, st2, hx⟩ := pick (k + n + 1) (xs := factsD) st1 (by simp [factsD]) (by simp [factsD])
        have el := e_lst (T := T) (C := C) (n := N d1) (n1 := N d1) (ds := factsD) (as := (.cons (.cst (.str "buffer")) (.cons (.cst (.str "piece")) (.cons (.cst (.str "last")) (.cons (.cst (.str "units")) (.cons (.cst (.str "rates")) .nil)))))) rfl (show 5 ≤ sizeLine by omega)
        refine ⟨.tuple [x], d2, ?_, st2, ok4 (by simp) (fun y hy => by rw [List.mem_singleton.mp hy]; exact okV_atom (at_facts x hx)), by simp only [sz, szs, atom_sz (at_facts x hx), GG]; omega⟩
        exact def_rt (m := 3) (ss := [.pn d, .fz (.int m)]) (n1 := N d2) (sv_nx s0 (sv_rt (sv_ift c1 (sv_rt (sv_ret (e_tup (ds := [x]) (l_cons (op_of (fun _ _ => rfl) (e_io t1 (op_of (fun _ _ => rfl) el) e2)) l_nil) (show 1 ≤ sizeLine by omega)))))))
      · have hm2 : 2 ≤ m := by omega
        have hv2 : 2 ≤ v := by omega
        have hc : (decide (m < 2) || decide (v < 2)) = false := by simp; omega
        rw [hc] at c1
        by_cases hq : v = 2
        · have c2 := tq 2
          rw [decide_eq_true hq] at c2
          obtain ⟨x, d2, e2, st2, hx⟩ := pick (k + n + 1) (xs := [0, 1, 2, 3, 10, 999, 1000].map PyData.int) st1 (by simp) (by simp)
          have ax := at_ints x hx
          have el := e_lst (T := T) (C := C) (n := N d1) (n1 := N d1) (ds := [0, 1, 2, 3, 10, 999, 1000].map PyData.int) (as := (.cons (.cst (.int 0)) (.cons (.cst (.int 1)) (.cons (.cst (.int 2)) (.cons (.cst (.int 3)) (.cons (.cst (.int 10)) (.cons (.cst (.int 999)) (.cons (.cst (.int 1000)) .nil)))))))) rfl (show 7 ≤ sizeLine by omega)
          refine ⟨.tuple [.str "number", x], d2, ?_, st2, ok4 (by simp) (fun y hy => ?_), by simp only [sz, szs, atom_sz ax, GG]; omega⟩
          · exact def_rt (m := 3) (ss := [.pn d, .fz (.int m)]) (n1 := N d2) (sv_nx s0 (sv_nx (sv_iff c1 sv_end) (sv_rt (sv_ift c2 (sv_rt (sv_ret (e_tup (ds := [.str "number", x]) (l_cons rfl (l_cons (op_of (fun _ _ => rfl) (e_io t1 (op_of (fun _ _ => rfl) el) e2)) l_nil)) (show 2 ≤ sizeLine by omega))))))))
          · simp only [List.mem_cons, List.not_mem_nil, or_false] at hy
            rcases hy with rfl | rfl
            · exact okV_atom (atom_str (by decide +kernel))
            · exact okV_atom ax
        · have c2 := tq 2
          rw [decide_eq_false hq] at c2
          by_cases h8 : v < 8
          · have c3 := tv 8
            rw [decide_eq_true h8] at c3
            obtain ⟨a, d2, e2, st2, qa, za⟩ := ihR d1 (m - 1) st1 (by omega)
            obtain ⟨b, d3, e3, st3, qb, zb⟩ := ihR d2 (m - 1) st2 (by omega)
            obtain ⟨w, ew, hw⟩ := atI_ok (xs := pairsD) (j := v - 3) (by omega) (by simp [pairsD]; omega)
            have el := e_lst (T := T) (C := C) (n := N d1) (n1 := N d1) (ds := pairsD) (as := (.cons (.cst (.str "add")) (.cons (.cst (.str "sub")) (.cons (.cst (.str "mul")) (.cons (.cst (.str "least")) (.cons (.cst (.str "most")) .nil)))))) rfl (show 5 ≤ sizeLine by omega)
            have ei := e_two (T := T) (C := C) (o := .idx) (n := N d1) rfl (op_of (fun _ _ => rfl) el) (op_of (fun _ _ => rfl) (e_dec (i := 2) (m := v) (j := 3) rfl)) rfl rfl (r := .fr w) (by show (atI pairsD (v - 3)).map R.fr = _; rw [ew]; rfl)
            refine ⟨.tuple [w, a, b], d3, ?_, st3, ok4 (by simp) (fun y hy => ?_), by simp only [sz, szs, atom_sz (at_pairs w hw), GG]; omega⟩
            · exact def_rt (m := 3) (ss := [.pn d, .fz (.int m)]) (n1 := N d3) (sv_nx s0 (sv_nx (sv_iff c1 sv_end) (sv_nx (sv_iff c2 sv_end) (sv_rt (sv_ift c3 (sv_rt (sv_ret (e_tup (ds := [w, a, b]) (l_cons (op_of (fun _ _ => rfl) ei) (l_cons (e_dn t2 e2) (l_cons (e_dn t2 e3) l_nil))) (show 3 ≤ sizeLine by omega)))))))))
            · simp only [List.mem_cons, List.not_mem_nil, or_false] at hy
              rcases hy with rfl | rfl | rfl
              · exact okV_atom (at_pairs _ hw)
              · exact qa
              · exact qb
          · have c3 := tv 8
            rw [decide_eq_false h8] at c3
            by_cases h9 : v = 8
            · have c4 := tq 8
              rw [decide_eq_true h9] at c4
              obtain ⟨a, d2, e2, st2, qa, za⟩ := ihR d1 (m - 1) st1 (by omega)
              obtain ⟨x, d3, e3, st3, hx⟩ := pick (k + n + 1) (xs := [1, 2, 3, 7, 1000].map PyData.int) st2 (by simp) (by simp)
              have ax := at_ints x hx
              have el := e_lst (T := T) (C := C) (n := N d2) (n1 := N d2) (ds := [1, 2, 3, 7, 1000].map PyData.int) (as := (.cons (.cst (.int 1)) (.cons (.cst (.int 2)) (.cons (.cst (.int 3)) (.cons (.cst (.int 7)) (.cons (.cst (.int 1000)) .nil)))))) rfl (show 5 ≤ sizeLine by omega)
              refine ⟨.tuple [.str "part", a, x], d3, ?_, st3, ok4 (by simp) (fun y hy => ?_), by simp only [sz, szs, atom_sz ax, GG]; omega⟩
              · exact def_rt (m := 3) (ss := [.pn d, .fz (.int m)]) (n1 := N d3) (sv_nx s0 (sv_nx (sv_iff c1 sv_end) (sv_nx (sv_iff c2 sv_end) (sv_nx (sv_iff c3 sv_end) (sv_rt (sv_ift c4 (sv_rt (sv_ret (e_tup (ds := [.str "part", a, x]) (l_cons rfl (l_cons (e_dn t2 e2) (l_cons (op_of (fun _ _ => rfl) (e_io t1 (op_of (fun _ _ => rfl) el) e3)) l_nil))) (show 3 ≤ sizeLine by omega))))))))))
              · simp only [List.mem_cons, List.not_mem_nil, or_false] at hy
                rcases hy with rfl | rfl | rfl
                · exact okV_atom (atom_str (by decide +kernel))
                · exact qa
                · exact okV_atom ax
            · have c4 := tq 8
              rw [decide_eq_false h9] at c4
              by_cases h3 : m < 3
              · have c5 := tm 3
                rw [decide_eq_true h3] at c5
                refine ⟨.tuple [.str "rates"], d1, ?_, st1, ok4 (by simp) (fun y hy => by rw [List.mem_singleton.mp hy]; exact okV_atom (atom_str (by decide +kernel))), by simp only [sz, szs, GG]; omega⟩
                exact def_rt (m := 3) (ss := [.pn d, .fz (.int m)]) (n1 := N d1) (sv_nx s0 (sv_nx (sv_iff c1 sv_end) (sv_nx (sv_iff c2 sv_end) (sv_nx (sv_iff c3 sv_end) (sv_nx (sv_iff c4 sv_end) (sv_rt (sv_ift c5 (sv_rt (sv_ret (e_tup (ds := [.str "rates"]) (l_cons rfl l_nil) (show 1 ≤ sizeLine by omega)))))))))))
              · have c5 := tm 3
                rw [decide_eq_false h3] at c5
                obtain ⟨t, d2, e2, st2, qt, zt⟩ := ihT d1 (m - 1) st1 (by omega) (by omega)
                obtain ⟨a, d3, e3, st3, qa, za⟩ := ihR d2 (m - 1) st2 (by omega)
                obtain ⟨b, d4, e4, st4, qb, zb⟩ := ihR d3 (m - 1) st3 (by omega)
                refine ⟨.tuple [.str "cond", t, a, b], d4, ?_, st4, ok4 (by simp) (fun y hy => ?_), by simp only [sz, szs, GG]; omega⟩
                · exact def_rt (m := 3) (ss := [.pn d, .fz (.int m)]) (n1 := N d4) (sv_nx s0 (sv_nx (sv_iff c1 sv_end) (sv_nx (sv_iff c2 sv_end) (sv_nx (sv_iff c3 sv_end) (sv_nx (sv_iff c4 sv_end) (sv_nx (sv_iff c5 sv_end) (sv_rt (sv_ret (e_tup (ds := [.str "cond", t, a, b]) (l_cons rfl (l_cons (e_dn t3 e2) (l_cons (e_dn t2 e3) (l_cons (e_dn t2 e4) l_nil)))) (show 4 ≤ sizeLine by omega))))))))))
                · simp only [List.mem_cons, List.not_mem_nil, or_false] at hy
                  rcases hy with rfl | rfl | rfl | rfl
                  · exact okV_atom (atom_str (by decide +kernel))
                  · exact qt
                  · exact qa
                  · exact qb
    · obtain ⟨v, d1, e1, st1, v0, v1⟩ := draw (k + n + 2) hd (m := 7) (by omega) (by omega)
      rw [U14]
      have t0 : locT c__law_test.calls (tbl cs (k + (n + 1) + 2)) 0 = some (2, Fd (k + n + 2) 6) := rfl
      have t1 : locT c__law_test.calls (tbl cs (k + (n + 1) + 2)) 1 = some (2, Fd (k + n + 2) 13) := rfl
      have t2 : locT c__law_test.calls (tbl cs (k + (n + 1) + 2)) 2 = some (2, Fd (k + n + 2) 14) := rfl
      generalize locT c__law_test.calls (tbl cs (k + (n + 1) + 2)) = T at *
      generalize cstC c__law_test.gcs = C at *
      let N : PyData → En := fun d => [.pn d, .fz (.int m), .fz (.int v)]
      have s0 : sv T C (.set (.nm 2) (.call 0 (.cons (.io 0) (.cons (.cst (.int 7)) .nil)))) [.pn d, .fz (.int m), .un] = .nx (N d1) := sv_set (r := .fr (.int v)) (n1 := [.pn d1, .fz (.int m), .un]) (t := .un) (e_io (y := .int 7) t0 rfl e1) rfl rfl
      have tm := fun j => t_lt (T := T) (C := C) (n := N d1) (i := 1) (w := m) (j := j) rfl
      have tv := fun j => t_lt (T := T) (C := C) (n := N d1) (i := 2) (w := v) (j := j) rfl
      have c1 := or2t (tv 3) fun _ => tm 3
      by_cases h1 : v < 3 ∨ m < 3
      · have hc : (decide (v < 3) || decide (m < 3)) = true := by rcases h1 with h | h <;> simp [h]
        rw [hc] at c1
        obtain ⟨a, d2, e2, st2, qa, za⟩ := ihR d1 (m - 1) st1 (by omega)
        obtain ⟨b, d3, e3, st3, qb, zb⟩ := ihR d2 (m - 1) st2 (by omega)
        have f0 : 0 ≤ v.fmod 3 := Int.fmod_nonneg_of_pos v (by omega)
        have f1 : v.fmod 3 < 3 := Int.fmod_lt_of_pos v (by omega)
        obtain ⟨w, ew, hw⟩ := atI_ok (xs := tsts) (j := v.fmod 3) f0 (by simp [tsts]; omega)
        have el := e_lst (T := T) (C := C) (n := N d1) (n1 := N d1) (ds := tsts) (as := (.cons (.cst (.str "less")) (.cons (.cst (.str "less")) (.cons (.cst (.str "equal")) .nil)))) rfl (show 3 ≤ sizeLine by omega)
        have em : (ev T C (.op (.bin .mod) (.cons (.pk 2) (.cons (.cst (.int 3)) .nil)))).e (N d1) = .ok (.fr (.int (v.fmod 3))) (N d1) := e_two rfl (op_fz (d := .int v) rfl) (op_of (r := .fr (.int 3)) (n1 := N d1) (fun _ _ => rfl) rfl) (x := .int v) rfl rfl rfl
        have ei := e_two (T := T) (C := C) (o := .idx) (n := N d1) rfl (op_of (fun _ _ => rfl) el) (op_of (fun _ _ => rfl) em) rfl rfl (r := .fr w) (by show (atI tsts (v.fmod 3)).map R.fr = _; rw [ew]; rfl)
        refine ⟨.tuple [w, a, b], d3, ?_, st3, ok4 (by simp) (fun y hy => ?_), by simp only [sz, szs, atom_sz (at_tsts w hw), GG]; omega⟩
        · exact def_rt (m := 3) (ss := [.pn d, .fz (.int m)]) (n1 := N d3) (sv_nx s0 (sv_rt (sv_ift c1 (sv_rt (sv_ret (e_tup (ds := [w, a, b]) (l_cons (op_of (fun _ _ => rfl) ei) (l_cons (e_dn t1 e2) (l_cons (e_dn t1 e3) l_nil))) (show 3 ≤ sizeLine by omega)))))))
        · simp only [List.mem_cons, List.not_mem_nil, or_false] at hy
          rcases hy with rfl | rfl | rfl
          · exact okV_atom (at_tsts _ hw)
          · exact qa
          · exact qb
      · have hc : (decide (v < 3) || decide (m < 3)) = false := by simp; omega
        rw [hc] at c1
        obtain ⟨a, d2, e2, st2, qa, za⟩ := ihT d1 (m - 1) st1 (by omega) (by omega)
        by_cases h6 : v < 6
        · have c2 := tv 6
          rw [decide_eq_true h6] at c2
          obtain ⟨b, d3, e3, st3, qb, zb⟩ := ihT d2 (m - 1) st2 (by omega) (by omega)
          obtain ⟨w, ew, hw⟩ := atI_ok (xs := jns) (j := v - 3) (by omega) (by simp [jns]; omega)
          have el := e_lst (T := T) (C := C) (n := N d1) (n1 := N d1) (ds := jns) (as := (.cons (.cst (.str "both")) (.cons (.cst (.str "either")) (.cons (.cst (.str "either")) .nil)))) rfl (show 3 ≤ sizeLine by omega)
          have ei := e_two (T := T) (C := C) (o := .idx) (n := N d1) rfl (op_of (fun _ _ => rfl) el) (op_of (fun _ _ => rfl) (e_dec (i := 2) (m := v) (j := 3) rfl)) rfl rfl (r := .fr w) (by show (atI jns (v - 3)).map R.fr = _; rw [ew]; rfl)
          refine ⟨.tuple [w, a, b], d3, ?_, st3, ok4 (by simp) (fun y hy => ?_), by simp only [sz, szs, atom_sz (at_jns w hw), GG]; omega⟩
          · exact def_rt (m := 3) (ss := [.pn d, .fz (.int m)]) (n1 := N d3) (sv_nx s0 (sv_nx (sv_iff c1 sv_end) (sv_rt (sv_ift c2 (sv_rt (sv_ret (e_tup (ds := [w, a, b]) (l_cons (op_of (fun _ _ => rfl) ei) (l_cons (e_dn t2 e2) (l_cons (e_dn t2 e3) l_nil))) (show 3 ≤ sizeLine by omega))))))))
          · simp only [List.mem_cons, List.not_mem_nil, or_false] at hy
            rcases hy with rfl | rfl | rfl
            · exact okV_atom (at_jns _ hw)
            · exact qa
            · exact qb
        · have c2 := tv 6
          rw [decide_eq_false h6] at c2
          refine ⟨.tuple [.str "no", a], d2, ?_, st2, ok4 (by simp) (fun y hy => ?_), by simp only [sz, szs, GG]; omega⟩
          · exact def_rt (m := 3) (ss := [.pn d, .fz (.int m)]) (n1 := N d2) (sv_nx s0 (sv_nx (sv_iff c1 sv_end) (sv_nx (sv_iff c2 sv_end) (sv_rt (sv_ret (e_tup (ds := [.str "no", a]) (l_cons rfl (l_cons (e_dn t2 e2) l_nil)) (show 2 ≤ sizeLine by omega)))))))
          · simp only [List.mem_cons, List.not_mem_nil, or_false] at hy
            rcases hy with rfl | rfl
            · exact okV_atom (atom_str (by decide +kernel))
            · exact qa
end Z

set_option Elab.async false
set_option linter.all false
set_option maxRecDepth 100000
set_option maxHeartbeats 0
namespace Z
open PySem PySem.Spec PyProof.Rows L2
/-! ## _law_wide_rule -/
section
variable {T : Tb} {C : Nat → Option PyData} {d d' : PyData} {r : List Sl}
theorem e_ioR {g id k : Nat} {a : E} {x y : PyData} (hT : T g = some (2, Fd k id)) (hb : opd a (ev T C a).e (.pn d :: r) = .ok (.dd y) (.pn d :: r)) (h : Fd k id [.pn d, .fz y] = .ret (.fr x) [d', .none]) : (ev T C (.call g (.cons (.io 0) (.cons a .nil)))).e (.pn d :: r) = .ok (.fr x) (.pn d' :: r) := by
  show zCall (T g) (ev T C (.cons (.io 0) (.cons a .nil))).l _ = _
  rw [hT]
  have e : (ev T C (.cons (.io 0) (.cons a .nil))).l (.pn d :: r) = .ok [.io 0, .dd y] (.pn d :: r) := by
    show ((opd a (ev T C a).e (.pn d :: r)).bd (fun q n2 => (Ou.ok [] n2).bd fun ps n3 => Ou.ok (q :: ps) n3)).bd (fun ps n2 => Ou.ok (P.io 0 :: ps) n2) = _
    rw [hb]
  unfold zCall
  dsimp only
  rw [e]
  dsimp only [Ou.bd]
  rw [if_pos (show [P.io 0, P.dd y].length = 2 from rfl)]
  have ea : argsS (.pn d :: r) [P.io 0, P.dd y] = some [.pn d, .fz y] := rfl
  rw [ea]
  dsimp only
  rw [if_pos (show (ioIx [P.io 0, P.dd y]).Nodup from by simp [ioIx]), h]
  rfl
end
def w3 (u : PyData) : List PyData := [.tuple [.str "add", u, .tuple [.str "number", .int 1]], .tuple [.str "part", u, .int 3], .tuple [.str "cond", .tuple [.str "less", .tuple [.str "piece"], .tuple [.str "last"]], u, .tuple [.str "rates"]]]
theorem w3_ok {h : Nat} {u : PyData} (h2 : 2 ≤ h) (q : okV 4 h u) : ∀ x ∈ w3 u, okV 4 (h + 1) x ∧ sz x ≤ sz u + 10 := by
  have s : ∀ {n : Nat} {s : String}, (Str.ofString s).length ≤ 100 → okV 4 n (.str s) := fun hs => okV_atom (atom_str hs)
  have t1 : ∀ {n : Nat} {s : String}, (Str.ofString s).length ≤ 100 → okV 4 (n + 1) (.tuple [.str s]) := fun hs => ok4 (by simp) fun y hy => by rw [List.mem_singleton.mp hy]; exact s hs
  obtain ⟨h, rfl⟩ : ∃ g, h = g + 2 := ⟨h - 2, by omega⟩
  intro x hx
  simp only [w3, List.mem_cons, List.not_mem_nil, or_false] at hx
  rcases hx with rfl | rfl | rfl
  · refine ⟨ok4 (by simp) fun y hy => ?_, by simp only [sz, szs]; omega⟩
    simp only [List.mem_cons, List.not_mem_nil, or_false] at hy
    rcases hy with rfl | rfl | rfl
    · exact s (by decide +kernel)
    · exact q
    · refine ok4 (n := h + 1) (by simp) fun z hz => ?_
      simp only [List.mem_cons, List.not_mem_nil, or_false] at hz
      rcases hz with rfl | rfl
      · exact s (by decide +kernel)
      · exact okV_atom trivial
  · refine ⟨ok4 (by simp) fun y hy => ?_, by simp only [sz, szs]; omega⟩
    simp only [List.mem_cons, List.not_mem_nil, or_false] at hy
    rcases hy with rfl | rfl | rfl
    · exact s (by decide +kernel)
    · exact q
    · exact okV_atom trivial
  · refine ⟨ok4 (by simp) fun y hy => ?_, by simp only [sz, szs]; omega⟩
    simp only [List.mem_cons, List.not_mem_nil, or_false] at hy
    rcases hy with rfl | rfl | rfl | rfl
    · exact s (by decide +kernel)
    · refine ok4 (n := h + 1) (by simp) fun z hz => ?_
      simp only [List.mem_cons, List.not_mem_nil, or_false] at hz
      rcases hz with rfl | rfl | rfl
      · exact s (by decide +kernel)
      · exact t1 (by decide +kernel)
      · exact t1 (by decide +kernel)
    · exact q
    · exact t1 (by decide +kernel)
theorem W0 {T : Tb} {C : Nat → Option PyData} {k : Nat} (hz : 10 ≤ sizeLine) (t0 : T 0 = some (2, Fd k 6)) (s1 s2 s3 : Sl) : ∀ (xs : List PyData) (d u : PyData) (h : Nat) (t : Sl), (∀ x ∈ xs, ∃ j : Int, x = .int j) → St d → 2 ≤ h → okV 4 h u → np t →
    ∃ d' u' t', forGo (.nm 5) (sv T C b__law_wide_rule_0) xs [.pn d, s1, s2, s3, .fz u, t] = .nx [.pn d', s1, s2, s3, .fz u', t'] ∧ St d' ∧ okV 4 (h + xs.length) u' ∧ sz u' ≤ sz u + 10 * xs.length
  | [], d, u, h, t, _, hd, _, q, _ => ⟨d, u, t, rfl, hd, q, Nat.le_refl _⟩
  | x :: xs, d, u, h, t, hx, hd, h2, q, ht => by
    obtain ⟨j, rfl⟩ := hx x List.mem_cons_self
    obtain ⟨w, d1, e1, st1, w0, w1⟩ := draw k hd (m := 3) (by omega) (by omega)
    let N : PyData → En := fun d => [.pn d, s1, s2, s3, .fz u, .fz (.int j)]
    have hp : (Tg.nm 5).put (.int j) [.pn d, s1, s2, s3, .fz u, t] = some (N d) := by
      show setAll _ [5] [.int j] = _
      rw [setAll_cons (t := t) rfl ht]; rfl
    have el : (ev T C (.op .lst (.cons (.op .tup (.cons (.cst (.str "add")) (.cons (.var 4) (.cons (.op .tup (.cons (.cst (.str "number")) (.cons (.cst (.int 1)) .nil))) .nil)))) (.cons (.op .tup (.cons (.cst (.str "part")) (.cons (.var 4) (.cons (.cst (.int 3)) .nil)))) (.cons (.op .tup (.cons (.cst (.str "cond")) (.cons (.op .tup (.cons (.cst (.str "less")) (.cons (.op .tup (.cons (.cst (.str "piece")) .nil)) (.cons (.op .tup (.cons (.cst (.str "last")) .nil)) .nil)))) (.cons (.var 4) (.cons (.op .tup (.cons (.cst (.str "rates")) .nil)) .nil))))) .nil))))).e (N d) = .ok (.nw (.list (w3 u))) (N d) := by
      have z1 : 1 ≤ sizeLine := by omega
      have z2 : 2 ≤ sizeLine := by omega
      have z3 : 3 ≤ sizeLine := by omega
      have z4 : 4 ≤ sizeLine := by omega
      have a1 := e_tup (T := T) (C := C) (n := N d) (ds := [.str "number", .int 1]) (as := (.cons (.cst (.str "number")) (.cons (.cst (.int 1)) .nil))) (n1 := N d) rfl z2
      have a2 := e_tup (T := T) (C := C) (n := N d) (ds := [.str "piece"]) (as := (.cons (.cst (.str "piece")) .nil)) (n1 := N d) rfl z1
      have a3 := e_tup (T := T) (C := C) (n := N d) (ds := [.str "last"]) (as := (.cons (.cst (.str "last")) .nil)) (n1 := N d) rfl z1
      have a4 := e_tup (T := T) (C := C) (n := N d) (ds := [.str "rates"]) (as := (.cons (.cst (.str "rates")) .nil)) (n1 := N d) rfl z1
      have a5 := e_tup (T := T) (C := C) (n := N d) (l_cons (a := .cst (.str "less")) (d := .str "less") rfl (l_cons (op_of (fun _ _ => rfl) a2) (l_cons (op_of (fun _ _ => rfl) a3) l_nil))) z3
      have b1 := e_tup (T := T) (C := C) (n := N d) (l_cons (a := .cst (.str "add")) (d := .str "add") rfl (l_cons (a := .var 4) (d := u) rfl (l_cons (op_of (fun _ _ => rfl) a1) l_nil))) z3
      have b2 := e_tup (T := T) (C := C) (n := N d) (ds := [.str "part", u, .int 3]) (as := (.cons (.cst (.str "part")) (.cons (.var 4) (.cons (.cst (.int 3)) .nil)))) (n1 := N d) rfl z3
      have b3 := e_tup (T := T) (C := C) (n := N d) (l_cons (a := .cst (.str "cond")) (d := .str "cond") rfl (l_cons (op_of (fun _ _ => rfl) a5) (l_cons (a := .var 4) (d := u) rfl (l_cons (op_of (fun _ _ => rfl) a4) l_nil)))) z4
      exact e_lst (l_cons (op_of (fun _ _ => rfl) b1) (l_cons (op_of (fun _ _ => rfl) b2) (l_cons (op_of (fun _ _ => rfl) b3) l_nil))) z3
    have step : ∃ d2 u2, sv T C b__law_wide_rule_0 (N d) = .nx [.pn d2, s1, s2, s3, .fz u2, .fz (.int j)] ∧ St d2 ∧ u2 ∈ w3 u := by
      have tl := t_lt (T := T) (C := C) (n := N d) (i := 5) (w := j) (j := 17) rfl
      by_cases h17 : j < 17
      · rw [decide_eq_true h17] at tl
        obtain ⟨u2, eu, hu⟩ := atI_ok (xs := w3 u) (j := w) w0 (by show w < 3; exact w1)
        have ed : (ev T C (.call 0 (.cons (.io 0) (.cons (.cst (.int 3)) .nil)))).e (N d) = .ok (.fr (.int w)) (N d1) := e_ioR (y := .int 3) t0 rfl e1
        have ei := e_two (T := T) (C := C) (o := .idx) (n := N d) rfl (op_of (fun _ _ => rfl) el) (op_of (a := .ife (.op (.cmp .lt) (.cons (.pk 5) (.cons (.cst (.int 17)) .nil))) (.call 0 (.cons (.io 0) (.cons (.cst (.int 3)) .nil))) (.cst (.int 0))) (fun _ _ => rfl) (e_ifE tl ed)) rfl rfl (r := .fr u2) (by show (atI (w3 u) w).map R.fr = _; rw [eu]; rfl)
        exact ⟨d1, u2, sv_nx (sv_set (t := .fz u) ei rfl rfl) sv_end, st1, hu⟩
      · rw [decide_eq_false h17] at tl
        obtain ⟨u2, eu, hu⟩ := atI_ok (xs := w3 u) (j := 0) (by omega) (by show (0 : Int) < 3; omega)
        have ei := e_two (T := T) (C := C) (o := .idx) (n := N d) rfl (op_of (fun _ _ => rfl) el) (op_of (a := .ife (.op (.cmp .lt) (.cons (.pk 5) (.cons (.cst (.int 17)) .nil))) (.call 0 (.cons (.io 0) (.cons (.cst (.int 3)) .nil))) (.cst (.int 0))) (r := .fr (.int 0)) (n1 := N d) (fun _ _ => rfl) (e_ifE tl rfl)) rfl rfl (r := .fr u2) (by show (atI (w3 u) 0).map R.fr = _; rw [eu]; rfl)
        exact ⟨d, u2, sv_nx (sv_set (t := .fz u) ei rfl rfl) sv_end, hd, hu⟩
    obtain ⟨d2, u2, es, st2, hu⟩ := step
    obtain ⟨qu, zu⟩ := w3_ok h2 q u2 hu
    obtain ⟨d3, u3, t3, e3, st3, q3, z3⟩ := W0 hz t0 s1 s2 s3 xs d2 u2 (h + 1) (.fz (.int j)) (fun y hy => hx y (List.mem_cons_of_mem _ hy)) st2 (by omega) qu rfl
    refine ⟨d3, u3, t3, ?_, st3, ?_, ?_⟩
    · rw [forGo_cons, hp]
      dsimp only
      rw [es]
      exact e3
    · rw [List.length_cons, show h + (xs.length + 1) = h + 1 + xs.length by omega]; exact q3
    · rw [List.length_cons]; omega
def mst (a b : PyData) : PyData := .tuple [.str "most", a, b]
/-- a turn of the rows -/
theorem W1 {T : Tb} {C : Nat → Option PyData} {d : PyData} {s1 t : Sl} {rows : List PyData} {h M L : Nat} (h1 : 1 ≤ rows.length) (hL : rows.length ≤ L) (hLz : 2 * L ≤ sizeLine) (hL2 : L ≤ 16000000) (hz : 10 ≤ sizeLine) (hr : ∀ x ∈ rows, okV 4 h x ∧ sz x + 2 ≤ M) :
    sv T C b__law_wide_rule_1 [.pn d, s1, .ow (.list rows), t, .un, .un] = .bk [.pn d, s1, .ow (.list rows), t, .un, .un] ∨
    ∃ rows', sv T C b__law_wide_rule_1 [.pn d, s1, .ow (.list rows), t, .un, .un] = .nx [.pn d, s1, .ow (.list rows'), t, .un, .un] ∧ 1 ≤ rows'.length ∧ rows'.length ≤ 2 * L ∧ ∀ x ∈ rows', okV 4 (h + 1) x ∧ sz x + 2 ≤ 2 * M := by
  let N : En := [.pn d, s1, .ow (.list rows), t, .un, .un]
  have el : (ev T C (.op .len (.cons (.pk 2) .nil))).e N = .ok (.fr (.int rows.length)) N := e_one (p := .sl 2) (n1 := N) rfl rfl (x := .list rows) rfl rfl
  have tc : (ev T C (.op (.cmp .eq) (.cons (.op .len (.cons (.pk 2) .nil)) (.cons (.cst (.int 1)) .nil)))).t N = .ok (decide ((rows.length : Int) = 1)) N := by
    refine t_cmp (op_of (fun _ _ => rfl) el) (op_of (r := .fr (.int 1)) (n1 := N) (fun _ _ => rfl) rfl) rfl rfl ?_
    show (if SeqAt.shaped (.int rows.length) && SeqAt.shaped (.int 1) then some (PyData.eqv (.int (rows.length : Int)) (.int 1)) else none) = _
    rw [shaped_int, shaped_int, eqv_int]; rfl
  by_cases g : (rows.length : Int) = 1
  · rw [decide_eq_true g] at tc
    exact .inl (sv_bk (sv_ift tc (sv_bk rfl)))
  · rw [decide_eq_false g] at tc
    refine .inr ?_
    have hm0 : ∀ x ∈ rows, 2 ≤ M := fun x hx => by have := (hr x hx).2; omega
    have fd : (rows.length : Int).fdiv 2 = ((rows.length / 2 : Nat) : Int) := by
      rw [Int.fdiv_eq_ediv_of_nonneg _ (by omega)]
      omega
    have e1 : (ev T C (.op (.bin .fdiv) (.cons (.op .len (.cons (.pk 2) .nil)) (.cons (.cst (.int 2)) .nil)))).e N = .ok (.fr (.int ((rows.length / 2 : Nat) : Int))) N := by
      refine e_two rfl (op_of (fun _ _ => rfl) el) (op_of (r := .fr (.int 2)) (n1 := N) (fun _ _ => rfl) rfl) rfl rfl ?_
      show some (R.fr (.int ((rows.length : Int).fdiv 2))) = _
      rw [fd]
    have rk : rngOk ((rows.length / 2 : Nat) : Int) = true := by
      unfold rngOk
      refine decide_eq_true ?_
      omega
    have hi := rng1_ok (op_of (fun _ _ => rfl) e1) rfl rk
    have lc := zLc_look (tg := .nm 5) (own := [5]) (n := N) (n1 := N) (n0 := N) (p := fun _ => true) (fc := (ev T C .yes).t)
      (fe := (ev T C (.op .tup (.cons (.cst (.str "most")) (.cons (.op .idx (.cons (.pk 2) (.cons (.op (.bin .mul) (.cons (.cst (.int 2)) (.cons (.pk 5) .nil))) .nil))) (.cons (.op .idx (.cons (.pk 2) (.cons (.op (.bin .add) (.cons (.op (.bin .mul) (.cons (.cst (.int 2)) (.cons (.pk 5) .nil))) (.cons (.cst (.int 1)) .nil))) .nil))) .nil))))).e)
      (f := fun y => mst (rows.getD (2 * jN y) .none) (rows.getD (2 * jN y + 1) .none)) hi rfl rfl rfl (fun y hy => by
        obtain ⟨j, rfl, hj⟩ := rangeD_mem hy
        let N9 : En := [.pn d, s1, .ow (.list rows), t, .un, .fz (.int j)]
        have hj1 : 2 * j < rows.length := by omega
        have hj2 : 2 * j + 1 < rows.length := by omega
        have m1 : (ev T C (.op (.bin .mul) (.cons (.cst (.int 2)) (.cons (.pk 5) .nil)))).e N9 = .ok (.fr (.int ((2 * j : Nat) : Int))) N9 := by
          refine e_two rfl (op_of (r := .fr (.int 2)) (n1 := N9) (fun _ _ => rfl) rfl) (op_fz (d := .int j) rfl) rfl (y := .int j) rfl ?_
          show some (R.fr (.int (2 * (j : Int)))) = _
          rw [show (2 * (j : Int)) = ((2 * j : Nat) : Int) by omega]
        have m2 : (ev T C (.op (.bin .add) (.cons (.op (.bin .mul) (.cons (.cst (.int 2)) (.cons (.pk 5) .nil))) (.cons (.cst (.int 1)) .nil)))).e N9 = .ok (.fr (.int ((2 * j + 1 : Nat) : Int))) N9 := by
          refine e_two rfl (op_of (fun _ _ => rfl) m1) (op_of (r := .fr (.int 1)) (n1 := N9) (fun _ _ => rfl) rfl) rfl rfl ?_
          show some (R.fr (.int (((2 * j : Nat) : Int) + 1))) = _
          rw [show (((2 * j : Nat) : Int) + 1) = ((2 * j + 1 : Nat) : Int) by omega]
        have i1 : (ev T C (.op .idx (.cons (.pk 2) (.cons (.op (.bin .mul) (.cons (.cst (.int 2)) (.cons (.pk 5) .nil))) .nil)))).e N9 = .ok (.fr rows[2 * j]) N9 := by
          refine e_two (p := .sl 2) (n1 := N9) rfl rfl (op_of (fun _ _ => rfl) m1) (x := .list rows) rfl rfl ?_
          show (atI rows ((2 * j : Nat) : Int)).map R.fr = _
          rw [atI_nat hj1]; rfl
        have i2 : (ev T C (.op .idx (.cons (.pk 2) (.cons (.op (.bin .add) (.cons (.op (.bin .mul) (.cons (.cst (.int 2)) (.cons (.pk 5) .nil))) (.cons (.cst (.int 1)) .nil))) .nil)))).e N9 = .ok (.fr rows[2 * j + 1]) N9 := by
          refine e_two (p := .sl 2) (n1 := N9) rfl rfl (op_of (fun _ _ => rfl) m2) (x := .list rows) rfl rfl ?_
          show (atI rows ((2 * j + 1 : Nat) : Int)).map R.fr = _
          rw [atI_nat hj2]; rfl
        refine ⟨N9, rfl, rfl, rfl, fun _ => ⟨_, e_tup (l_cons (a := .cst (.str "most")) (d := .str "most") rfl (l_cons (op_of (fun _ _ => rfl) i1) (l_cons (op_of (fun _ _ => rfl) i2) l_nil))) (show 3 ≤ sizeLine by omega), ?_⟩⟩
        show mst rows[2 * j] rows[2 * j + 1] = mst (rows.getD (2 * j) .none) (rows.getD (2 * j + 1) .none)
        rw [gD hj1, gD hj2]) (by unfold rangeD; rw [List.length_map, List.length_range]; omega)
    rw [ft] at lc
    have lc : (ev T C l__law_wide_rule_0).e N = _ := lc
    have sc : ∃ a, (ev T C (.op (.slc true false) (.cons (.pk 2) (.cons (.op (.bin .sub) (.cons (.op .len (.cons (.pk 2) .nil)) (.cons (.op (.bin .mod) (.cons (.op .int1 (.cons (.op .len (.cons (.pk 2) .nil)) .nil)) (.cons (.cst (.int 2)) .nil))) .nil))) .nil)))).e N = .ok (.nw (.list (cutD rows (some a) none))) N := by
      have i1 : (ev T C (.op .int1 (.cons (.op .len (.cons (.pk 2) .nil)) .nil))).e N = .ok (.fr (.int rows.length)) N := e_one rfl (op_of (fun _ _ => rfl) el) (x := .int rows.length) rfl rfl
      have i2 : (ev T C (.op (.bin .mod) (.cons (.op .int1 (.cons (.op .len (.cons (.pk 2) .nil)) .nil)) (.cons (.cst (.int 2)) .nil)))).e N = .ok (.fr (.int ((rows.length : Int).fmod 2))) N := e_two rfl (op_of (fun _ _ => rfl) i1) (op_of (r := .fr (.int 2)) (n1 := N) (fun _ _ => rfl) rfl) rfl rfl rfl
      have i3 : (ev T C (.op (.bin .sub) (.cons (.op .len (.cons (.pk 2) .nil)) (.cons (.op (.bin .mod) (.cons (.op .int1 (.cons (.op .len (.cons (.pk 2) .nil)) .nil)) (.cons (.cst (.int 2)) .nil))) .nil)))).e N = .ok (.fr (.int ((rows.length : Int) - (rows.length : Int).fmod 2))) N := e_two rfl (op_of (fun _ _ => rfl) el) (op_of (fun _ _ => rfl) i2) rfl rfl rfl
      exact ⟨_, e_two (p := .sl 2) (n1 := N) rfl rfl (op_of (fun _ _ => rfl) i3) (x := .list rows) rfl rfl rfl⟩
    obtain ⟨a, sc⟩ := sc
    have cl := cut_len rows (some a) none
    let X : List PyData := (rangeD 0 ((rows.length / 2 : Nat) : Int)).map fun y => mst (rows.getD (2 * jN y) .none) (rows.getD (2 * jN y + 1) .none)
    have hX : X.length = rows.length / 2 := by show (List.map _ _).length = _; rw [List.length_map]; unfold rangeD; rw [List.length_map, List.length_range]; omega
    have ea : (ev T C (.op (.bin .add) (.cons l__law_wide_rule_0 (.cons (.op (.slc true false) (.cons (.pk 2) (.cons (.op (.bin .sub) (.cons (.op .len (.cons (.pk 2) .nil)) (.cons (.op (.bin .mod) (.cons (.op .int1 (.cons (.op .len (.cons (.pk 2) .nil)) .nil)) (.cons (.cst (.int 2)) .nil))) .nil))) .nil))) .nil)))).e N = .ok (.nw (.list (X ++ cutD rows (some a) none))) N := by
      refine e_two rfl (op_of (a := l__law_wide_rule_0) (fun _ _ => rfl) lc) (op_of (fun _ _ => rfl) sc) rfl rfl ?_
      show (if fitL (X.length + (cutD rows (some a) none).length) then some (R.nw (.list (X ++ cutD rows (some a) none))) else none) = _
      rw [show fitL (X.length + (cutD rows (some a) none).length) = true from decide_eq_true (by omega)]
      rfl
    refine ⟨X ++ cutD rows (some a) none, sv_nx (sv_iff tc sv_end) (sv_nx (sv_set (t := .ow (.list rows)) ea rfl rfl) sv_end), by rw [List.length_append]; omega, by rw [List.length_append]; omega, fun x hx => ?_⟩
    rcases List.mem_append.mp hx with z | z
    · obtain ⟨y, hy, rfl⟩ := List.mem_map.mp z
      obtain ⟨j, rfl, hj⟩ := rangeD_mem hy
      have hj1 : 2 * j < rows.length := by omega
      have hj2 : 2 * j + 1 < rows.length := by omega
      have jn : jN (.int (j : Int)) = j := rfl
      rw [jn, gD hj1, gD hj2]
      obtain ⟨q1, z1⟩ := hr _ (List.getElem_mem hj1)
      obtain ⟨q2, z2⟩ := hr _ (List.getElem_mem hj2)
      refine ⟨ok4 (by simp) fun y hy => ?_, by simp only [mst, sz, szs]; omega⟩
      simp only [List.mem_cons, List.not_mem_nil, or_false] at hy
      rcases hy with rfl | rfl | rfl
      · exact okV_atom (atom_str (by decide +kernel))
      · exact q1
      · exact q2
    · obtain ⟨q1, z1⟩ := hr _ (cut_mem z)
      exact ⟨okV_mono (Nat.le_refl _) (Nat.le_succ _) q1, by omega⟩
theorem W2 {T : Tb} {C : Nat → Option PyData} {d : PyData} {s1 : Sl} (hz : 10 ≤ sizeLine) : ∀ (xs : List PyData) (rows : List PyData) (t : Sl) (h M L : Nat), np t → 1 ≤ rows.length → rows.length ≤ L → 2 ^ xs.length * L * 2 ≤ sizeLine → 2 ^ xs.length * L ≤ 16000000 → (∀ x ∈ rows, okV 4 h x ∧ sz x + 2 ≤ M) →
    ∃ rows' t', forGo (.nm 3) (sv T C b__law_wide_rule_1) xs [.pn d, s1, .ow (.list rows), t, .un, .un] = .nx [.pn d, s1, .ow (.list rows'), t', .un, .un] ∧ 1 ≤ rows'.length ∧ ∀ x ∈ rows', okV 4 (h + xs.length) x ∧ sz x + 2 ≤ 2 ^ xs.length * M
  | [], rows, t, h, M, L, _, h1, _, _, _, hr => ⟨rows, t, rfl, h1, fun x hx => ⟨(hr x hx).1, by have := (hr x hx).2; simp; omega⟩⟩
  | x :: xs, rows, t, h, M, L, ht, h1, hL, hLz, hL2, hr => by
    have pw : 2 ^ (x :: xs).length = 2 * 2 ^ xs.length := by rw [List.length_cons, Nat.pow_succ]; omega
    have pp : 1 ≤ 2 ^ xs.length := Nat.one_le_two_pow
    rw [pw] at hLz hL2
    have LL : L ≤ 2 ^ xs.length * L := Nat.le_mul_of_pos_left _ pp
    have a1 : 2 * 2 ^ xs.length * L = 2 * (2 ^ xs.length * L) := Nat.mul_assoc _ _ _
    have a2 : 2 ^ xs.length * (2 * L) = 2 * (2 ^ xs.length * L) := Nat.mul_left_comm _ _ _
    have a3 : 2 * 2 ^ xs.length * M = 2 ^ xs.length * (2 * M) := by rw [Nat.mul_assoc, Nat.mul_left_comm]
    have a4 : M ≤ 2 ^ xs.length * (2 * M) := by have := Nat.le_mul_of_pos_left (2 * M) pp; omega
    have hp : (Tg.nm 3).put x [.pn d, s1, .ow (.list rows), t, .un, .un] = some [.pn d, s1, .ow (.list rows), .fz x, .un, .un] := by
      show setAll _ [3] [x] = _
      rw [setAll_cons (t := t) rfl ht]; rfl
    rcases W1 (T := T) (C := C) (d := d) (s1 := s1) (t := .fz x) h1 hL (by omega) (by omega) hz hr with e | ⟨rows', e, g1, g2, g3⟩
    · refine ⟨rows, .fz x, ?_, h1, fun y hy => ⟨okV_mono (Nat.le_refl _) (by omega) (hr y hy).1, by have := (hr y hy).2; rw [pw, a3]; omega⟩⟩
      rw [forGo_cons, hp]
      dsimp only
      rw [e]
    · obtain ⟨r2, t2, e2, k1, k2⟩ := W2 (T := T) (C := C) (d := d) (s1 := s1) hz xs rows' (.fz x) (h + 1) (2 * M) (2 * L) rfl g1 g2 (by omega) (by omega) g3
      refine ⟨r2, t2, ?_, k1, fun y hy => ?_⟩
      · rw [forGo_cons, hp]
        dsimp only
        rw [e]
        exact e2
      · obtain ⟨u1, u2⟩ := k2 y hy
        rw [pw, a3, List.length_cons, show h + (xs.length + 1) = h + 1 + xs.length by omega]
        exact ⟨u1, u2⟩
end Z

set_option Elab.async false
set_option linter.all false
set_option maxRecDepth 100000
set_option maxHeartbeats 0
namespace Z
open PySem PySem.Spec PyProof.Rows L2
theorem rng_ok {m : Int} (h0 : 0 ≤ m) (h1 : m ≤ 1000) : rngOk m = true := by
  unfold rngOk
  refine decide_eq_true ?_
  omega
theorem szs_rep (n : Nat) (x : PyData) : ∀ y ∈ (List.replicate n [x]).flatten, y = x := by
  intro y hy
  obtain ⟨l, hl, hy⟩ := List.mem_flatten.mp hy
  rw [List.eq_of_mem_replicate hl] at hy
  exact List.mem_singleton.mp hy
theorem len_rep (n : Nat) (x : PyData) : (List.replicate n [x]).flatten.length = n := by
  induction n with
  | zero => rfl
  | succ n ih => rw [List.replicate_succ, List.flatten_cons, List.length_append, ih]; simp; omega
theorem sv_setI {T : Tb} {C : Nat → Option PyData} {n n1 : En} {i : Nat} {v : E} {r : R} {ds : List PyData} {j : Int} {m : Nat} (h : (ev T C v).e n = .ok r n1) (hi : n1[i]? = some (.ow (.list ds))) (hj : ixN ds.length j = some m) : sv T C (.setI i (.cst (.int j)) v) n = .nx (n1.set i (.ow (.list (ds.set m r.d)))) := by
  show Fl.of ((ev T C v).e n) (fun r n1 => match ownAt n1 i with
    | some _ => Fl.of (opd (.cst (.int j)) (ev T C (.cst (.int j))).e n1) fun q n2 => match ownAt n2 i, Z.rs n2 q with
      | some (ds, k), some (.int j) => match ixN ds.length j with
        | some m => Fl.nx (n2.set i (k (ds.set m r.d)))
        | none => Fl.st
      | _, _ => Fl.st
    | none => Fl.st) = _
  rw [h]
  dsimp only [Fl.of]
  have e : ownAt n1 i = some (ds, fun es => .ow (.list es)) := by
    unfold ownAt
    rw [hi]
  rw [e]
  have o : opd (.cst (.int j)) (ev T C (.cst (.int j))).e n1 = .ok (.dd (.int j)) n1 := rfl
  rw [o]
  dsimp only
  rw [e]
  show (match ixN ds.length j with
        | some m => Fl.nx (n1.set i (.ow (.list (ds.set m r.d))))
        | none => Fl.st) = _
  rw [hj]
theorem F22 (k : Nat) (hz : 1000000 ≤ sizeLine) {d : PyData} (hd : St d) : ∃ x d', Fd (k + 3) 22 [.pn d] = .ret (.fr x) [d'] ∧ St d' ∧ okV 4 24 x ∧ sz x ≤ 8000 := by
  obtain ⟨v, d1, e1, st1, v0, v1⟩ := draw (k + 2) hd (m := 3) (by omega) (by omega)
  have t0 : locT c__law_wide_rule.calls (tbl cs (k + 3)) 0 = some (2, Fd (k + 2) 6) := rfl
  have t1 : locT c__law_wide_rule.calls (tbl cs (k + 3)) 1 = some (2, Fd (k + 2) 7) := rfl
  rw [U22]
  generalize locT c__law_wide_rule.calls (tbl cs (k + 3)) = T at *
  generalize cstC c__law_wide_rule.gcs = C at *
  have g0 : sv T C (.set (.nm 1) (.call 0 (.cons (.io 0) (.cons (.cst (.int 3)) .nil)))) [.pn d, .un, .un, .un, .un, .un] = .nx [.pn d1, .fz (.int v), .un, .un, .un, .un] := sv_set (r := .fr (.int v)) (n1 := [.pn d1, .un, .un, .un, .un, .un]) (t := .un) (e_ioR (y := .int 3) t0 rfl e1) rfl rfl
  have tq := fun (d : PyData) (s2 : Sl) (j : Int) => t_int (T := T) (C := C) (n := [.pn d, .fz (.int v), s2, .un, .un, .un]) (i := 1) (w := v) (j := j) rfl
  have c0 := tq d1 .un 0
  have rgo : ∀ j : Int, 0 ≤ j → j ≤ 1000 → rngOk j = true := fun j h0 h1 => rng_ok h0 h1
  by_cases hv : v = 0
  · rw [decide_eq_true hv] at c0
    obtain ⟨p, d2, e2, st2, hp⟩ := pick (k + 1) (xs := [17, 18, 19, 20].map PyData.int) st1 (by simp) (by simp)
    obtain ⟨j, hj, rfl⟩ := List.mem_map.mp hp
    have hj2 : 0 ≤ j ∧ j ≤ 20 := by
      simp only [List.mem_cons, List.not_mem_nil, or_false] at hj
      omega
    let N : PyData → En := fun d => [.pn d, .fz (.int v), .un, .un, .fz (.tuple [.str "units"]), .un]
    have u1 := e_tup (T := T) (C := C) (n := [.pn d1, .fz (.int v), .un, .un, .un, .un]) (n1 := [.pn d1, .fz (.int v), .un, .un, .un, .un]) (ds := [.str "units"]) (as := (.cons (.cst (.str "units")) .nil)) rfl (show 1 ≤ sizeLine by omega)
    have g1 : sv T C (.set (.nm 4) (.op .tup (.cons (.cst (.str "units")) .nil))) [.pn d1, .fz (.int v), .un, .un, .un, .un] = .nx (N d1) := sv_set (t := .un) u1 rfl rfl
    have el := e_lst (T := T) (C := C) (n := N d1) (n1 := N d1) (ds := [17, 18, 19, 20].map PyData.int) (as := (.cons (.cst (.int 17)) (.cons (.cst (.int 18)) (.cons (.cst (.int 19)) (.cons (.cst (.int 20)) .nil))))) rfl (show 4 ≤ sizeLine by omega)
    have ec := e_ioR (T := T) (C := C) t1 (op_of (fun _ _ => rfl) el) e2
    have ri := rng1_ok (op_of (a := .call 1 (.cons (.io 0) (.cons (.op .lst (.cons (.cst (.int 17)) (.cons (.cst (.int 18)) (.cons (.cst (.int 19)) (.cons (.cst (.int 20)) .nil))))) .nil))) (fun _ _ => rfl) ec) rfl (rgo j hj2.1 (by omega))
    have xi : ∀ x ∈ rangeD 0 j, ∃ i : Int, x = .int i := by
      intro x hx
      unfold rangeD at hx
      obtain ⟨i, _, rfl⟩ := List.mem_map.mp hx
      exact ⟨_, rfl⟩
    have xl : (rangeD 0 j).length ≤ 20 := by unfold rangeD; rw [List.length_map, List.length_range]; omega
    obtain ⟨d3, u3, t3, e3, st3, q3, z3⟩ := W0 (T := T) (C := C) (by omega) t0 (.fz (.int v)) .un .un (rangeD 0 j) d2 (.tuple [.str "units"]) 2 .un xi st2 (Nat.le_refl _) (okV_mono (Nat.le_refl _) (show 1 ≤ 2 by omega) (ok4 (n := 0) (by simp) fun y hy => by rw [List.mem_singleton.mp hy]; exact okV_atom (atom_str (by decide +kernel)))) rfl
    have zu : sz (.tuple [.str "units"]) = 2 := rfl
    refine ⟨u3, d3, ?_, st3, okV_mono (Nat.le_refl _) (by omega) q3, by omega⟩
    exact def_rt (m := 6) (ss := [.pn d]) (n1 := [.pn d3, .fz (.int v), .un, .un, .fz u3, t3]) (sv_nx g0 (sv_rt (sv_ift c0 (sv_nx g1 (sv_nx (sv_for ri e3) (sv_rt rfl))))))
  · rw [decide_eq_false hv] at c0
    obtain ⟨p, d2, e2, st2, hp⟩ := pick (k + 1) (xs := [49, 50, 50, 51].map PyData.int) st1 (by simp) (by simp)
    obtain ⟨j, hj, rfl⟩ := List.mem_map.mp hp
    have hj2 : 49 ≤ j ∧ j ≤ 51 := by
      simp only [List.mem_cons, List.not_mem_nil, or_false] at hj
      omega
    let B : PyData := .tuple [.str "buffer"]
    let B1 : PyData := .tuple [.str "part", B, .int 1]
    let R0 : List PyData := (List.replicate j.toNat [B]).flatten
    let N : PyData → List PyData → En := fun d rows => [.pn d, .fz (.int v), .ow (.list rows), .un, .un, .un]
    let N1 : PyData → En := fun d => [.pn d, .fz (.int v), .un, .un, .un, .un]
    have b1 := e_tup (T := T) (C := C) (n := N1 d1) (n1 := N1 d1) (ds := [.str "buffer"]) (as := (.cons (.cst (.str "buffer")) .nil)) rfl (show 1 ≤ sizeLine by omega)
    have b2 := e_lst (T := T) (C := C) (l_cons (op_of (a := .op .tup (.cons (.cst (.str "buffer")) .nil)) (fun _ _ => rfl) b1) l_nil) (show 1 ≤ sizeLine by omega)
    have el := e_lst (T := T) (C := C) (n := N1 d1) (n1 := N1 d1) (ds := [49, 50, 50, 51].map PyData.int) (as := (.cons (.cst (.int 49)) (.cons (.cst (.int 50)) (.cons (.cst (.int 50)) (.cons (.cst (.int 51)) .nil))))) rfl (show 4 ≤ sizeLine by omega)
    have ec := e_ioR (T := T) (C := C) t1 (op_of (fun _ _ => rfl) el) e2
    have em : (ev T C (.op (.bin .mul) (.cons (.op .lst (.cons (.op .tup (.cons (.cst (.str "buffer")) .nil)) .nil)) (.cons (.call 1 (.cons (.io 0) (.cons (.op .lst (.cons (.cst (.int 49)) (.cons (.cst (.int 50)) (.cons (.cst (.int 50)) (.cons (.cst (.int 51)) .nil))))) .nil))) .nil)))).e (N1 d1) = .ok (.nw (.list R0)) (N1 d2) := by
      refine e_two rfl (op_of (a := .op .lst (.cons (.op .tup (.cons (.cst (.str "buffer")) .nil)) .nil)) (fun _ _ => rfl) b2) (op_of (a := .call 1 (.cons (.io 0) (.cons (.op .lst (.cons (.cst (.int 49)) (.cons (.cst (.int 50)) (.cons (.cst (.int 50)) (.cons (.cst (.int 51)) .nil))))) .nil))) (fun _ _ => rfl) ec) rfl rfl ?_
      show (if rngOk j && fitL (1 * j.toNat) then some (R.nw (.list R0)) else none) = _
      rw [rgo j (by omega) (by omega), show fitL (1 * j.toNat) = true from decide_eq_true (by omega)]
      rfl
    have g2 : sv T C (.set (.nm 2) (.op (.bin .mul) (.cons (.op .lst (.cons (.op .tup (.cons (.cst (.str "buffer")) .nil)) .nil)) (.cons (.call 1 (.cons (.io 0) (.cons (.op .lst (.cons (.cst (.int 49)) (.cons (.cst (.int 50)) (.cons (.cst (.int 50)) (.cons (.cst (.int 51)) .nil))))) .nil))) .nil)))) (N1 d1) = .nx (N d2 R0) := sv_set (t := .un) em rfl rfl
    have l0 : R0.length = j.toNat := len_rep _ _
    have okB : ∀ h : Nat, okV 4 (h + 1) B := fun h => ok4 (by simp) fun y hy => by rw [List.mem_singleton.mp hy]; exact okV_atom (atom_str (by decide +kernel))
    have okB1 : okV 4 2 B1 := ok4 (n := 1) (by simp) fun y hy => by
      simp only [List.mem_cons, List.not_mem_nil, or_false] at hy
      rcases hy with rfl | rfl | rfl
      · exact okV_atom (atom_str (by decide +kernel))
      · exact okB 0
      · exact okV_atom trivial
    have step : ∃ d3 R1, sv T C (.ife (.and (.op (.cmp .eq) (.cons (.pk 1) (.cons (.cst (.int 1)) .nil))) (.op (.cmp .eq) (.cons (.call 0 (.cons (.io 0) (.cons (.cst (.int 2)) .nil))) (.cons (.cst (.int 0)) .nil))))
       (.cons (.setI 2 (.cst (.int 0)) (.op .tup (.cons (.cst (.str "part")) (.cons (.op .tup (.cons (.cst (.str "buffer")) .nil)) (.cons (.cst (.int 1)) .nil)))))
        .nil)
       .nil) (N d2 R0) = .nx (N d3 R1) ∧ St d3 ∧ R1.length = R0.length ∧ ∀ x ∈ R1, okV 4 2 x ∧ sz x + 2 ≤ 7 := by
      have all0 : ∀ x ∈ R0, okV 4 2 x ∧ sz x + 2 ≤ 7 := fun x hx => by
        rw [szs_rep _ _ x hx]
        exact ⟨okB 1, by show 2 + 2 ≤ 7; omega⟩
      have c1 := tq d2 (.ow (.list R0)) 1
      by_cases h1 : v = 1
      · rw [decide_eq_true h1] at c1
        obtain ⟨w, d3, e3, st3, w0, w1⟩ := draw (k + 2) st2 (m := 2) (by omega) (by omega)
        have ed : (ev T C (.call 0 (.cons (.io 0) (.cons (.cst (.int 2)) .nil)))).e (N d2 R0) = .ok (.fr (.int w)) (N d3 R0) := e_ioR (y := .int 2) t0 rfl e3
        have c2 : (ev T C (.op (.cmp .eq) (.cons (.call 0 (.cons (.io 0) (.cons (.cst (.int 2)) .nil))) (.cons (.cst (.int 0)) .nil)))).t (N d2 R0) = .ok (decide (w = 0)) (N d3 R0) := by
          refine t_cmp (op_of (a := .call 0 (.cons (.io 0) (.cons (.cst (.int 2)) .nil))) (fun _ _ => rfl) ed) (op_of (r := .fr (.int 0)) (n1 := N d3 R0) (fun _ _ => rfl) rfl) rfl rfl ?_
          show (if SeqAt.shaped (.int w) && SeqAt.shaped (.int 0) then some (PyData.eqv (.int w) (.int 0)) else none) = _
          rw [shaped_int, shaped_int, eqv_int]; rfl
        by_cases hw : w = 0
        · rw [decide_eq_true hw] at c2
          have b3 := e_tup (T := T) (C := C) (n := N d3 R0) (n1 := N d3 R0) (ds := [.str "buffer"]) (as := (.cons (.cst (.str "buffer")) .nil)) rfl (show 1 ≤ sizeLine by omega)
          have b4 := e_tup (T := T) (C := C) (l_cons (a := .cst (.str "part")) (d := .str "part") (n := N d3 R0) rfl (l_cons (op_of (a := .op .tup (.cons (.cst (.str "buffer")) .nil)) (fun _ _ => rfl) b3) (l_cons (a := .cst (.int 1)) (d := .int 1) rfl l_nil))) (show 3 ≤ sizeLine by omega)
          have ix : ixN R0.length 0 = some 0 := by
            unfold ixN
            rw [if_pos (by omega), if_pos (by omega)]; rfl
          refine ⟨d3, R0.set 0 B1, sv_ift (t_and_t c1 c2) (sv_nx (sv_setI b4 rfl ix) sv_end), st3, List.length_set, fun x hx => ?_⟩
          rcases List.mem_or_eq_of_mem_set hx with z | rfl
          · exact all0 x z
          · exact ⟨okB1, by show 5 + 2 ≤ 7; omega⟩
        · rw [decide_eq_false hw] at c2
          exact ⟨d3, R0, sv_iff (t_and_t c1 c2) sv_end, st3, rfl, all0⟩
      · rw [decide_eq_false h1] at c1
        exact ⟨d2, R0, sv_iff (t_and_f c1) sv_end, st2, rfl, all0⟩
    obtain ⟨d3, R1, g3, st3, l1, a1⟩ := step
    have xl : (rangeD 0 10).length = 10 := by unfold rangeD; rw [List.length_map, List.length_range]; rfl
    obtain ⟨R2, t2, e4, m1, m2⟩ := W2 (T := T) (C := C) (d := d3) (s1 := .fz (.int v)) (by omega) (rangeD 0 10) R1 .un 2 7 51 rfl (by omega) (by omega) (by rw [xl]; omega) (by rw [xl]; omega) a1
    rw [xl] at m2
    have ri : (ev T C (.rng1 (.cst (.int 10)))).i (N d3 R1) = .ok (rangeD 0 10) (N d3 R1) := rng1_ok (i := 10) (op_of (r := .fr (.int 10)) (fun _ _ => rfl) rfl) rfl (by decide)
    obtain ⟨q1, q2⟩ := m2 R2[0] (List.getElem_mem m1)
    let N2 : En := [.pn d3, .fz (.int v), .ow (.list R2), t2, .un, .un]
    have ef : (ev T C (.op .idx (.cons (.pk 2) (.cons (.cst (.int 0)) .nil)))).e N2 = .ok (.fr R2[0]) N2 := by
      refine e_two (p := .sl 2) (n1 := N2) rfl rfl (op_of (r := .fr (.int 0)) (n1 := N2) (fun _ _ => rfl) rfl) (x := .list R2) rfl rfl ?_
      show (atI R2 ((0 : Nat) : Int)).map R.fr = _
      rw [atI_nat m1]; rfl
    refine ⟨R2[0], d3, ?_, st3, okV_mono (Nat.le_refl _) (by omega) q1, by omega⟩
    exact def_rt (m := 6) (ss := [.pn d]) (n1 := N2) (sv_nx g0 (sv_nx (sv_iff c0 sv_end) (sv_nx g2 (sv_nx g3 (sv_nx (sv_for ri e4) (sv_rt (sv_ret ef)))))))
end Z

set_option Elab.async false
set_option linter.all false
set_option maxRecDepth 100000
set_option maxHeartbeats 0
namespace Z
open PySem PySem.Spec PyProof.Rows L2
/-! ## law -/
theorem oddm (k : Nat) {d : PyData} (h : St d) : ∃ x d', Fd (k + 2) 10 [.pn d] = .ret (.fr x) [d'] ∧ St d' ∧ okV 2 2 x ∧ sz x ≤ 6 ∧ wf 20 true x = false := by
  let lst : List PyData := [.none, .bool true, .bool false, .int (-1), .int 0, .int 1, .int 2, .int 8, .int 9, .int 39, .int 40, .int 41, .int 60, .int 61, .int 99, .int 100, .int 1000000000000000000000000000000, .str "", .str "a", .str "form", .tuple [], .tuple [.int 1], .tuple [.int 0, .tuple [.int 1]], .tuple [.tuple [.int 1]], .int (-2)]
  obtain ⟨x, d', e, s', hx⟩ := pick k (xs := lst) h (by simp [lst]) (by simp [lst])
  refine ⟨x, d', ?_, s', ?_⟩
  · show evDef _ _ _ _ _ = _
    have z : (25 : Nat) ≤ sizeLine := by rw [sizeLine_eq]; decide
    have z0 : (0 : Nat) ≤ sizeLine := Nat.zero_le _
    have z1 : (1 : Nat) ≤ sizeLine := by omega
    have z2 : (2 : Nat) ≤ sizeLine := by omega
    simp only [lst] at e
    simp [evDef, sv, ev, Fl.of, Ev.val, Ev.no, Ev.itr, opd_pk, opd_io, opd_var, opd_cst, opd_glb, opd_op, opd_chn, opd_slc, opd_and, opd_or, opd_not, opd_ife, opd_call, opd_lc, Ou.bd, zOp, opdl, retains, rsl, Z.rs, frl, opD, binD, cmpD, Ou.of, slD, atI, ixN, eqv_int, shaped_int, dbl, dint, zVar, zPkT, putR, ownAt, R.sl, R.d, finD, truD, zCall, locT, cstC, argsS, argS, ioIx, afterCall, putBack, zAnd, zOr, zNot, zChn, zSlc, slcD, cutD, Tg.put, setAll, seqD, isTy_tt, fmtOk, fitL, zRng1, zRng2, smallI, zChn3, zLrg1, zLrg2, zEnm, zZip, opd_chn3, opd_lrg1, opd_lrg2, c__law_odd, T7, e, z, z0, z1, z2]
  · have all : ∀ y ∈ lst, okV 2 2 y ∧ sz y ≤ 6 ∧ wf 20 true y = false := by
      intro y hy
      simp only [lst, List.mem_cons, List.not_mem_nil, or_false] at hy
      rcases hy with rfl | rfl | rfl | rfl | rfl | rfl | rfl | rfl | rfl | rfl | rfl | rfl | rfl | rfl | rfl | rfl | rfl | rfl | rfl | rfl | rfl | rfl | rfl | rfl | rfl <;> (refine ⟨?_, by simp [sz, szs], rfl⟩; first
        | exact okV_atom trivial
        | exact okV_atom ⟨by decide +kernel, by decide +kernel⟩
        | (refine okV_tup (by simp) ?_; simp [okV, atom]))
    exact all x hx
section
variable {T : Tb} {C : Nat → Option PyData} {d d' : PyData} {s0 : Sl} {r : List Sl}
theorem e_ioO {g id k : Nat} {a : E} {x y : PyData} (hT : T g = some (2, Fd k id)) (hb : opd a (ev T C a).e (s0 :: .ow d :: r) = .ok (.dd y) (s0 :: .ow d :: r)) (h : Fd k id [.pn d, .fz y] = .ret (.fr x) [d', .none]) : (ev T C (.call g (.cons (.io 1) (.cons a .nil)))).e (s0 :: .ow d :: r) = .ok (.fr x) (s0 :: .ow d' :: r) := by
  show zCall (T g) (ev T C (.cons (.io 1) (.cons a .nil))).l _ = _
  rw [hT]
  have e : (ev T C (.cons (.io 1) (.cons a .nil))).l (s0 :: .ow d :: r) = .ok [.io 1, .dd y] (s0 :: .ow d :: r) := by
    show ((opd a (ev T C a).e (s0 :: .ow d :: r)).bd (fun q n2 => (Ou.ok [] n2).bd fun ps n3 => Ou.ok (q :: ps) n3)).bd (fun ps n2 => Ou.ok (P.io 1 :: ps) n2) = _
    rw [hb]
  unfold zCall
  dsimp only
  rw [e]
  dsimp only [Ou.bd]
  rw [if_pos (show [P.io 1, P.dd y].length = 2 from rfl)]
  have ea : argsS (s0 :: .ow d :: r) [P.io 1, P.dd y] = some [.pn d, .fz y] := rfl
  rw [ea]
  dsimp only
  rw [if_pos (show (ioIx [P.io 1, P.dd y]).Nodup from by simp [ioIx]), h]
  rfl
theorem e_ioX {g id k : Nat} {a : E} {x y : PyData} {d2 : PyData} (hT : T g = some (2, Fd k id)) (hb : opd a (ev T C a).e (s0 :: .ow d :: r) = .ok (.dd y) (s0 :: .ow d2 :: r)) (h : Fd k id [.pn d2, .fz y] = .ret (.fr x) [d', .none]) : (ev T C (.call g (.cons (.io 1) (.cons a .nil)))).e (s0 :: .ow d :: r) = .ok (.fr x) (s0 :: .ow d' :: r) := by
  show zCall (T g) (ev T C (.cons (.io 1) (.cons a .nil))).l _ = _
  rw [hT]
  have e : (ev T C (.cons (.io 1) (.cons a .nil))).l (s0 :: .ow d :: r) = .ok [.io 1, .dd y] (s0 :: .ow d2 :: r) := by
    show ((opd a (ev T C a).e (s0 :: .ow d :: r)).bd (fun q n2 => (Ou.ok [] n2).bd fun ps n3 => Ou.ok (q :: ps) n3)).bd (fun ps n2 => Ou.ok (P.io 1 :: ps) n2) = _
    rw [hb]
  unfold zCall
  dsimp only
  rw [e]
  dsimp only [Ou.bd]
  rw [if_pos (show [P.io 1, P.dd y].length = 2 from rfl)]
  have ea : argsS (s0 :: .ow d2 :: r) [P.io 1, P.dd y] = some [.pn d2, .fz y] := rfl
  rw [ea]
  dsimp only
  rw [if_pos (show (ioIx [P.io 1, P.dd y]).Nodup from by simp [ioIx]), h]
  rfl
theorem e_io1 {g id k : Nat} {x : PyData} (hT : T g = some (1, Fd k id)) (h : Fd k id [.pn d] = .ret (.fr x) [d']) : (ev T C (.call g (.cons (.io 1) .nil))).e (s0 :: .ow d :: r) = .ok (.fr x) (s0 :: .ow d' :: r) := by
  show zCall (T g) (ev T C (.cons (.io 1) .nil)).l _ = _
  rw [hT]
  have e : (ev T C (.cons (.io 1) .nil)).l (s0 :: .ow d :: r) = .ok [.io 1] (s0 :: .ow d :: r) := rfl
  unfold zCall
  dsimp only
  rw [e]
  dsimp only [Ou.bd]
  rw [if_pos (show [P.io 1].length = 1 from rfl)]
  have ea : argsS (s0 :: .ow d :: r) [P.io 1] = some [.pn d] := rfl
  rw [ea]
  dsimp only
  rw [if_pos (show (ioIx [P.io 1]).Nodup from by simp [ioIx]), h]
  rfl
theorem e_callV {n n1 : En} {g : Nat} {as : E} {fm : Fm} {x y z : PyData} {q : R} (hT : T g = some (3, fm)) (hl : (ev T C as).l n = .ok (([x, y, z] : List PyData).map P.dd) n1) (h : fm [.fz x, .fz y, .fz z] = .ret q [.none, .none, .none]) : (ev T C (.call g as)).e n = .ok q n1 := by
  show zCall (T g) (ev T C as).l n = _
  rw [hT]
  unfold zCall
  dsimp only
  rw [hl]
  dsimp only [Ou.bd]
  rw [if_pos (show (([x, y, z] : List PyData).map P.dd).length = 3 from rfl)]
  dsimp only [List.map, argsS, argS, Option.bind, Option.map]
  rw [if_pos (show (ioIx [P.dd x, P.dd y, P.dd z]).Nodup from List.nodup_nil), h]
  rfl
end
def pcD : PyData := .tuple [.str "piece"]
theorem pc_out : outR pcD = none := by decide +kernel
theorem pc_ok : okV 1 1 pcD := okV_tup (by simp) fun y hy => by rw [List.mem_singleton.mp hy]; exact okV_atom (atom_str (by decide +kernel))
theorem shS {s : Str} (h : s = "form" ∨ s = "limits") : SeqAt.shaped (.list [.str s, .str s, .str s, .str s, .str s]) = true ∧ PyData.eqv (.list [.str s, .str s, .str s, .str s, .str s]) (.list [.str s, .str s, .str s, .str s, .str s]) = true := by
  rcases h with rfl | rfl <;> exact ⟨by decide +kernel, by decide +kernel⟩
section
variable {T : Tb} {C : Nat → Option PyData} (k : Nat) (hz : 1000000 ≤ sizeLine)
variable (t1 : T 1 = some (2, Fd (k + 60) 6)) (t2 : T 2 = some (1, Fd (k + 60) 22)) (t3 : T 3 = some (2, Fd (k + 60) 13)) (t4 : T 4 = some (3, Fd (k + 60) 23)) (t5 : T 5 = some (1, Fd (k + 60) 21)) (t6 : T 6 = some (2, Fd (k + 60) 8)) (t7 : T 7 = some (2, Fd (k + 60) 11)) (t8 : T 8 = some (2, Fd (k + 60) 14)) (t9 : T 9 = some (1, Fd (k + 60) 10))
include hz t4 t5 t6
/-- told and due agree -/
theorem agree {b hh : Nat} {v : PyData} (q : okV b hh v) (hb : b ≤ sizeLine) (hv : sz v < 100000) {n : En} {i : Nat} (hi : (ev T C (.var i)).e n = .ok (.fr v) n) {a : E} (ha : opd a (ev T C a).e n = .ok (.dd (outD v)) n) : (ev T C (.not (.call 6 (.cons (.call 4 (.cons (.cst (.int 0)) (.cons (.var i) (.cons (.cst .none) .nil)))) (.cons a .nil))))).t n = .ok false n := by
  have e23 : Fd (k + 60) 23 [.fz (.int 0), .fz v, .fz .none] = _ := F23_0 (k + 36) b hh hb q (by omega) .none
  have ec := e_callV (T := T) (C := C) (n := n) (n1 := n) t4 (l_cons (a := .cst (.int 0)) (d := .int 0) rfl (l_cons (a := .var i) (op_of (fun _ _ => rfl) hi) (l_cons (a := .cst .none) (d := .none) rfl l_nil))) e23
  have e8 := F8 (k + 60) (due_cases v)
  have es := e_call2 (T := T) (C := C) t6 (op_of (fun _ _ => rfl) ec) ha e8 rfl
  refine t_notB (k := true) ?_
  show ((ev T C (.call 6 (.cons (.call 4 (.cons (.cst (.int 0)) (.cons (.var i) (.cons (.cst .none) .nil)))) (.cons a .nil)))).e n).bd (fun r n1 => Ou.of (truD r.d) n1) = _
  rw [es]; rfl
include t1 t7 t8
theorem law0 {b h : Nat} {d v : PyData} {sc tu ru ch du : Sl} (hb4 : 4 ≤ b) (hb : 2 * b + 10 ≤ 1000000) (hh : 4 ≤ h) (hh2 : h ≤ 57) (hd : St d) (q : okV b h v) (hv : 2 * sz v + 120 < 100000) (hdu : np du) : ∃ d' v' du', sv T C b_law_0 [sc, .ow d, tu, ru, .fz v, ch, du, .un] = .nx [sc, .ow d', tu, ru, .fz v', ch, du', .un] ∧ St d' ∧ okV (2 * b + 2) (h + 4) v' ∧ sz v' ≤ 2 * sz v + 120 ∧ np du' := by
  let N : PyData → PyData → Sl → En := fun d v du => [sc, .ow d, tu, ru, .fz v, ch, du, .un]
  obtain ⟨w, d1, e1, st1, w0, w1⟩ := draw (k + 60) hd (m := 4) (by omega) (by omega)
  have ew : (ev T C (.call 1 (.cons (.io 1) (.cons (.cst (.int 4)) .nil)))).e (N d v du) = .ok (.fr (.int w)) (N d1 v du) := e_ioO (y := .int 4) t1 rfl e1
  have tw : (ev T C (.op (.cmp .gt) (.cons (.call 1 (.cons (.io 1) (.cons (.cst (.int 4)) .nil))) (.cons (.cst (.int 0)) .nil)))).t (N d v du) = .ok (decide (0 < w)) (N d1 v du) :=
    t_cmp (op_of (a := .call 1 (.cons (.io 1) (.cons (.cst (.int 4)) .nil))) (fun _ _ => rfl) ew) (op_of (r := .fr (.int 0)) (n1 := N d1 v du) (fun _ _ => rfl) rfl) rfl rfl rfl
  have step : ∃ d2 v', (ev T C (.ife (.op (.cmp .gt) (.cons (.call 1 (.cons (.io 1) (.cons (.cst (.int 4)) .nil))) (.cons (.cst (.int 0)) .nil))) (.call 7 (.cons (.io 1) (.cons (.var 4) .nil))) (.op .tup (.cons (.cst (.str "add")) (.cons (.var 4) (.cons (.call 8 (.cons (.io 1) (.cons (.cst (.int 3)) .nil))) .nil)))))).e (N d v du) = .ok (.fr v') (N d2 v du) ∧ St d2 ∧ okV (2 * b + 2) (h + 4) v' ∧ sz v' ≤ 2 * sz v + 120 := by
    by_cases hw : 0 < w
    · rw [decide_eq_true hw] at tw
      obtain ⟨v', d2, e2, st2, q2, z2⟩ := F11 b (by omega) (by omega) h (k + 57) (by omega) d1 v st1 q
      have e2 : Fd (k + 60) 11 [.pn d1, .fz v] = _ := e2
      exact ⟨d2, v', e_ifE tw (e_ioO (a := .var 4) t7 rfl e2), st2, q2, by omega⟩
    · rw [decide_eq_false hw] at tw
      obtain ⟨x, d2, e2, st2, q2, z2⟩ := (RT (by omega) 3 (k + 55)).2 d1 3 st1 (by omega) (by omega)
      have e2 : Fd (k + 60) 14 [.pn d1, .fz (.int 3)] = _ := e2
      have g3 : GG 3 = 107 := rfl
      have ex : (ev T C (.call 8 (.cons (.io 1) (.cons (.cst (.int 3)) .nil)))).e (N d1 v du) = .ok (.fr x) (N d2 v du) := e_ioO (y := .int 3) t8 rfl e2
      refine ⟨d2, .tuple [.str "add", v, x], e_ifE tw (e_tup (l_cons (a := .cst (.str "add")) (d := .str "add") rfl (l_cons (a := .var 4) (d := v) (n1 := N d1 v du) rfl (l_cons (op_of (a := .call 8 (.cons (.io 1) (.cons (.cst (.int 3)) .nil))) (fun _ _ => rfl) ex) l_nil))) (show 3 ≤ sizeLine by omega)), st2, ?_, by simp only [sz, szs]; omega⟩
      refine okV_tup (h := h + 3) (by simp; omega) fun y hy => ?_
      simp only [List.mem_cons, List.not_mem_nil, or_false] at hy
      rcases hy with rfl | rfl | rfl
      · exact okV_atom (atom_str (by decide +kernel))
      · exact okV_mono (by omega) (by omega) q
      · exact okV_mono (by omega) (by omega) q2
  obtain ⟨d2, v', es, st2, q2, z2⟩ := step
  have g0 := sv_set (T := T) (C := C) (i := 4) (t := .fz v) es rfl rfl
  have e21 : Fd (k + 60) 21 [.fz v'] = _ := F21 (k + 58) (2 * b + 2) (h + 4) q2 (by omega) (by omega)
  have ed : (ev T C (.call 5 (.cons (.var 4) .nil))).e (N d2 v' du) = .ok (.fr (outD v')) (N d2 v' du) := e_call1 (a := .var 4) t5 rfl e21 rfl
  have g1 : sv T C (.set (.nm 6) (.call 5 (.cons (.var 4) .nil))) (N d2 v' du) = .nx (N d2 v' (.fz (outD v'))) := sv_set (t := du) ed rfl hdu
  have ag := agree k hz t4 t5 t6 (C := C) q2 (by omega) (by omega) (n := N d2 v' (.fz (outD v'))) (i := 4) rfl (a := .var 6) rfl
  have tn : (ev T C (.op (.cmp .isn) (.cons (.pk 6) (.cons (.cst .none) .nil)))).t (N d2 v' (.fz (outD v'))) = .ok (!isNone (outD v')) (N d2 v' (.fz (outD v'))) :=
    t_cmp (op_fz (d := outD v') rfl) (op_of (r := .fr .none) (n1 := N d2 v' (.fz (outD v'))) (fun _ _ => rfl) rfl) (x := outD v') rfl rfl rfl
  have tc : (ev T C (.and (.op (.cmp .isn) (.cons (.pk 6) (.cons (.cst .none) .nil))) (.op (.cmp .ne) (.cons l_law_0 (.cons (.op (.bin .mul) (.cons (.op .lst (.cons (.var 6) .nil)) (.cons (.cst (.int 5)) .nil))) .nil))))).t (N d2 v' (.fz (outD v'))) = .ok false (N d2 v' (.fz (outD v'))) := by
    cases ho : outR v' with
    | none =>
      have hd0 : outD v' = .none := by unfold outD; rw [ho]
      rw [hd0] at tn ⊢
      exact t_and_f tn
    | some s =>
      have hds : outD v' = .str s := by unfold outD; rw [ho]
      have hs : s = "form" ∨ s = "limits" := by
        rcases due_cases v' with z | z | z <;> rw [hds] at z
        · cases z
        · cases z; exact .inl rfl
        · cases z; exact .inr rfl
      rw [hds] at tn ⊢
      refine t_and_t tn ?_
      have tws := F23_w (k + 36) (2 * b + 2) (h + 4) (by omega) q2 (by omega) ho (x := pcD) (bx := 1) (hx := 1) (by omega) pc_ok (by show 2 ≤ sizeLine; omega) pc_out
      have lc := zLc_look (tg := .nm 7) (own := [7]) (n := N d2 v' (.fz (.str s))) (n1 := N d2 v' (.fz (.str s))) (n0 := N d2 v' (.fz (.str s))) (xs := rangeD 1 6) (p := fun _ => true) (f := fun _ => .str s) (fi := (ev T C (.rng2 (.cst (.int 1)) (.cst (.int 6)))).i) (fc := (ev T C .yes).t) (fe := (ev T C (.call 4 (.cons (.var 7) (.cons (.var 4) (.cons (.op .tup (.cons (.cst (.str "piece")) .nil)) .nil))))).e)
        rfl rfl rfl rfl (fun x hx => by
          have hx2 : x ∈ [PyData.int 1, .int 2, .int 3, .int 4, .int 5] := hx
          have hx3 : ∃ w : Int, x = .int w ∧ (w = 1 ∨ w = 2 ∨ w = 3 ∨ w = 4 ∨ w = 5) := by
            simp only [List.mem_cons, List.not_mem_nil, or_false] at hx2
            rcases hx2 with rfl | rfl | rfl | rfl | rfl
            · exact ⟨1, rfl, by omega⟩
            · exact ⟨2, rfl, by omega⟩
            · exact ⟨3, rfl, by omega⟩
            · exact ⟨4, rfl, by omega⟩
            · exact ⟨5, rfl, by omega⟩
          obtain ⟨w, rfl, hw⟩ := hx3
          have e23 : Fd (k + 60) 23 [.fz (.int w), .fz v', .fz pcD] = _ := tws w hw
          let N7 : En := [sc, .ow d2, tu, ru, .fz v', ch, .fz (.str s), .fz (.int w)]
          have ep := e_tup (T := T) (C := C) (n := N7) (n1 := N7) (ds := [.str "piece"]) (as := (.cons (.cst (.str "piece")) .nil)) rfl (show 1 ≤ sizeLine by omega)
          exact ⟨N7, rfl, rfl, rfl, fun _ => ⟨.fr (.str s), e_callV t4 (l_cons (a := .var 7) (d := .int w) rfl (l_cons (a := .var 4) (d := v') rfl (l_cons (op_of (a := .op .tup (.cons (.cst (.str "piece")) .nil)) (fun _ _ => rfl) ep) l_nil))) e23, rfl⟩⟩) (by show 5 ≤ sizeLine; omega)
      rw [ft] at lc
      have lc : (ev T C l_law_0).e (N d2 v' (.fz (.str s))) = .ok (.nw (.list [.str s, .str s, .str s, .str s, .str s])) (N d2 v' (.fz (.str s))) := lc
      have l1 := e_lst (T := T) (C := C) (n := N d2 v' (.fz (.str s))) (n1 := N d2 v' (.fz (.str s))) (ds := [.str s]) (as := (.cons (.var 6) .nil)) rfl (show 1 ≤ sizeLine by omega)
      have em : (ev T C (.op (.bin .mul) (.cons (.op .lst (.cons (.var 6) .nil)) (.cons (.cst (.int 5)) .nil)))).e (N d2 v' (.fz (.str s))) = .ok (.nw (.list [.str s, .str s, .str s, .str s, .str s])) (N d2 v' (.fz (.str s))) := by
        refine e_two rfl (op_of (a := .op .lst (.cons (.var 6) .nil)) (fun _ _ => rfl) l1) (op_of (r := .fr (.int 5)) (n1 := N d2 v' (.fz (.str s))) (fun _ _ => rfl) rfl) rfl rfl ?_
        have y : (if rngOk 5 && fitL 5 then some (R.nw (.list (List.replicate 5 [PyData.str s]).flatten)) else none) = some (.nw (.list [.str s, .str s, .str s, .str s, .str s])) := by
          rw [show fitL 5 = true from decide_eq_true (by omega)]; rfl
        exact y
      obtain ⟨h1, h2⟩ := shS hs
      refine t_cmp (op_of (a := l_law_0) (fun _ _ => rfl) lc) (op_of (a := .op (.bin .mul) (.cons (.op .lst (.cons (.var 6) .nil)) (.cons (.cst (.int 5)) .nil))) (fun _ _ => rfl) em) rfl rfl ?_
      show (if SeqAt.shaped (.list [.str s, .str s, .str s, .str s, .str s]) && SeqAt.shaped (.list [.str s, .str s, .str s, .str s, .str s]) then some (!PyData.eqv (.list [.str s, .str s, .str s, .str s, .str s]) (.list [.str s, .str s, .str s, .str s, .str s])) else none) = _
      rw [h1, h2]; rfl
  exact ⟨d2, v', .fz (outD v'), sv_nx g0 (sv_nx g1 (sv_nx (sv_iff ag sv_end) (sv_nx (sv_iff tc sv_end) sv_end))), st2, q2, z2, rfl⟩
theorem law3 {d v : PyData} {sc tu ru ch du : Sl} (hch : np ch) (hd : St d) (q : okV 4 24 v) (hv : sz v ≤ 8000) (hdu : np du) : ∃ d' v' ch' du', forGo (.nm 5) (sv T C b_law_0) [.int 0, .int 1, .int 2] [sc, .ow d, tu, ru, .fz v, ch, du, .un] = .nx [sc, .ow d', tu, ru, .fz v', ch', du', .un] ∧ St d' ∧ np ch' ∧ np du' := by
  have hp : ∀ (x d v : PyData) (c du : Sl), np c → (Tg.nm 5).put x [sc, .ow d, tu, ru, .fz v, c, du, .un] = some [sc, .ow d, tu, ru, .fz v, .fz x, du, .un] := fun x d v c du hc => by
    show setAll _ [5] [x] = _
    rw [setAll_cons (t := c) rfl hc]; rfl
  obtain ⟨d1, v1, du1, e1, s1, q1, z1, n1⟩ := law0 k hz t1 t4 t5 t6 t7 t8 (C := C) (sc := sc) (tu := tu) (ru := ru) (ch := .fz (.int 0)) (b := 4) (h := 24) (by omega) (by omega) (by omega) (by omega) hd q (by omega) hdu
  obtain ⟨d2, v2, du2, e2, s2, q2, z2, n2⟩ := law0 k hz t1 t4 t5 t6 t7 t8 (C := C) (sc := sc) (tu := tu) (ru := ru) (ch := .fz (.int 1)) (b := 10) (h := 28) (by omega) (by omega) (by omega) (by omega) s1 q1 (by omega) n1
  obtain ⟨d3, v3, du3, e3, s3, q3, z3, n3⟩ := law0 k hz t1 t4 t5 t6 t7 t8 (C := C) (sc := sc) (tu := tu) (ru := ru) (ch := .fz (.int 2)) (b := 22) (h := 32) (by omega) (by omega) (by omega) (by omega) s2 q2 (by omega) n2
  refine ⟨d3, v3, .fz (.int 2), du3, ?_, s3, rfl, n3⟩
  rw [forGo_cons, hp _ _ _ _ _ hch]
  dsimp only
  rw [e1]
  dsimp only
  rw [forGo_cons, hp _ _ _ _ _ (np_fz _)]
  dsimp only
  rw [e2]
  dsimp only
  rw [forGo_cons, hp _ _ _ _ _ (np_fz _)]
  dsimp only
  rw [e3]
  rfl
include t2 t3
theorem law1 {d : PyData} {sc tu ru va ch du : Sl} (hd : St d) (hru : np ru) (hva : np va) (hch : np ch) (hdu : np du) : ∃ d' ru' va' ch' du', sv T C b_law_1 [sc, .ow d, tu, ru, va, ch, du, .un] = .nx [sc, .ow d', tu, ru', va', ch', du', .un] ∧ St d' ∧ np ru' ∧ np va' ∧ np ch' ∧ np du' := by
  let N : PyData → Sl → Sl → En := fun d ru va => [sc, .ow d, tu, ru, va, ch, du, .un]
  obtain ⟨w, d1, e1, st1, w0, w1⟩ := draw (k + 60) hd (m := 3) (by omega) (by omega)
  have ew : (ev T C (.call 1 (.cons (.io 1) (.cons (.cst (.int 3)) .nil)))).e (N d ru va) = .ok (.fr (.int w)) (N d1 ru va) := e_ioO (y := .int 3) t1 rfl e1
  have tw : (ev T C (.op (.cmp .eq) (.cons (.call 1 (.cons (.io 1) (.cons (.cst (.int 3)) .nil))) (.cons (.cst (.int 0)) .nil)))).t (N d ru va) = .ok (decide (w = 0)) (N d1 ru va) := by
    refine t_cmp (op_of (a := .call 1 (.cons (.io 1) (.cons (.cst (.int 3)) .nil))) (fun _ _ => rfl) ew) (op_of (r := .fr (.int 0)) (n1 := N d1 ru va) (fun _ _ => rfl) rfl) rfl rfl ?_
    show (if SeqAt.shaped (.int w) && SeqAt.shaped (.int 0) then some (PyData.eqv (.int w) (.int 0)) else none) = _
    rw [shaped_int, shaped_int, eqv_int]; rfl
  have step : ∃ d2 v, (ev T C (.ife (.op (.cmp .eq) (.cons (.call 1 (.cons (.io 1) (.cons (.cst (.int 3)) .nil))) (.cons (.cst (.int 0)) .nil))) (.call 2 (.cons (.io 1) .nil)) (.call 3 (.cons (.io 1) (.cons (.op (.bin .add) (.cons (.cst (.int 1)) (.cons (.call 1 (.cons (.io 1) (.cons (.cst (.int 6)) .nil))) .nil))) .nil))))).e (N d ru va) = .ok (.fr v) (N d2 ru va) ∧ St d2 ∧ okV 4 24 v ∧ sz v ≤ 8000 := by
    by_cases hw : w = 0
    · rw [decide_eq_true hw] at tw
      obtain ⟨v, d2, e2, st2, q2, z2⟩ := F22 (k + 57) hz st1
      have e2 : Fd (k + 60) 22 [.pn d1] = _ := e2
      exact ⟨d2, v, e_ifE tw (e_io1 t2 e2), st2, q2, z2⟩
    · rw [decide_eq_false hw] at tw
      obtain ⟨u, d2, e2, st2, u0, u1⟩ := draw (k + 60) st1 (m := 6) (by omega) (by omega)
      obtain ⟨v, d3, e3, st3, q3, z3⟩ := (RT (by omega) 6 (k + 52)).1 d2 (1 + u) st2 (by omega)
      have e3 : Fd (k + 60) 13 [.pn d2, .fz (.int (1 + u))] = _ := e3
      have g6 : GG 6 = 2915 := rfl
      have eu : (ev T C (.call 1 (.cons (.io 1) (.cons (.cst (.int 6)) .nil)))).e (N d1 ru va) = .ok (.fr (.int u)) (N d2 ru va) := e_ioO (y := .int 6) t1 rfl e2
      have ea : (ev T C (.op (.bin .add) (.cons (.cst (.int 1)) (.cons (.call 1 (.cons (.io 1) (.cons (.cst (.int 6)) .nil))) .nil)))).e (N d1 ru va) = .ok (.fr (.int (1 + u))) (N d2 ru va) := e_two rfl (op_of (r := .fr (.int 1)) (n1 := N d1 ru va) (fun _ _ => rfl) rfl) (op_of (a := .call 1 (.cons (.io 1) (.cons (.cst (.int 6)) .nil))) (fun _ _ => rfl) eu) rfl rfl rfl
      exact ⟨d3, v, e_ifE tw (e_ioX (y := .int (1 + u)) t3 (op_of (a := .op (.bin .add) (.cons (.cst (.int 1)) (.cons (.call 1 (.cons (.io 1) (.cons (.cst (.int 6)) .nil))) .nil))) (fun _ _ => rfl) ea) e3), st3, okV_mono (Nat.le_refl _) (by omega) q3, by omega⟩
  obtain ⟨d2, v, es, st2, q2, z2⟩ := step
  have g0 := sv_set (T := T) (C := C) (i := 3) (t := ru) es rfl hru
  have e21 : Fd (k + 60) 21 [.fz v] = _ := F21 (k + 58) 4 24 q2 (by omega) (by omega)
  have ed : (ev T C (.call 5 (.cons (.var 3) .nil))).e (N d2 (.fz v) va) = .ok (.fr (outD v)) (N d2 (.fz v) va) := e_call1 (a := .var 3) t5 rfl e21 rfl
  have ag := agree k hz t4 t5 t6 (C := C) q2 (by omega) (by omega) (n := N d2 (.fz v) va) (i := 3) rfl (a := .call 5 (.cons (.var 3) .nil)) (op_of (fun _ _ => rfl) ed)
  have g2 : sv T C (.set (.nm 4) (.var 3)) (N d2 (.fz v) va) = .nx (N d2 (.fz v) (.fz v)) := sv_set (r := .fr v) (n1 := N d2 (.fz v) va) (t := va) rfl rfl hva
  obtain ⟨d3, v3, ch3, du3, e3, st3, n3, m3⟩ := law3 k hz t1 t4 t5 t6 t7 t8 (C := C) (sc := sc) (tu := tu) (ru := .fz v) hch st2 q2 z2 hdu
  have g3 : sv T C (.for_ (.nm 5) (.rng1 (.cst (.int 3))) b_law_0) (N d2 (.fz v) (.fz v)) = .nx [sc, .ow d3, tu, .fz v, .fz v3, ch3, du3, .un] := sv_for (xs := rangeD 0 3) (n1 := N d2 (.fz v) (.fz v)) (rng1_ok (i := 3) (op_of (r := .fr (.int 3)) (fun _ _ => rfl) rfl) rfl (by decide)) e3
  exact ⟨d3, .fz v, .fz v3, ch3, du3, sv_nx g0 (sv_nx (sv_iff ag sv_end) (sv_nx g2 (sv_nx g3 sv_end))), st3, rfl, rfl, n3, m3⟩
end
theorem F24 (k : Nat) (ns : List Int) : ∃ ds, Fd (k + 61) 24 [.fz (.list (ns.map PyData.int))] = .ret (.fr (.bool true)) ds := by
  have hz : 1000000 ≤ sizeLine := by rw [sizeLine_eq]; decide
  obtain ⟨d, e5, s1⟩ := F5 (k + 60) ns
  have t0 : locT c_law.calls (tbl cs (k + 61)) 0 = some (1, Fd (k + 60) 5) := rfl
  have t1 : locT c_law.calls (tbl cs (k + 61)) 1 = some (2, Fd (k + 60) 6) := rfl
  have t2 : locT c_law.calls (tbl cs (k + 61)) 2 = some (1, Fd (k + 60) 22) := rfl
  have t3 : locT c_law.calls (tbl cs (k + 61)) 3 = some (2, Fd (k + 60) 13) := rfl
  have t4 : locT c_law.calls (tbl cs (k + 61)) 4 = some (3, Fd (k + 60) 23) := rfl
  have t5 : locT c_law.calls (tbl cs (k + 61)) 5 = some (1, Fd (k + 60) 21) := rfl
  have t6 : locT c_law.calls (tbl cs (k + 61)) 6 = some (2, Fd (k + 60) 8) := rfl
  have t7 : locT c_law.calls (tbl cs (k + 61)) 7 = some (2, Fd (k + 60) 11) := rfl
  have t8 : locT c_law.calls (tbl cs (k + 61)) 8 = some (2, Fd (k + 60) 14) := rfl
  have t9 : locT c_law.calls (tbl cs (k + 61)) 9 = some (1, Fd (k + 60) 10) := rfl
  rw [U24]
  generalize locT c_law.calls (tbl cs (k + 61)) = T at *
  generalize cstC c_law.gcs = C at *
  let sc : Sl := .fz (.list (ns.map PyData.int))
  obtain ⟨n', e, d', t', ru', va', ch', du', rfl, s, _⟩ := forGo_inv (t := .nm 2) (b := sv T C b_law_1) (fun _ n => ∃ d t ru va ch du, n = [sc, .ow d, t, ru, va, ch, du, .un] ∧ St d ∧ np t ∧ np ru ∧ np va ∧ np ch ∧ np du) (by
    rintro x xs n ⟨d, t, ru, va, ch, du, rfl, g1, g2, g3, g4, g5, g6⟩
    obtain ⟨d', ru', va', ch', du', e, k1, k2, k3, k4, k5⟩ := law1 k hz t1 t2 t3 t4 t5 t6 t7 t8 (C := C) (sc := sc) (tu := .fz x) g1 g3 g4 g5 g6
    exact ⟨[sc, .ow d, .fz x, ru, va, ch, du, .un], _, by show setAll _ [2] [x] = _; rw [setAll_cons (t := t) rfl g2]; rfl, e, d', .fz x, ru', va', ch', du', rfl, k1, rfl, k2, k3, k4, k5⟩) (rangeD 0 5) [sc, .ow d, .un, .un, .un, .un, .un, .un] ⟨d, .un, .un, .un, .un, .un, rfl, s1, rfl, rfl, rfl, rfl, rfl⟩
  obtain ⟨x, d2, e10, s2, q2, z2, w2⟩ := oddm (k + 58) s
  have e10 : Fd (k + 60) 10 [.pn d'] = _ := e10
  have ho : outD x = .str "form" := by unfold outD outR; rw [w2]; rfl
  let n0 : En := [sc, .un, .un, .un, .un, .un, .un, .un]
  let N : PyData → En := fun d => [sc, .ow d, t', ru', va', ch', du', .un]
  have g0 : sv T C (.set (.nm 1) (.call 0 (.cons (.var 0) .nil))) n0 = .nx [sc, .ow d, .un, .un, .un, .un, .un, .un] := sv_set (r := .nw d) (n1 := n0) (t := .un) (e_call1 (a := .var 0) (x := .list (ns.map PyData.int)) t0 rfl e5 rfl) rfl rfl
  have g1 : sv T C (.for_ (.nm 2) (.rng1 (.cst (.int 5))) b_law_1) [sc, .ow d, .un, .un, .un, .un, .un, .un] = .nx (N d') := sv_for (xs := rangeD 0 5) (n1 := [sc, .ow d, .un, .un, .un, .un, .un, .un]) (rng1_ok (i := 5) (op_of (r := .fr (.int 5)) (fun _ _ => rfl) rfl) rfl (by decide)) e
  have ex : (ev T C (.call 9 (.cons (.io 1) .nil))).e (N d') = .ok (.fr x) (N d2) := e_io1 t9 e10
  have e23 : Fd (k + 60) 23 [.fz (.int 0), .fz x, .fz .none] = _ := F23_0 (k + 36) 2 2 (by omega) q2 (by omega) .none
  have et := e_callV (T := T) (C := C) (n := N d') (n1 := N d2) t4 (l_cons (a := .cst (.int 0)) (d := .int 0) rfl (l_cons (op_of (a := .call 9 (.cons (.io 1) .nil)) (fun _ _ => rfl) ex) (l_cons (a := .cst .none) (d := .none) rfl l_nil))) e23
  have e8 := F8 (k + 60) (due_cases x)
  have es := e_call2 (T := T) (C := C) t6 (op_of (a := .call 4 (.cons (.cst (.int 0)) (.cons (.call 9 (.cons (.io 1) .nil)) (.cons (.cst .none) .nil)))) (fun _ _ => rfl) et) (op_of (a := .cst (.str "form")) (r := .fr (outD x)) (n1 := N d2) (fun _ _ => rfl) (by rw [ho]; rfl)) e8 rfl
  exact ⟨_, def_rt (m := 8) (ss := [sc]) (n1 := N d2) (sv_nx g0 (sv_nx g1 (sv_rt (sv_ret es))))⟩
theorem FL (ns : List Int) : ∃ ds, Fd 80 24 [.fz (.list (ns.map PyData.int))] = .ret (.fr (.bool true)) ds := F24 19 ns
end Z

set_option Elab.async false
set_option linter.all false
set_option maxRecDepth 100000
set_option maxHeartbeats 0
namespace Z
open PySem PySem.Spec PyProof.Rows L2
theorem bi_is_integer : BindP c_is_integer.ar c_is_integer.N d_is_integer := fun kV doc pm an cdv ct us hl => match us, hl with | [_], _ => rfl
theorem bi_is_number : BindP c_is_number.ar c_is_number.N d_is_number := fun kV doc pm an cdv ct us hl => match us, hl with | [_, _], _ => rfl
theorem bi_is_test : BindP c_is_test.ar c_is_test.N d_is_test := fun kV doc pm an cdv ct us hl => match us, hl with | [_, _], _ => rfl
theorem bi_inner : BindP c_inner.ar c_inner.N d_inner := fun kV doc pm an cdv ct us hl => match us, hl with | [_], _ => rfl
theorem bi_parts_of : BindP c_parts_of.ar c_parts_of.N d_parts_of := fun kV doc pm an cdv ct us hl => match us, hl with | [_], _ => rfl
theorem bi__law_start : BindP c__law_start.ar c__law_start.N d__law_start := fun kV doc pm an cdv ct us hl => match us, hl with | [_], _ => rfl
theorem bi__law_draw : BindP c__law_draw.ar c__law_draw.N d__law_draw := fun kV doc pm an cdv ct us hl => match us, hl with | [_, _], _ => rfl
theorem bi__law_pick : BindP c__law_pick.ar c__law_pick.N d__law_pick := fun kV doc pm an cdv ct us hl => match us, hl with | [_, _], _ => rfl
theorem bi__law_same : BindP c__law_same.ar c__law_same.N d__law_same := fun kV doc pm an cdv ct us hl => match us, hl with | [_, _], _ => rfl
theorem bi_within_limits : BindP c_within_limits.ar c_within_limits.N d_within_limits := fun kV doc pm an cdv ct us hl => match us, hl with | [_], _ => rfl
theorem bi__law_odd : BindP c__law_odd.ar c__law_odd.N d__law_odd := fun kV doc pm an cdv ct us hl => match us, hl with | [_], _ => rfl
theorem bi__law_spoilt : BindP c__law_spoilt.ar c__law_spoilt.N d__law_spoilt := fun kV doc pm an cdv ct us hl => match us, hl with | [_, _], _ => rfl
theorem bi_check_rule : BindP c_check_rule.ar c_check_rule.N d_check_rule := fun kV doc pm an cdv ct us hl => match us, hl with | [_], _ => rfl
theorem bi__law_rule : BindP c__law_rule.ar c__law_rule.N d__law_rule := fun kV doc pm an cdv ct us hl => match us, hl with | [_, _], _ => rfl
theorem bi__law_test : BindP c__law_test.ar c__law_test.N d__law_test := fun kV doc pm an cdv ct us hl => match us, hl with | [_, _], _ => rfl
theorem bi_chosen : BindP c_chosen.ar c_chosen.N d_chosen := fun kV doc pm an cdv ct us hl => match us, hl with | [_, _], _ => rfl
theorem bi_choices : BindP c_choices.ar c_choices.N d_choices := fun kV doc pm an cdv ct us hl => match us, hl with | [_, _], _ => rfl
theorem bi_first_difference : BindP c_first_difference.ar c_first_difference.N d_first_difference := fun kV doc pm an cdv ct us hl => match us, hl with | [_, _, _], _ => rfl
theorem bi_write_rule : BindP c_write_rule.ar c_write_rule.N d_write_rule := fun kV doc pm an cdv ct us hl => match us, hl with | [_], _ => rfl
theorem bi__law_is_int : BindP c__law_is_int.ar c__law_is_int.N d__law_is_int := fun kV doc pm an cdv ct us hl => match us, hl with | [_], _ => rfl
theorem bi__law_rule_form : BindP c__law_rule_form.ar c__law_rule_form.N d__law_rule_form := fun kV doc pm an cdv ct us hl => match us, hl with | [_], _ => rfl
theorem bi__law_rule_due : BindP c__law_rule_due.ar c__law_rule_due.N d__law_rule_due := fun kV doc pm an cdv ct us hl => match us, hl with | [_], _ => rfl
theorem bi__law_wide_rule : BindP c__law_wide_rule.ar c__law_wide_rule.N d__law_wide_rule := fun kV doc pm an cdv ct us hl => match us, hl with | [_], _ => rfl
theorem bi__law_told : BindP c__law_told.ar c__law_told.N d__law_told := fun kV doc pm an cdv ct us hl => match us, hl with | [_, _, _], _ => rfl
theorem bi_law : BindP c_law.ar c_law.N d_law := fun kV doc pm an cdv ct us hl => match us, hl with | [_], _ => rfl
theorem hck : ∀ (i : Nat) (c : DefC), cs[i]? = some c → ∃ d, ds[i]? = some d ∧ ckD cs es c d = true ∧ BindP c.ar c.N d
  | 0, c, h => by cases h; exact ⟨_, rfl, ck_is_integer, bi_is_integer⟩
  | 1, c, h => by cases h; exact ⟨_, rfl, ck_is_number, bi_is_number⟩
  | 2, c, h => by cases h; exact ⟨_, rfl, ck_is_test, bi_is_test⟩
  | 3, c, h => by cases h; exact ⟨_, rfl, ck_inner, bi_inner⟩
  | 4, c, h => by cases h; exact ⟨_, rfl, ck_parts_of, bi_parts_of⟩
  | 5, c, h => by cases h; exact ⟨_, rfl, ck__law_start, bi__law_start⟩
  | 6, c, h => by cases h; exact ⟨_, rfl, ck__law_draw, bi__law_draw⟩
  | 7, c, h => by cases h; exact ⟨_, rfl, ck__law_pick, bi__law_pick⟩
  | 8, c, h => by cases h; exact ⟨_, rfl, ck__law_same, bi__law_same⟩
  | 9, c, h => by cases h; exact ⟨_, rfl, ck_within_limits, bi_within_limits⟩
  | 10, c, h => by cases h; exact ⟨_, rfl, ck__law_odd, bi__law_odd⟩
  | 11, c, h => by cases h; exact ⟨_, rfl, ck__law_spoilt, bi__law_spoilt⟩
  | 12, c, h => by cases h; exact ⟨_, rfl, ck_check_rule, bi_check_rule⟩
  | 13, c, h => by cases h; exact ⟨_, rfl, ck__law_rule, bi__law_rule⟩
  | 14, c, h => by cases h; exact ⟨_, rfl, ck__law_test, bi__law_test⟩
  | 15, c, h => by cases h; exact ⟨_, rfl, ck_chosen, bi_chosen⟩
  | 16, c, h => by cases h; exact ⟨_, rfl, ck_choices, bi_choices⟩
  | 17, c, h => by cases h; exact ⟨_, rfl, ck_first_difference, bi_first_difference⟩
  | 18, c, h => by cases h; exact ⟨_, rfl, ck_write_rule, bi_write_rule⟩
  | 19, c, h => by cases h; exact ⟨_, rfl, ck__law_is_int, bi__law_is_int⟩
  | 20, c, h => by cases h; exact ⟨_, rfl, ck__law_rule_form, bi__law_rule_form⟩
  | 21, c, h => by cases h; exact ⟨_, rfl, ck__law_rule_due, bi__law_rule_due⟩
  | 22, c, h => by cases h; exact ⟨_, rfl, ck__law_wide_rule, bi__law_wide_rule⟩
  | 23, c, h => by cases h; exact ⟨_, rfl, ck__law_told, bi__law_told⟩
  | 24, c, h => by cases h; exact ⟨_, rfl, ck_law, bi_law⟩
  | n + 25, c, h => by cases h
theorem roomL : Room 81 callerA := ⟨rfl, by decide, by decide⟩
end Z
open PySem PySem.W PySem.Calls PyProof.Rows
theorem PySem.Challenge.cw_reelhouse_k05_rules_of_any_value_holds : PySem.Challenge.rw_reelhouse_k05_rules_of_any_value.Holds := by
  w_on; o_law
  refine HandSHeadRun.head_any (r := OpenLaw.row PySem.Challenge.rw_reelhouse_k05_rules_of_any_value) (q := view (OpenLaw.row PySem.Challenge.rw_reelhouse_k05_rules_of_any_value).prog [Z.lawAt]) (H := Z.hk) (ob := Z.ob) (M := 4000) (loose := Z.names) (d := HandSHeadRun.topDef (OpenLaw.row PySem.Challenge.rw_reelhouse_k05_rules_of_any_value).prog Z.lawAt) (kwd := []) Z.ob_eq
    (by kernel_rfl) (fun s => by kernel_rfl) Z.run (by kernel_rfl) (by kernel_rfl) (by kernel_rfl) (by rfl) (by first | assumption | decide +kernel) (by decide +kernel) ⟨rfl, rfl, rfl, rfl, rfl, by decide +kernel⟩ ?hw ?hc
  case hw => w_witness2
  case hc =>
    exact Z.walkZ (l := PySem.Challenge.rw_reelhouse_k05_rules_of_any_value) (n := 63) (k := 81) (N := 6) (id := 24) (x := "script") (cs := Z.cs) (ds := Z.ds) (es := Z.es) (c := Z.c_law) (fm := Z.Fd 80 24) rfl (by decide) (by kernel_rfl) Z.roomL Z.ci (by decide +kernel) Z.hck rfl (by kernel_rfl) rfl rfl (fun ns _ => Z.FL ns)

